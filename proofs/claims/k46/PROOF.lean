import PyProof.Rows.All
import Wide.All
import OpenK.AllK
import Wide.FinOn
import HandS.ForMost
import HandS.Wide
import HandS.TupAny
import HandS.Style
import HandS.IsInst
import HandS.Flow
import HandS.Deep
import HandS.Text
import HandS.Zip
import HandS.Rev
import HandS.More
import PyProof.ReprRoads
import KE.KDictZip
import KE.GoesZip
import KE.GoesMore
import KE.GoesEnum
import HandS.TryOnly
import KE.KRevIter
import HandS.Conv
import HandS.SortKw
import HandS.RaiseMore
import PyProof.TableCode
import PyProof.ReprLen
import PySem.Challenge.RW_turnpaper_k46_programs_written
set_option Elab.async false
set_option linter.all false
set_option maxRecDepth 100000
/-! TPa: plain data, the store, worlds. -/
namespace TP
open PySem L2

/-- plain data; ref k: the k-th thing of the store -/
inductive D where
  | non | bl (b : Bool) | int (i : Int) | str (x : Str) | tup (xs : List D) | lst (xs : List D) | fro (xs : List D) | kt (xs : List D) | ref (k : Nat)
  deriving Inhabited

/-- a thing of the store, which may be changed -/
inductive MO where
  | lst (xs : List D)
  | dK (kvs : List (Key × D))
  | dT (kvs : List (List Key × D))
  | ins (c : Str) (fs : List (Str × D))
abbrev Store := List MO

section
variable (K : PySem.W.Frag) (A : List Addr) (G : Hp)
mutual
inductive Rep : V → D → Prop
  | non : Rep .non .non
  | bl (b : Bool) : Rep (.bl b) (.bl b)
  | int (i : Int) : Rep (.int i) (.int i)
  | str (x : Str) : Rep (.str x) (.str x)
  | tup {a : Addr} {vs : List V} {ds : List D} : G a = some (.tup vs) → RepL vs ds → Rep (.ref a) (.tup ds)
  | kt {a : Addr} {vs : List V} {ds : List D} : SqT K G a vs → RepL vs ds → Rep (.ref a) (.kt ds)
  | lst {a : Addr} {vs : List V} {ds : List D} : G a = some (.lst vs) → RepL vs ds → Rep (.ref a) (.lst ds)
  | fro {a : Addr} {vs : List V} {ds : List D} : SqL K G a vs → RepL vs ds → Rep (.ref a) (.fro ds)
  | ref {a : Addr} {k : Nat} : A[k]? = some a → Rep (.ref a) (.ref k)
inductive RepL : List V → List D → Prop
  | nil : RepL [] []
  | cons {v : V} {vs : List V} {d : D} {ds : List D} : Rep v d → RepL vs ds → RepL (v :: vs) (d :: ds)
end
end

theorem sqT_mono {K : PySem.W.Frag} {G G' : Hp} {a : Addr} {xs : List V} (e : Same G G') (h : SqT K G a xs) : SqT K G' a xs := by
  rcases h with (h | ⟨o, h⟩) | h
  · exact .inl (.inl (e _ _ h))
  · exact .inl (.inr ⟨o, e _ _ h⟩)
  · exact .inr h

section
variable {K : PySem.W.Frag} {A A' : List Addr} {G G' : Hp}
theorem pre_get {α : Type} {l l' : List α} (h : l <+: l') {k : Nat} {a : α} (e : l[k]? = some a) : l'[k]? = some a := by
  obtain ⟨t, rfl⟩ := h
  rw [List.getElem?_append_left (List.getElem?_eq_some_iff.mp e).1]
  exact e
mutual
theorem Rep.mono (hA : A <+: A') (hG : Same G G') : ∀ (d : D) (v : V), Rep K A G v d → Rep K A' G' v d
  | .non, _, h => by cases h; exact .non
  | .bl b, _, h => by cases h; exact .bl b
  | .int i, _, h => by cases h; exact .int i
  | .str x, _, h => by cases h; exact .str x
  | .tup ds, _, h => by
    cases h with
    | tup hs hr => exact .tup (hG _ _ hs) (RepL.mono hA hG ds _ hr)
  | .kt ds, _, h => by
    cases h with
    | kt hs hr => exact .kt (sqT_mono hG hs) (RepL.mono hA hG ds _ hr)
  | .lst ds, _, h => by
    cases h with
    | lst hs hr => exact .lst (hG _ _ hs) (RepL.mono hA hG ds _ hr)
  | .fro ds, _, h => by
    cases h with
    | fro hs hr => exact .fro (hG.seq hs) (RepL.mono hA hG ds _ hr)
  | .ref k, _, h => by
    cases h with
    | ref e => exact .ref (pre_get hA e)
theorem RepL.mono (hA : A <+: A') (hG : Same G G') : ∀ (ds : List D) (vs : List V), RepL K A G vs ds → RepL K A' G' vs ds
  | [], _, h => by cases h; exact .nil
  | d :: ds, _, h => by
    cases h with
    | cons h1 h2 => exact .cons (Rep.mono hA hG d _ h1) (RepL.mono hA hG ds _ h2)
end

theorem RepL.length : ∀ {vs : List V} {ds : List D}, RepL K A G vs ds → vs.length = ds.length
  | [], [], _ => rfl
  | _ :: vs, _ :: ds, h => by
    cases h with
    | cons _ h2 => rw [List.length_cons, List.length_cons, RepL.length h2]
theorem RepL.get : ∀ {vs : List V} {ds : List D} {i : Nat} {d : D}, RepL K A G vs ds → ds[i]? = some d → ∃ v, vs[i]? = some v ∧ Rep K A G v d
  | [], [], _, _, _, e => by simp at e
  | _ :: _, _ :: _, 0, _, h, e => by
    cases h with
    | cons h1 _ => simp at e; subst e; exact ⟨_, rfl, h1⟩
  | _ :: _, _ :: _, i + 1, _, h, e => by
    cases h with
    | cons _ h2 =>
      obtain ⟨v, a, b⟩ := RepL.get (i := i) h2 (by simpa using e)
      exact ⟨v, by simpa using a, b⟩
theorem RepL.get' : ∀ {vs : List V} {ds : List D} {i : Nat} {v : V}, RepL K A G vs ds → vs[i]? = some v → ∃ d, ds[i]? = some d ∧ Rep K A G v d
  | [], [], _, _, _, e => by simp at e
  | _ :: _, _ :: _, 0, _, h, e => by
    cases h with
    | cons h1 _ => simp at e; subst e; exact ⟨_, rfl, h1⟩
  | _ :: _, _ :: _, i + 1, _, h, e => by
    cases h with
    | cons _ h2 =>
      obtain ⟨v, a, b⟩ := RepL.get' (i := i) h2 (by simpa using e)
      exact ⟨v, by simpa using a, b⟩
theorem RepL.append : ∀ {vs ws : List V} {ds es : List D}, RepL K A G vs ds → RepL K A G ws es → RepL K A G (vs ++ ws) (ds ++ es)
  | [], _, [], _, _, s => s
  | _ :: vs, _, _ :: ds, _, .cons r t, s => .cons r (RepL.append t s)
theorem RepL.take : ∀ {vs : List V} {ds : List D} (n : Nat), RepL K A G vs ds → RepL K A G (vs.take n) (ds.take n)
  | _, _, 0, _ => .nil
  | [], [], _ + 1, _ => .nil
  | _ :: _, _ :: _, n + 1, .cons r t => .cons r (RepL.take n t)
theorem RepL.drop : ∀ {vs : List V} {ds : List D} (n : Nat), RepL K A G vs ds → RepL K A G (vs.drop n) (ds.drop n)
  | _, _, 0, r => r
  | [], [], _ + 1, _ => .nil
  | _ :: _, _ :: _, n + 1, .cons _ t => RepL.drop n t
theorem RepL.set {v : V} {d : D} (r : Rep K A G v d) : ∀ {vs : List V} {ds : List D} (i : Nat), RepL K A G vs ds → RepL K A G (vs.set i v) (ds.set i d)
  | [], [], _, _ => .nil
  | _ :: _, _ :: _, 0, .cons _ t => .cons r t
  | _ :: _, _ :: _, i + 1, .cons q t => .cons q (RepL.set r i t)
theorem RepL.dropLast {vs : List V} {ds : List D} (h : RepL K A G vs ds) : RepL K A G vs.dropLast ds.dropLast := by
  rw [List.dropLast_eq_take, List.dropLast_eq_take, h.length]
  exact h.take _
theorem RepL.one {v : V} {d : D} (h : Rep K A G v d) : RepL K A G [v] [d] := .cons h .nil
theorem RepL.reverse : ∀ {vs : List V} {ds : List D}, RepL K A G vs ds → RepL K A G vs.reverse ds.reverse
  | [], [], _ => .nil
  | _ :: vs, _ :: ds, .cons r t => by
    rw [List.reverse_cons, List.reverse_cons]
    exact (RepL.reverse t).append (.one r)
theorem RepL.nil_iff {vs : List V} {ds : List D} (h : RepL K A G vs ds) : vs = [] ↔ ds = [] := by
  cases h <;> simp
end

/-- a world: the addresses of the store's things, the frozen heap, the store, the heap -/
structure Wd where
  A : List Addr
  G : Hp
  M : Store
  H : Hp

/-- values of a dict, pairwise -/
inductive RepKV {κ : Type} (R : V → D → Prop) : List (κ × V) → List (κ × D) → Prop
  | nil : RepKV R [] []
  | cons {k : κ} {v : V} {d : D} {vs : List (κ × V)} {ds : List (κ × D)} : R v d → RepKV R vs ds → RepKV R ((k, v) :: vs) ((k, d) :: ds)
theorem RepKV.imp {κ : Type} {R R' : V → D → Prop} (f : ∀ v d, R v d → R' v d) : ∀ {vs : List (κ × V)} {ds : List (κ × D)}, RepKV R vs ds → RepKV R' vs ds
  | _, _, .nil => .nil
  | _, _, .cons r t => .cons (f _ _ r) (RepKV.imp f t)

/-- where a class of the text stands -/
def clsAt (K : PySem.W.Frag) (c : Str) : Addr := match PySem.W.nsIn K mainGlobals c with
  | some (some (.ref a)) => a
  | _ => 0
/-- plain instances: their fields are no names of the class -/
def InsOk (K : PySem.W.Frag) (c : Str) (fs : List (Str × D)) : Prop := Cls K (clsAt K c) ∧ ∀ x ∈ fs, NoAttr K (clsAt K c) x.1
section
variable (K : PySem.W.Frag)
/-- what stands at the address of a thing of the store -/
def MoR (w : Wd) (a : Addr) : MO → Prop
  | .lst ds => ∃ vs, w.H a = some (.lst vs) ∧ RepL K w.A w.G vs ds
  | .dK kvs => ∃ vs, w.H a = some (.dK vs) ∧ RepKV (Rep K w.A w.G) vs kvs
  | .dT kvs => ∃ vs, w.H a = some (.dT vs) ∧ RepKV (Rep K w.A w.G) vs kvs
  | .ins c fs => InsOk K c fs ∧ ∃ vs dx, w.H a = some (.ins (clsAt K c) dx vs) ∧ RepKV (Rep K w.A w.G) vs fs
structure Wd.Ok (w : Wd) : Prop where
  sub : Same w.G w.H
  nd : w.A.Nodup
  len : w.A.length = w.M.length
  out : ∀ a ∈ w.A, w.G a = none
  mos : ∀ (k : Nat) (o : MO), w.M[k]? = some o → ∃ a, w.A[k]? = some a ∧ MoR K w a o
/-- from one world to a later one: what is frozen stays, the store's addresses stay, what is owned by someone (neither frozen nor of the store) stays -/
structure Step (w w' : Wd) : Prop where
  ok : w'.Ok K
  pre : w.A <+: w'.A
  fro : Same w.G w'.G
  keep : ∀ p o, w.H p = some o → w.G p = none → p ∉ w.A → w'.H p = some o ∧ (w'.G p = none ∨ ∃ xs, o = .tup xs) ∧ p ∉ w'.A
end
section
variable {K : PySem.W.Frag} {w w1 w2 : Wd}
theorem Step.refl (h : w.Ok K) : Step K w w := ⟨h, List.prefix_refl _, Same.refl _, fun _ _ a b c => ⟨a, .inl b, c⟩⟩
theorem Step.trans (a : Step K w w1) (b : Step K w1 w2) : Step K w w2 :=
  ⟨b.ok, a.pre.trans b.pre, a.fro.trans b.fro, fun p o h1 h2 h3 => by
    obtain ⟨x, y, z⟩ := a.keep p o h1 h2 h3
    cases q : w1.G p with
    | none => exact b.keep p o x q z
    | some u =>
      have e1 := a.ok.sub _ _ q
      rw [x] at e1; cases e1
      have e2 := b.fro _ _ q
      refine ⟨b.ok.sub _ _ e2, .inr (y.elim (fun y => by rw [q] at y; cases y) id), fun hm => ?_⟩
      rw [b.ok.out _ hm] at e2; cases e2⟩
theorem Step.keepN (s : Step K w w1) (p : Addr) (o : HO) (h1 : w.H p = some o) (h2 : w.G p = none) (h3 : p ∉ w.A) (hn : ∀ xs, o ≠ .tup xs := by intro _ h; cases h) : w1.H p = some o ∧ w1.G p = none ∧ p ∉ w1.A :=
  let ⟨a, b, c⟩ := s.keep p o h1 h2 h3
  ⟨a, b.elim id fun ⟨xs, e⟩ => absurd e (hn xs), c⟩
theorem Step.rep (s : Step K w w1) {v : V} {d : D} (h : Rep K w.A w.G v d) : Rep K w1.A w1.G v d := Rep.mono s.pre s.fro d v h
theorem Step.repL (s : Step K w w1) {vs : List V} {ds : List D} (h : RepL K w.A w.G vs ds) : RepL K w1.A w1.G vs ds := RepL.mono s.pre s.fro ds vs h

/-- a new thing, frozen at once -/
theorem Wd.Ok.fresh (h : w.Ok K) {p : Addr} (hp : w.H p = none) (o : HO) : Step K w ⟨w.A, upd w.G p o, w.M, upd w.H p o⟩ := by
  have hG : w.G p = none := h.sub.free hp
  have sG : Same w.G (upd w.G p o) := fun b u e => by rw [upd_ne (ne_of_none e hG)]; exact e
  have npA : p ∉ w.A := fun hm => by
    obtain ⟨k, hk, e⟩ := List.mem_iff_getElem.mp hm
    have hk' : k < w.M.length := by rw [← h.len]; exact hk
    obtain ⟨a, ea, r⟩ := h.mos k w.M[k] (List.getElem?_eq_getElem hk')
    have e2 : a = p := by
      rw [List.getElem?_eq_getElem hk] at ea
      exact (Option.some.inj ea).symm.trans e
    subst e2
    cases q : w.M[k] with
    | lst ds => rw [q] at r; obtain ⟨_, z, _⟩ := r; rw [hp] at z; cases z
    | dK ds => rw [q] at r; obtain ⟨_, z, _⟩ := r; rw [hp] at z; cases z
    | dT ds => rw [q] at r; obtain ⟨_, z, _⟩ := r; rw [hp] at z; cases z
    | ins c fs => rw [q] at r; obtain ⟨_, _, _, z, _⟩ := r; rw [hp] at z; cases z
  refine ⟨⟨fun b u e => ?_, h.nd, h.len, fun a ha => ?_, fun k m e => ?_⟩, List.prefix_refl _, sG, fun q u h1 h2 h3 => ⟨?_, ?_, h3⟩⟩
  · show upd w.H p o b = some u
    by_cases hb : b = p
    · subst hb
      have e' : upd w.G b o b = some u := e
      rw [upd_same] at e' ⊢; exact e'
    · have e' : upd w.G p o b = some u := e
      rw [upd_ne hb] at e' ⊢; exact h.sub b u e'
  · show upd w.G p o a = none
    rw [upd_ne (fun z : a = p => npA (z ▸ ha))]
    exact h.out a ha
  · obtain ⟨a, ea, r⟩ := h.mos k m e
    refine ⟨a, ea, ?_⟩
    have rr : ∀ v d, Rep K w.A w.G v d → Rep K w.A (upd w.G p o) v d := fun v d => Rep.mono (List.prefix_refl _) sG d v
    cases m with
    | lst ds =>
      obtain ⟨vs, z, q⟩ := r
      exact ⟨vs, by show upd w.H p o a = _; rw [upd_ne (ne_of_none z hp)]; exact z, RepL.mono (List.prefix_refl _) sG _ _ q⟩
    | dK ds =>
      obtain ⟨vs, z, q⟩ := r
      exact ⟨vs, by show upd w.H p o a = _; rw [upd_ne (ne_of_none z hp)]; exact z, q.imp rr⟩
    | dT ds =>
      obtain ⟨vs, z, q⟩ := r
      exact ⟨vs, by show upd w.H p o a = _; rw [upd_ne (ne_of_none z hp)]; exact z, q.imp rr⟩
    | ins c fs =>
      obtain ⟨io, vs, dx, z, q⟩ := r
      exact ⟨io, vs, dx, by show upd w.H p o a = _; rw [upd_ne (ne_of_none z hp)]; exact z, q.imp rr⟩
  · show upd w.H p o q = some u
    rw [upd_ne (ne_of_none h1 hp)]; exact h1
  · refine .inl ?_
    show upd w.G p o q = none
    rw [upd_ne (ne_of_none h1 hp)]; exact h2
end
end TP
/-! TPb: slots, answers, the readings of expressions and statements. -/
namespace TP
open PySem L2

/-- a name's value: none known; plain data; a list that nobody else has -/
inductive Slot where
  | un | val (d : D) | own (ds : List D)
  deriving Inhabited
abbrev EnvD := List Slot
def Slot.d : Slot → D
  | .un => .non
  | .val d => d
  | .own ds => .lst ds

inductive R (α : Type) where
  | ok (a : α) (M : Store) | exc (c : Nat) (d : D) (M : Store) | bad
def R.bind {α β : Type} (r : R α) (f : α → Store → R β) : R β := match r with
  | .ok a M => f a M
  | .exc c d M => .exc c d M
  | .bad => .bad
def R.map {α β : Type} (f : α → β) (r : R α) : R β := match r with
  | .ok a M => .ok (f a) M
  | .exc c d M => .exc c d M
  | .bad => .bad
def R.of {α : Type} (o : Option α) (M : Store) : R α := match o with
  | some a => .ok a M
  | none => .bad

abbrev Wish := Nat → D → Wd → Prop

section
variable (K : PySem.W.Frag) (E : Wish)
def After {α : Type} (w : Wd) (r : R α) (P : α → Wd → Prop) : Prop := match r with
  | .ok a M => ∀ w', Step K w w' → w'.M = M → P a w'
  | .exc c d M => ∀ w', Step K w w' → w'.M = M → E c d w'
  | .bad => False
/-- the names' values -/
structure SR (w : Wd) (ρ : EnvD) (σ : St) : Prop where
  len : ρ.length = σ.length
  val : ∀ (i : Nat) (d : D), ρ[i]? = some (.val d) → ∃ v, σ[i]? = some (some v) ∧ Rep K w.A w.G v d
  own : ∀ (i : Nat) (ds : List D), ρ[i]? = some (.own ds) → ∃ p vs, σ[i]? = some (some (.ref p)) ∧ w.H p = some (.lst vs) ∧ w.G p = none ∧ p ∉ w.A ∧ RepL K w.A w.G vs ds
  dis : ∀ (i j : Nat) (ds es : List D) (p : Addr), ρ[i]? = some (.own ds) → ρ[j]? = some (.own es) → σ[i]? = some (some (.ref p)) → σ[j]? = some (some (.ref p)) → i = j
/-- what may be read -/
def RepB (w : Wd) (v : V) (d : D) : Prop := Rep K w.A w.G v d ∨ ∃ p vs ds, v = .ref p ∧ d = .lst ds ∧ w.H p = some (.lst vs) ∧ w.G p = none ∧ p ∉ w.A ∧ RepL K w.A w.G vs ds
/-- an expression's value: plain data, or a new list of one's own -/
def RepX (w w' : Wd) (v : V) : Slot → Prop
  | .un => False
  | .val d => Rep K w'.A w'.G v d
  | .own ds => ∃ p vs, v = .ref p ∧ w.H p = none ∧ w'.H p = some (.lst vs) ∧ w'.G p = none ∧ p ∉ w'.A ∧ RepL K w'.A w'.G vs ds
abbrev FE := EnvD → Store → R Slot
abbrev FD := EnvD → Store → R D
abbrev FL := EnvD → Store → R (List D)
abbrev FB := EnvD → Store → R Bool
def tE (f : FE) : TE := fun σ H Q => ∃ ρ w, w.H = H ∧ w.Ok K ∧ SR K w ρ σ ∧ After K E w (f ρ w.M) fun s w' => ∀ v, RepX K w w' v s → Q v w'.H
def tF (f : FD) : TE := fun σ H Q => ∃ ρ w, w.H = H ∧ w.Ok K ∧ SR K w ρ σ ∧ After K E w (f ρ w.M) fun d w' => ∀ v, Rep K w'.A w'.G v d → Q v w'.H
def tR (f : FD) : TE := fun σ H Q => ∃ ρ w, w.H = H ∧ w.Ok K ∧ SR K w ρ σ ∧ After K E w (f ρ w.M) fun d w' => ∀ v, RepB K w' v d → Q v w'.H
def tAF (f : FL) : TA := fun σ H Q => ∃ ρ w, w.H = H ∧ w.Ok K ∧ SR K w ρ σ ∧ After K E w (f ρ w.M) fun ds w' => ∀ vs, RepL K w'.A w'.G vs ds → Q vs w'.H
inductive RepBL (w : Wd) : List V → List D → Prop
  | nil : RepBL w [] []
  | cons {v : V} {vs : List V} {d : D} {ds : List D} : RepB K w v d → RepBL w vs ds → RepBL w (v :: vs) (d :: ds)
def tAR (f : FL) : TA := fun σ H Q => ∃ ρ w, w.H = H ∧ w.Ok K ∧ SR K w ρ σ ∧ After K E w (f ρ w.M) fun ds w' => ∀ vs, RepBL K w' vs ds → Q vs w'.H
def tT (f : FB) : TT := fun σ H Q => ∃ ρ w, w.H = H ∧ w.Ok K ∧ SR K w ρ σ ∧ After K E w (f ρ w.M) fun b w' => Q b w'.H
end

section
variable {K : PySem.W.Frag} {E : Wish}
theorem After.bind {α β : Type} {w : Wd} {r : R α} {f : α → Store → R β} {P : β → Wd → Prop} (h : After K E w (r.bind f) P) : After K E w r fun a w' => After K E w' (f a w'.M) P := by
  cases r with
  | bad => exact h
  | exc c d M => exact h
  | ok a M =>
    intro w1 s1 e1
    have h' : After K E w (f a M) P := h
    rw [e1]
    cases q : f a M with
    | bad => rw [q] at h'; exact h'
    | exc c d M2 => rw [q] at h'; exact fun w2 s2 e2 => h' w2 (s1.trans s2) e2
    | ok b M2 => rw [q] at h'; exact fun w2 s2 e2 => h' w2 (s1.trans s2) e2
theorem After.imp {α : Type} {w : Wd} {r : R α} {P P' : α → Wd → Prop} (h : After K E w r P) (f : ∀ a w', Step K w w' → P a w' → P' a w') : After K E w r P' := by
  cases r with
  | bad => exact h
  | exc c d M => exact h
  | ok a M => exact fun w1 s1 e1 => f a w1 s1 (h w1 s1 e1)
theorem After.map {α β : Type} {w : Wd} {r : R α} {g : α → β} {P : β → Wd → Prop} (h : After K E w (r.map g) P) : After K E w r fun a w' => P (g a) w' := by
  cases r with
  | bad => exact h
  | exc c d M => exact h
  | ok a M => exact h
theorem After.of {α : Type} {w w' : Wd} {o : Option α} {P : α → Wd → Prop} (h : After K E w (R.of o w.M) P) (hs : Step K w w') (hM : w'.M = w.M) : ∃ a, o = some a ∧ P a w' := by
  cases o with
  | none => exact h.elim
  | some a => exact ⟨a, rfl, h w' hs hM⟩
/-- from an earlier world -/
theorem After.later {α : Type} {w w1 : Wd} {r : R α} {P : α → Wd → Prop} (h : After K E w r P) (s : Step K w w1) : After K E w1 r P := by
  cases r with
  | bad => exact h
  | exc c d M => exact fun w2 s2 e2 => h w2 (s.trans s2) e2
  | ok a M => exact fun w2 s2 e2 => h w2 (s.trans s2) e2
theorem SR.step {w w' : Wd} {ρ : EnvD} {σ : St} (h : SR K w ρ σ) (s : Step K w w') : SR K w' ρ σ :=
  ⟨h.len, fun i d e => let ⟨v, a, b⟩ := h.val i d e; ⟨v, a, s.rep b⟩,
   fun i ds e => let ⟨p, vs, a, b, c, d, f⟩ := h.own i ds e; let ⟨b', c', d'⟩ := s.keepN p _ b c d; ⟨p, vs, a, b', c', d', s.repL f⟩, h.dis⟩
theorem RepB.step {w w' : Wd} {v : V} {d : D} (h : RepB K w v d) (s : Step K w w') : RepB K w' v d := by
  rcases h with h | ⟨p, vs, ds, e1, e2, b, c, d, f⟩
  · exact .inl (s.rep h)
  · obtain ⟨b', c', d'⟩ := s.keepN p _ b c d
    exact .inr ⟨p, vs, ds, e1, e2, b', c', d', s.repL f⟩
theorem RepBL.step {w w' : Wd} (s : Step K w w') : ∀ {vs : List V} {ds : List D}, RepBL K w vs ds → RepBL K w' vs ds
  | _, _, .nil => .nil
  | _, _, .cons r t => .cons (r.step s) (RepBL.step s t)
theorem RepBL.of {w : Wd} : ∀ {vs : List V} {ds : List D}, RepL K w.A w.G vs ds → RepBL K w vs ds
  | [], [], _ => .nil
  | _ :: _, _ :: _, .cons r t => .cons (.inl r) (RepBL.of t)
/-- a list of one's own is frozen -/
theorem Wd.Ok.freeze {w : Wd} (h : w.Ok K) {p : Addr} {o : HO} (hp : w.H p = some o) (hG : w.G p = none) (hA : p ∉ w.A) : (⟨w.A, upd w.G p o, w.M, w.H⟩ : Wd).Ok K := by
  have sG : Same w.G (upd w.G p o) := fun b u e => by rw [upd_ne (ne_of_none e hG)]; exact e
  have rr : ∀ v d, Rep K w.A w.G v d → Rep K w.A (upd w.G p o) v d := fun v d => Rep.mono (List.prefix_refl _) sG d v
  refine ⟨fun b u e => ?_, h.nd, h.len, fun a ha => ?_, fun k m e => ?_⟩
  · have e' : upd w.G p o b = some u := e
    by_cases hb : b = p
    · subst hb
      rw [upd_same] at e'
      exact hp.trans e'
    · rw [upd_ne hb] at e'; exact h.sub b u e'
  · show upd w.G p o a = none
    rw [upd_ne (fun z : a = p => hA (z ▸ ha))]
    exact h.out a ha
  · obtain ⟨a, ea, r⟩ := h.mos k m e
    refine ⟨a, ea, ?_⟩
    cases m with
    | lst ds => obtain ⟨vs, z, q⟩ := r; exact ⟨vs, z, RepL.mono (List.prefix_refl _) sG _ _ q⟩
    | dK ds => obtain ⟨vs, z, q⟩ := r; exact ⟨vs, z, q.imp rr⟩
    | dT ds => obtain ⟨vs, z, q⟩ := r; exact ⟨vs, z, q.imp rr⟩
    | ins c fs => obtain ⟨io, vs, dx, z, q⟩ := r; exact ⟨io, vs, dx, z, q.imp rr⟩
theorem upd_fro {G : Hp} {p : Addr} {o : HO} (h : G p = none) : Same G (upd G p o) := fun b u e => by rw [upd_ne (ne_of_none e h)]; exact e
/-- a value of an expression, frozen -/
theorem RepX.freeze {w w' : Wd} {v : V} {s : Slot} (st : Step K w w') (h : RepX K w w' v s) : ∃ G', Step K w ⟨w'.A, G', w'.M, w'.H⟩ ∧ Rep K w'.A G' v s.d := by
  cases s with
  | un => exact h.elim
  | val d => exact ⟨w'.G, st, h⟩
  | own ds =>
    obtain ⟨p, vs, rfl, h0, hH, hG, hA, r⟩ := h
    refine ⟨upd w'.G p (.lst vs), ⟨st.ok.freeze hH hG hA, st.pre, st.fro.trans (upd_fro hG), fun q o h1 h2 h3 => ?_⟩, .lst upd_same (RepL.mono (List.prefix_refl _) (upd_fro hG) _ _ r)⟩
    obtain ⟨a, b, c⟩ := st.keep q o h1 h2 h3
    exact ⟨a, b.imp (fun b => by show upd w'.G p (.lst vs) q = none; rw [upd_ne (ne_of_none h1 h0)]; exact b) id, c⟩
theorem RepX.b {w w' : Wd} {v : V} {s : Slot} (h : RepX K w w' v s) : RepB K w' v s.d := by
  cases s with
  | un => exact h.elim
  | val d => exact .inl h
  | own ds => obtain ⟨p, vs, e, _, hH, hG, hA, r⟩ := h; exact .inr ⟨p, vs, ds, e, rfl, hH, hG, hA, r⟩

/-- what is free now was free -/
theorem Wd.Ok.some_at {w : Wd} (h : w.Ok K) {p : Addr} (hp : p ∈ w.A) : ∃ o, w.H p = some o := by
  obtain ⟨k, hk, e⟩ := List.mem_iff_getElem.mp hp
  have hk' : k < w.M.length := by rw [← h.len]; exact hk
  obtain ⟨a, ea, r⟩ := h.mos k w.M[k] (List.getElem?_eq_getElem hk')
  have e2 : a = p := by
    rw [List.getElem?_eq_getElem hk] at ea
    exact (Option.some.inj ea).symm.trans e
  subst e2
  cases q : w.M[k] with
  | lst ds => rw [q] at r; obtain ⟨_, z, _⟩ := r; exact ⟨_, z⟩
  | dK ds => rw [q] at r; obtain ⟨_, z, _⟩ := r; exact ⟨_, z⟩
  | dT ds => rw [q] at r; obtain ⟨_, z, _⟩ := r; exact ⟨_, z⟩
  | ins c fs => rw [q] at r; obtain ⟨_, _, _, z, _⟩ := r; exact ⟨_, z⟩
theorem Step.free {w w' : Wd} (s : Step K w w') {p : Addr} (h : w'.H p = none) : w.H p = none := by
  cases q : w.H p with
  | none => rfl
  | some o =>
    exfalso
    cases qG : w.G p with
    | some u =>
      have := s.ok.sub p u (s.fro p u qG)
      rw [h] at this; cases this
    | none =>
      by_cases hA : p ∈ w.A
      · obtain ⟨o', z⟩ := s.ok.some_at (s.pre.subset hA)
        rw [h] at z; cases z
      · have := (s.keep p o q qG hA).1
        rw [h] at this; cases this
theorem RepX.back {w w1 w2 : Wd} {v : V} {s : Slot} (st : Step K w w1) (h : RepX K w1 w2 v s) : RepX K w w2 v s := by
  cases s with
  | un => exact h
  | val d => exact h
  | own ds => obtain ⟨p, vs, e, h0, r⟩ := h; exact ⟨p, vs, e, st.free h0, r⟩

/-! ### weaker readings -/
section
variable {X : Cx} {e : Expr}
theorem PE.wk {t t' : TE} (h : PE X e t) (f : ∀ σ H Q, t' σ H Q → t σ H Q) : PE X e t' := ⟨fun pins s σ H Q I q => h.run pins s σ H Q I (f σ H Q q)⟩
theorem PT.wk {t t' : TT} (h : PT X e t) (f : ∀ σ H Q, t' σ H Q → t σ H Q) : PT X e t' := ⟨fun pins s σ H Q I q => h.run pins s σ H Q I (f σ H Q q)⟩
theorem PW.wk {t t' : TT} (h : PW X e t) (f : ∀ σ H Q, t' σ H Q → t σ H Q) : PW X e t' := ⟨fun wh pins s σ H Q I q => h.run wh pins s σ H Q I (f σ H Q q)⟩
theorem PA.wk {es : List Expr} {t t' : TA} (h : PA X es t) (f : ∀ σ H Q, t' σ H Q → t σ H Q) : PA X es t' := ⟨fun pos pins s σ H Q I q => h.run pos pins s σ H Q I (f σ H Q q)⟩
theorem PSs.wk {sts : List Stmt} {t t' : TS} (h : PSs X sts t) (f : ∀ D σ H, t' D σ H → t D σ H) : PSs X sts t' := ⟨fun pins s σ H D I q => h.run pins s σ H D I (f D σ H q)⟩
theorem PS.wk {st : Stmt} {t t' : TS} (h : PS X st t) (f : ∀ D σ H, t' D σ H → t D σ H) : PS X st t' := ⟨fun pins s σ H D I q => h.run pins s σ H D I (f D σ H q)⟩
def dEF (f : FE) : FD := fun ρ M => (f ρ M).map Slot.d
def dFE (f : FD) : FE := fun ρ M => (f ρ M).map Slot.val
/-- frozen -/
theorem c_EF {f : FE} (h : PE X e (tE K E f)) : PE X e (tF K E (dEF f)) := PE.wk h fun σ H Q ⟨ρ, w, e1, ok, sr, a⟩ => ⟨ρ, w, e1, ok, sr, by
  have a2 := a.map
  cases q : f ρ w.M with
  | bad => rw [q] at a2; exact a2
  | exc c d M => rw [q] at a2; exact a2
  | ok s M =>
    rw [q] at a2
    intro w' st eM v r
    obtain ⟨G', st', r'⟩ := r.freeze st
    exact a2 _ st' eM v r'⟩
theorem c_EB {f : FE} (h : PE X e (tE K E f)) : PE X e (tR K E (dEF f)) := PE.wk h fun σ H Q ⟨ρ, w, e1, ok, sr, a⟩ => ⟨ρ, w, e1, ok, sr, a.map.imp fun s w' _ z v r => z v r.b⟩
theorem c_FE {f : FD} (h : PE X e (tF K E f)) : PE X e (tE K E (dFE f)) := PE.wk h fun σ H Q ⟨ρ, w, e1, ok, sr, a⟩ => ⟨ρ, w, e1, ok, sr, a.map⟩
theorem c_FB {f : FD} (h : PE X e (tF K E f)) : PE X e (tR K E f) := PE.wk h fun σ H Q ⟨ρ, w, e1, ok, sr, a⟩ => ⟨ρ, w, e1, ok, sr, a.imp fun s w' _ z v r => z v (.inl r)⟩
/-! ### names, constants -/
def dVar (i : Nat) : FD := fun ρ M => match ρ[i]? with
  | some (.val d) => .ok d M
  | _ => .bad
def dVarB (i : Nat) : FD := fun ρ M => match ρ[i]? with
  | some (.val d) => .ok d M
  | some (.own ds) => .ok (.lst ds) M
  | _ => .bad
def dC (d : D) : FD := fun _ M => .ok d M
theorem x_var {i : Nat} (h : PE X e (tVar i)) : PE X e (tF K E (dVar i)) := PE.wk h fun σ H Q ⟨ρ, w, e1, ok, sr, a⟩ => by
  subst e1
  unfold dVar at a
  split at a
  · rename_i d e2
    obtain ⟨v, h1, h2⟩ := sr.val i d e2
    exact ⟨v, h1, a w (Step.refl ok) rfl v h2⟩
  · exact a.elim
theorem x_varB {i : Nat} (h : PE X e (tVar i)) : PE X e (tR K E (dVarB i)) := PE.wk h fun σ H Q ⟨ρ, w, e1, ok, sr, a⟩ => by
  subst e1
  unfold dVarB at a
  split at a
  · rename_i d e2
    obtain ⟨v, h1, h2⟩ := sr.val i d e2
    exact ⟨v, h1, a w (Step.refl ok) rfl v (.inl h2)⟩
  · rename_i ds e2
    obtain ⟨p, vs, h1, h2, h3, h4, h5⟩ := sr.own i ds e2
    exact ⟨_, h1, a w (Step.refl ok) rfl _ (.inr ⟨p, vs, ds, rfl, rfl, h2, h3, h4, h5⟩)⟩
  · exact a.elim
theorem x_c {v : V} {d : D} (h : PE X e (tC v)) (r : ∀ A G, Rep K A G v d) : PE X e (tF K E (dC d)) := PE.wk h fun σ H Q ⟨ρ, w, e1, ok, sr, a⟩ => by
  subst e1
  exact a w (Step.refl ok) rfl v (r _ _)
end
end
end TP
/-! TPc: expressions. -/
namespace TP
open PySem L2
/-! ### views -/
/-- a list that may be changed or read -/
def lstOf (M : Store) : D → Option (List D)
  | .lst ds => some ds
  | .ref k => match M[k]? with
    | some (.lst ds) => some ds
    | _ => none
  | _ => none
/-- a list that may be read -/
def seqOf (M : Store) : D → Option (List D)
  | .fro ds => some ds
  | x => lstOf M x
section
variable {K : PySem.W.Frag} {E : Wish}
theorem lstOf_ref {M : Store} {k : Nat} {ds : List D} (h : lstOf M (.ref k) = some ds) : M[k]? = some (.lst ds) := by
  unfold lstOf at h
  simp only at h
  split at h
  · rename_i es e2
    cases h
    exact e2
  · cases h
theorem lst_at {w : Wd} (ok : w.Ok K) {v : V} {x : D} {ds : List D} (r : RepB K w v x) (h : lstOf w.M x = some ds) : ∃ p vs, v = .ref p ∧ w.H p = some (.lst vs) ∧ RepL K w.A w.G vs ds := by
  rcases r with r | ⟨p, vs, es, rfl, rfl, h1, _, _, h4⟩
  · cases r with
    | lst e rl => cases h; exact ⟨_, _, rfl, ok.sub _ _ e, rl⟩
    | @ref a k e =>
      obtain ⟨a', e3, vs, h1, h2⟩ := ok.mos k _ (lstOf_ref h)
      rw [e] at e3
      cases e3
      exact ⟨_, vs, rfl, h1, h2⟩
    | _ => cases h
  · cases h; exact ⟨p, vs, rfl, h1, h4⟩
theorem seq_at {w : Wd} (ok : w.Ok K) {v : V} {x : D} {ds : List D} (r : RepB K w v x) (h : seqOf w.M x = some ds) : ∃ p vs, v = .ref p ∧ SqL K w.H p vs ∧ RepL K w.A w.G vs ds := by
  by_cases hf : ∃ es, x = .fro es
  · obtain ⟨es, rfl⟩ := hf
    rcases r with r | ⟨p, vs, es', rfl, e, _⟩
    · cases r with
      | fro hs rl => cases h; exact ⟨_, _, rfl, ok.sub.seq hs, rl⟩
    · cases e
  · have h' : lstOf w.M x = some ds := by
      cases x <;> first | exact h | exact absurd ⟨_, rfl⟩ hf
    obtain ⟨p, vs, e, h1, h2⟩ := lst_at ok r h'
    exact ⟨p, vs, e, .inl (.inl h1), h2⟩
theorem tup_at {w : Wd} (ok : w.Ok K) {v : V} {ds : List D} (r : RepB K w v (.tup ds)) : ∃ p vs, v = .ref p ∧ SqT K w.H p vs ∧ RepL K w.A w.G vs ds := by
  rcases r with r | ⟨p, vs, es', rfl, e, _⟩
  · cases r with
    | tup hs rl => exact ⟨_, _, rfl, .inl (.inl (ok.sub _ _ hs)), rl⟩
  · cases e
theorem tupH_at {w : Wd} (ok : w.Ok K) {v : V} {ds : List D} (r : RepB K w v (.tup ds)) : ∃ p vs, v = .ref p ∧ w.H p = some (.tup vs) ∧ RepL K w.A w.G vs ds := by
  rcases r with r | ⟨p, vs, es', rfl, e, _⟩
  · cases r with
    | tup hs rl => exact ⟨_, _, rfl, ok.sub _ _ hs, rl⟩
  · cases e
theorem kt_at {w : Wd} (ok : w.Ok K) {v : V} {ds : List D} (r : RepB K w v (.kt ds)) : ∃ p vs, v = .ref p ∧ SqT K w.H p vs ∧ RepL K w.A w.G vs ds := by
  rcases r with r | ⟨p, vs, es', rfl, e, _⟩
  · cases r with
    | kt hs rl => exact ⟨_, _, rfl, sqT_mono ok.sub hs, rl⟩
  · cases e
theorem int_at {w : Wd} {v : V} {i : Int} (r : RepB K w v (.int i)) : v = .int i := by
  rcases r with r | ⟨p, vs, es', rfl, e, _⟩
  · cases r; rfl
  · cases e
theorem bl_at {w : Wd} {v : V} {i : Bool} (r : RepB K w v (.bl i)) : v = .bl i := by
  rcases r with r | ⟨p, vs, es', rfl, e, _⟩
  · cases r; rfl
  · cases e
theorem str_at {w : Wd} {v : V} {i : Str} (r : RepB K w v (.str i)) : v = .str i := by
  rcases r with r | ⟨p, vs, es', rfl, e, _⟩
  · cases r; rfl
  · cases e
theorem non_at {w : Wd} {v : V} (r : RepB K w v .non) : v = .non := by
  rcases r with r | ⟨p, vs, es', rfl, e, _⟩
  · cases r; rfl
  · cases e
/-! ### what a built-in thing does, by plain data -/
def Prim1 (K : PySem.W.Frag) (r : V → Hp → VK → Prop) (g : Store → D → Option Slot) : Prop := ∀ (w : Wd) (vx : V) (x : D) (s : Slot) (Q : VK), w.Ok K → RepB K w vx x → g w.M x = some s →
  (∀ v w', Step K w w' → w'.M = w.M → RepX K w w' v s → Q v w'.H) → r vx w.H Q
def Prim2 (K : PySem.W.Frag) (r : R2) (g : Store → D → D → Option Slot) : Prop := ∀ (w : Wd) (vx vy : V) (x y : D) (s : Slot) (Q : VK), w.Ok K → RepB K w vx x → RepB K w vy y → g w.M x y = some s →
  (∀ v w', Step K w w' → w'.M = w.M → RepX K w w' v s → Q v w'.H) → r vx vy w.H Q
def PrimN (K : PySem.W.Frag) (r : List V → Hp → VK → Prop) (g : Store → List D → Option Slot) : Prop := ∀ (w : Wd) (vs : List V) (ds : List D) (s : Slot) (Q : VK), w.Ok K → RepBL K w vs ds → g w.M ds = some s →
  (∀ v w', Step K w w' → w'.M = w.M → RepX K w w' v s → Q v w'.H) → r vs w.H Q
def PrimM (K : PySem.W.Frag) (r : V → List V → Hp → VK → Prop) (g : Store → D → List D → Option Slot) : Prop := ∀ (w : Wd) (vx : V) (x : D) (vs : List V) (ds : List D) (s : Slot) (Q : VK), w.Ok K → RepB K w vx x → RepBL K w vs ds → g w.M x ds = some s →
  (∀ v w', Step K w w' → w'.M = w.M → RepX K w w' v s → Q v w'.H) → r vx vs w.H Q
def dOp1 (g : Store → D → Option Slot) (fa : FD) : FE := fun ρ M => (fa ρ M).bind fun x M => R.of (g M x) M
def dOp2 (g : Store → D → D → Option Slot) (fa fb : FD) : FE := fun ρ M => (fa ρ M).bind fun x M => (fb ρ M).bind fun y M => R.of (g M x y) M
def dPr (g : Store → List D → Option Slot) (fs : FL) : FE := fun ρ M => (fs ρ M).bind fun ds M => R.of (g M ds) M
section
variable {X : Cx} {e : Expr}
theorem fin_of {w w2 : Wd} {o : Option Slot} {Q : VK} (s : Step K w w2) (a : After K E w2 (R.of o w2.M) fun s w' => ∀ v, RepX K w w' v s → Q v w'.H) :
    ∃ s, o = some s ∧ ∀ v w', Step K w2 w' → w'.M = w2.M → RepX K w2 w' v s → Q v w'.H := by
  cases o with
  | none => exact a.elim
  | some x => exact ⟨x, rfl, fun v w' s3 e3 rv => a w' s3 e3 v (rv.back s)⟩
theorem x_op2 {r : R2} {g : Store → D → D → Option Slot} {fa fb : FD} (h : PE X e (tOp r (tR K E fa) (tR K E fb))) (p : Prim2 K r g) : PE X e (tE K E (dOp2 g fa fb)) := PE.wk h fun σ H Q ⟨ρ, w, e1, ok, sr, a⟩ =>
  ⟨ρ, w, e1, ok, sr, a.bind.imp fun x w1 s1 a1 vx rx => ⟨ρ, w1, rfl, s1.ok, sr.step s1, a1.bind.imp fun y w2 s2 a2 vy ry => by
    obtain ⟨s, es, k⟩ := fin_of (s1.trans s2) a2
    exact p w2 vx vy x y s Q s2.ok (rx.step s2) ry es k⟩⟩
theorem x_op1 {r : V → Hp → VK → Prop} {g : Store → D → Option Slot} {fa : FD} (h : PE X e (tUn r (tR K E fa))) (p : Prim1 K r g) : PE X e (tE K E (dOp1 g fa)) := PE.wk h fun σ H Q ⟨ρ, w, e1, ok, sr, a⟩ =>
  ⟨ρ, w, e1, ok, sr, a.bind.imp fun x w1 s1 a1 vx rx => by
    obtain ⟨s, es, k⟩ := fin_of s1 a1
    exact p w1 vx x s Q s1.ok rx es k⟩
theorem x_prim {r : List V → Hp → VK → Prop} {g : Store → List D → Option Slot} {fs : FL} (h : PE X e (tCB r (tAR K E fs))) (p : PrimN K r g) : PE X e (tE K E (dPr g fs)) := PE.wk h fun σ H Q ⟨ρ, w, e1, ok, sr, a⟩ =>
  ⟨ρ, w, e1, ok, sr, a.bind.imp fun x w1 s1 a1 vx rx => by
    obtain ⟨s, es, k⟩ := fin_of s1 a1
    exact p w1 vx x s Q s1.ok rx es k⟩
/-! ### lists of arguments -/
def dNil : FL := fun _ M => .ok [] M
def dCons (f : FD) (fs : FL) : FL := fun ρ M => (f ρ M).bind fun d M => (fs ρ M).bind fun ds M => .ok (d :: ds) M
variable {es : List Expr}
theorem xa_nil (h : PA X [] tNil) : PA X [] (tAF K E dNil) := PA.wk h fun σ H Q ⟨ρ, w, e1, ok, sr, a⟩ => by
  subst e1
  exact a w (Step.refl ok) rfl [] .nil
theorem xr_nil (h : PA X [] tNil) : PA X [] (tAR K E dNil) := PA.wk h fun σ H Q ⟨ρ, w, e1, ok, sr, a⟩ => by
  subst e1
  exact a w (Step.refl ok) rfl [] .nil
theorem xa_cons {f : FD} {fs : FL} (h : PA X es (tCons (tF K E f) (tAF K E fs))) : PA X es (tAF K E (dCons f fs)) := PA.wk h fun σ H Q ⟨ρ, w, e1, ok, sr, a⟩ =>
  ⟨ρ, w, e1, ok, sr, a.bind.imp fun d w1 s1 a1 v rv => ⟨ρ, w1, rfl, s1.ok, sr.step s1, a1.bind.imp fun ds w2 s2 a2 vs rvs => a2 w2 (Step.refl s2.ok) rfl _ (.cons (s2.rep rv) rvs)⟩⟩
theorem xr_cons {f : FD} {fs : FL} (h : PA X es (tCons (tR K E f) (tAR K E fs))) : PA X es (tAR K E (dCons f fs)) := PA.wk h fun σ H Q ⟨ρ, w, e1, ok, sr, a⟩ =>
  ⟨ρ, w, e1, ok, sr, a.bind.imp fun d w1 s1 a1 v rv => ⟨ρ, w1, rfl, s1.ok, sr.step s1, a1.bind.imp fun ds w2 s2 a2 vs rvs => a2 w2 (Step.refl s2.ok) rfl _ (.cons (rv.step s2) rvs)⟩⟩
theorem sizeOf_le {n : Nat} (h : decide (n ≤ sizeLine) = true) : n ≤ sizeLine := of_decide_eq_true h
/-- a tuple of written items -/
def dTup (fs : FL) : FD := fun ρ M => (fs ρ M).bind fun ds M => if ds.length ≤ sizeLine then .ok (.tup ds) M else .bad
def dLst (fs : FL) : FE := fun ρ M => (fs ρ M).bind fun ds M => if ds.length ≤ sizeLine then .ok (.own ds) M else .bad
theorem x_tup {fs : FL} (h : PE X e (tTup (tAF K E fs))) : PE X e (tF K E (dTup fs)) := PE.wk h fun σ H Q ⟨ρ, w, e1, ok, sr, a⟩ =>
  ⟨ρ, w, e1, ok, sr, a.bind.imp fun ds w1 s1 a1 vs rvs => by
    split at a1
    · rename_i hl
      refine ⟨by rw [rvs.length]; exact hl, fun p hp => ?_⟩
      have st := s1.ok.fresh hp (.tup vs)
      exact a1 _ st rfl _ (.tup upd_same (st.repL rvs))
    · exact a1.elim⟩
/-- a new thing that is not frozen: a list of one's own -/
theorem Wd.Ok.fresh0 {w : Wd} (h : w.Ok K) {p : Addr} (hp : w.H p = none) (o : HO) : Step K w ⟨w.A, w.G, w.M, upd w.H p o⟩ := by
  have hG : w.G p = none := h.sub.free hp
  refine ⟨⟨fun b u e => ?_, h.nd, h.len, h.out, fun k m e => ?_⟩, List.prefix_refl _, Same.refl _, fun q u h1 h2 h3 => ⟨?_, .inl h2, h3⟩⟩
  · show upd w.H p o b = some u
    rw [upd_ne (ne_of_none e hG)]
    exact h.sub b u e
  · obtain ⟨a, ea, r⟩ := h.mos k m e
    refine ⟨a, ea, ?_⟩
    cases m with
    | lst ds => obtain ⟨vs, z, q⟩ := r; exact ⟨vs, by show upd w.H p o a = _; rw [upd_ne (ne_of_none z hp)]; exact z, q⟩
    | dK ds => obtain ⟨vs, z, q⟩ := r; exact ⟨vs, by show upd w.H p o a = _; rw [upd_ne (ne_of_none z hp)]; exact z, q⟩
    | dT ds => obtain ⟨vs, z, q⟩ := r; exact ⟨vs, by show upd w.H p o a = _; rw [upd_ne (ne_of_none z hp)]; exact z, q⟩
    | ins c fs => obtain ⟨io, vs, dx, z, q⟩ := r; exact ⟨io, vs, dx, by show upd w.H p o a = _; rw [upd_ne (ne_of_none z hp)]; exact z, q⟩
  · show upd w.H p o q = some u
    rw [upd_ne (ne_of_none h1 hp)]; exact h1
theorem Wd.Ok.notA {w : Wd} (h : w.Ok K) {p : Addr} (hp : w.H p = none) : p ∉ w.A := fun hm => by
  obtain ⟨o, z⟩ := h.some_at hm
  rw [hp] at z; cases z
/-- a new list, as a value of its own -/
theorem own_new {w w1 : Wd} (s1 : Step K w w1) {p : Addr} (hp : w1.H p = none) {vs : List V} {ds : List D} (r : RepL K w1.A w1.G vs ds) :
    RepX K w ⟨w1.A, w1.G, w1.M, upd w1.H p (.lst vs)⟩ (.ref p) (.own ds) :=
  ⟨p, vs, rfl, s1.free hp, upd_same, s1.ok.sub.free hp, s1.ok.notA hp, r⟩
theorem x_lst {fs : FL} (h : PE X e (tLst (tAF K E fs))) : PE X e (tE K E (dLst fs)) := PE.wk h fun σ H Q ⟨ρ, w, e1, ok, sr, a⟩ =>
  ⟨ρ, w, e1, ok, sr, a.bind.imp fun ds w1 s1 a1 vs rvs => by
    split at a1
    · rename_i hl
      refine ⟨by rw [rvs.length]; exact hl, fun p hp => ?_⟩
      exact a1 _ (s1.ok.fresh0 hp (.lst vs)) rfl _ (own_new s1 hp rvs)
    · exact a1.elim⟩
/-! ### tests -/
/-- truth -/
def truD (M : Store) : D → Option Bool
  | .non => some false
  | .bl b => some b
  | .int i => some (i != 0)
  | .str y => if y.length ≤ sizeLine then some ((y.length : Int) != 0) else none
  | .tup ds => some (!ds.isEmpty)
  | .ref k => match M[k]? with
    | some (.lst ds) => some (!ds.isEmpty)
    | some (.dK ds) => some (!ds.isEmpty)
    | _ => none
  | .lst ds => some (!ds.isEmpty)
  | .fro ds => some (!ds.isEmpty)
  | .kt ds => some (!ds.isEmpty)
theorem RepL.emp {A : List Addr} {G : Hp} {vs : List V} {ds : List D} (h : RepL K A G vs ds) : ds.isEmpty = vs.isEmpty := by cases h <;> rfl
theorem RepKV.emp {κ : Type} {R : V → D → Prop} {vs : List (κ × V)} {ds : List (κ × D)} (h : RepKV R vs ds) : ds.isEmpty = vs.isEmpty := by cases h <;> rfl
theorem tru_at {w : Wd} (ok : w.Ok K) {v : V} {x : D} {b : Bool} (r : RepB K w v x) (h : truD w.M x = some b) : TruV K v w.H b := by
  cases x with
  | non => cases non_at r; exact (Option.some.inj h).symm
  | bl c => cases bl_at r; exact (Option.some.inj h).symm
  | int i => cases int_at r; exact (Option.some.inj h).symm
  | str y =>
    cases str_at r
    simp only [truD] at h
    split at h
    · rename_i hl; exact ⟨hl, (Option.some.inj h).symm⟩
    · cases h
  | tup ds =>
    obtain ⟨p, vs, rfl, hs, rl⟩ := tup_at ok r
    exact .inr (.inl ⟨vs, hs, by rw [← rl.emp]; exact (Option.some.inj h).symm⟩)
  | lst ds =>
    obtain ⟨p, vs, rfl, hs, rl⟩ := lst_at (ds := ds) ok r rfl
    exact .inl ⟨vs, .inl (.inl hs), by rw [← rl.emp]; exact (Option.some.inj h).symm⟩
  | fro ds =>
    obtain ⟨p, vs, rfl, hs, rl⟩ := seq_at (ds := ds) ok r rfl
    exact .inl ⟨vs, hs, by rw [← rl.emp]; exact (Option.some.inj h).symm⟩
  | kt ds =>
    obtain ⟨p, vs, rfl, hs, rl⟩ := kt_at ok r
    exact .inr (.inl ⟨vs, hs, by rw [← rl.emp]; exact (Option.some.inj h).symm⟩)
  | ref k =>
    simp only [truD] at h
    rcases r with r | ⟨p, vs, es', rfl, e, _⟩
    · cases r with
      | @ref a k ek =>
        split at h
        · rename_i ds e2
          obtain ⟨a', e3, vs, h1, h2⟩ := ok.mos k _ e2
          rw [ek] at e3; cases e3
          exact .inl ⟨vs, .inl (.inl h1), by rw [← h2.emp]; exact (Option.some.inj h).symm⟩
        · rename_i ds e2
          obtain ⟨a', e3, vs, h1, h2⟩ := ok.mos k _ e2
          rw [ek] at e3; cases e3
          exact .inr (.inr ⟨vs, h1, by rw [← h2.emp]; exact (Option.some.inj h).symm⟩)
        · cases h
    · cases e
def dTru (f : FD) : FB := fun ρ M => (f ρ M).bind fun x M => R.of (truD M x) M
theorem x_truth {f : FD} (h : PT X e (fun σ H Q => tR K E f σ H fun x H' => ∃ k, TruV K x H' k ∧ Q k H')) : PT X e (tT K E (dTru f)) := PT.wk h fun σ H Q ⟨ρ, w, e1, ok, sr, a⟩ =>
  ⟨ρ, w, e1, ok, sr, a.bind.imp fun x w1 s1 a1 v rv => by
    obtain ⟨b, eb, k⟩ := a1.of (Step.refl s1.ok) rfl
    exact ⟨b, tru_at s1.ok rv eb, k⟩⟩
/-- a test that is a bool expression (a comparison) -/
def boD : D → Option Bool
  | .bl b => some b
  | _ => none
def dBo (f : FE) : FB := fun ρ M => (f ρ M).bind fun x M => R.of (boD x.d) M
theorem x_test {t : TE} {f : FE} (h : PT X e (tTest t)) (ht : ∀ σ H Q, tE K E f σ H Q → t σ H Q) : PT X e (tT K E (dBo f)) := PT.wk h fun σ H Q ⟨ρ, w, e1, ok, sr, a⟩ =>
  ht _ _ _ ⟨ρ, w, e1, ok, sr, a.bind.imp fun x w1 s1 a1 v rv => by
    obtain ⟨b, eb, k⟩ := a1.of (Step.refl s1.ok) rfl
    cases x with
    | un => cases eb
    | own ds => cases eb
    | val d =>
      cases d with
      | bl c => cases eb; cases rv; exact ⟨_, rfl, k⟩
      | _ => cases eb⟩
def dNot (f : FB) : FB := fun ρ M => (f ρ M).map fun b => !b
theorem x_not {f : FB} (h : PT X e (tNot (tT K E f))) : PT X e (tT K E (dNot f)) := PT.wk h fun σ H Q ⟨ρ, w, e1, ok, sr, a⟩ => ⟨ρ, w, e1, ok, sr, a.map⟩
def dAnd (f g : FB) : FB := fun ρ M => (f ρ M).bind fun b M => if b then g ρ M else .ok false M
def dOr (f g : FB) : FB := fun ρ M => (f ρ M).bind fun b M => if b then .ok true M else g ρ M
theorem x_and {f g : FB} (h : PW X e (tAnd (tT K E f) (tT K E g))) : PW X e (tT K E (dAnd f g)) := PW.wk h fun σ H Q ⟨ρ, w, e1, ok, sr, a⟩ =>
  ⟨ρ, w, e1, ok, sr, a.bind.imp fun b w1 s1 a1 => by
    cases b with
    | true => exact iteT ⟨ρ, w1, rfl, s1.ok, sr.step s1, a1⟩
    | false => exact iteF (a1 w1 (Step.refl s1.ok) rfl)⟩
theorem x_or {f g : FB} (h : PW X e (tOr (tT K E f) (tT K E g))) : PW X e (tT K E (dOr f g)) := PW.wk h fun σ H Q ⟨ρ, w, e1, ok, sr, a⟩ =>
  ⟨ρ, w, e1, ok, sr, a.bind.imp fun b w1 s1 a1 => by
    cases b with
    | true => exact iteT (a1 w1 (Step.refl s1.ok) rfl)
    | false => exact iteF ⟨ρ, w1, rfl, s1.ok, sr.step s1, a1⟩⟩
/-- a if c else b -/
def dIf (c : FB) (f g : FE) : FE := fun ρ M => (c ρ M).bind fun b M => if b then f ρ M else g ρ M
theorem tE_back {f : FE} {w w1 : Wd} {ρ : EnvD} {σ : St} {Q : VK} (s1 : Step K w w1) (sr : SR K w ρ σ) (a : After K E w1 (f ρ w1.M) fun s w' => ∀ v, RepX K w w' v s → Q v w'.H) : tE K E f σ w1.H Q :=
  ⟨ρ, w1, rfl, s1.ok, sr.step s1, a.imp fun s w' _ z v rv => z v (rv.back s1)⟩
theorem x_if {c : FB} {f g : FE} (h : PE X e (tIf (tT K E c) (tE K E f) (tE K E g))) : PE X e (tE K E (dIf c f g)) := PE.wk h fun σ H Q ⟨ρ, w, e1, ok, sr, a⟩ =>
  ⟨ρ, w, e1, ok, sr, a.bind.imp fun b w1 s1 a1 => by
    cases b with
    | true => exact iteT (tE_back s1 sr a1)
    | false => exact iteF (tE_back s1 sr a1)⟩
/-- and, or as values of bools -/
def dAndV (f g : FE) : FE := fun ρ M => (f ρ M).bind fun x M => match x with
  | .val (.bl true) => g ρ M
  | .val (.bl false) => .ok (.val (.bl false)) M
  | _ => .bad
def dOrV (f g : FE) : FE := fun ρ M => (f ρ M).bind fun x M => match x with
  | .val (.bl true) => .ok (.val (.bl true)) M
  | .val (.bl false) => g ρ M
  | _ => .bad
def dNotV (f : FE) : FE := fun ρ M => (f ρ M).bind fun x M => match x with
  | .val (.bl b) => .ok (.val (.bl (!b))) M
  | _ => .bad
theorem x_andV {f g : FE} (h : PE X e (tAndV (tE K E f) (tE K E g))) : PE X e (tE K E (dAndV f g)) := PE.wk h fun σ H Q ⟨ρ, w, e1, ok, sr, a⟩ =>
  ⟨ρ, w, e1, ok, sr, a.bind.imp fun x w1 s1 a1 v rv => by
    split at a1
    · cases rv; exact ⟨true, rfl, iteT (tE_back s1 sr a1)⟩
    · cases rv; exact ⟨false, rfl, iteF (a1 w1 (Step.refl s1.ok) rfl _ (.bl _))⟩
    · exact a1.elim⟩
theorem x_orV {f g : FE} (h : PE X e (tOrV (tE K E f) (tE K E g))) : PE X e (tE K E (dOrV f g)) := PE.wk h fun σ H Q ⟨ρ, w, e1, ok, sr, a⟩ =>
  ⟨ρ, w, e1, ok, sr, a.bind.imp fun x w1 s1 a1 v rv => by
    split at a1
    · cases rv; exact ⟨true, rfl, iteT (a1 w1 (Step.refl s1.ok) rfl _ (.bl _))⟩
    · cases rv; exact ⟨false, rfl, iteF (tE_back s1 sr a1)⟩
    · exact a1.elim⟩
theorem x_notV {f : FE} (h : PE X e (tNotV (tE K E f))) : PE X e (tE K E (dNotV f)) := PE.wk h fun σ H Q ⟨ρ, w, e1, ok, sr, a⟩ =>
  ⟨ρ, w, e1, ok, sr, a.bind.imp fun x w1 s1 a1 v rv => by
    split at a1
    · cases rv; exact ⟨_, rfl, a1 w1 (Step.refl s1.ok) rfl _ (.bl _)⟩
    · exact a1.elim⟩
end
end
end TP
/-! TPd: methods, slices, calls, what is walked, targets, comprehensions. -/
namespace TP
open PySem L2
section
variable {K : PySem.W.Frag} {E : Wish} {X : Cx} {e : Expr}
/-! ### methods of built-in types -/
def tyD (M : Store) : D → Option String
  | .str _ => some "str"
  | .int _ => some "int"
  | .lst _ => some "list"
  | .fro _ => some "list"
  | .ref k => match M[k]? with
    | some (.lst _) => some "list"
    | some (.dK _) => some "dict"
    | some (.dT _) => some "dict"
    | _ => none
  | _ => none
theorem ty_at {w : Wd} (ok : w.Ok K) {v : V} {x : D} {T : String} (r : RepB K w v x) (h : tyD w.M x = some T) : tyV K T v w.H := by
  cases x with
  | str y => cases str_at r; exact (Option.some.inj h).symm
  | int y => cases int_at r; exact (Option.some.inj h).symm
  | lst ds =>
    obtain ⟨p, vs, rfl, hs, rl⟩ := lst_at (ds := ds) ok r rfl
    exact .inl ⟨(Option.some.inj h).symm, vs, .inl (.inl hs)⟩
  | fro ds =>
    obtain ⟨p, vs, rfl, hs, rl⟩ := seq_at (ds := ds) ok r rfl
    exact .inl ⟨(Option.some.inj h).symm, vs, hs⟩
  | ref k =>
    simp only [tyD] at h
    rcases r with r | ⟨p, vs, es', rfl, e, _⟩
    · cases r with
      | @ref a k ek =>
        split at h
        · rename_i ds e2
          obtain ⟨a', e3, vs, h1, h2⟩ := ok.mos k _ e2
          rw [ek] at e3; cases e3
          exact .inl ⟨(Option.some.inj h).symm, vs, .inl (.inl h1)⟩
        · rename_i ds e2
          obtain ⟨a', e3, vs, h1, h2⟩ := ok.mos k _ e2
          rw [ek] at e3; cases e3
          exact .inr (.inr (.inl ⟨(Option.some.inj h).symm, .inl ⟨vs, h1⟩⟩))
        · rename_i ds e2
          obtain ⟨a', e3, vs, h1, h2⟩ := ok.mos k _ e2
          rw [ek] at e3; cases e3
          exact .inr (.inr (.inl ⟨(Option.some.inj h).symm, .inr ⟨vs, h1⟩⟩))
        · cases h
    · cases e
  | non => cases h
  | bl b => cases h
  | tup ds => cases h
  | kt ds => cases h
def dMeth (T : String) (g : Store → D → List D → Option Slot) (fo : FD) (fs : FL) : FE := fun ρ M => (fo ρ M).bind fun x M => if tyD M x = some T then (fs ρ M).bind fun ds M => R.of (g M x ds) M else .bad
theorem x_meth {T : String} {r : V → List V → Hp → VK → Prop} {g : Store → D → List D → Option Slot} {fo : FD} {fs : FL} (h : PE X e (tBM K T r (tR K E fo) (tAR K E fs))) (p : PrimM K r g) : PE X e (tE K E (dMeth T g fo fs)) := PE.wk h fun σ H Q ⟨ρ, w, e1, ok, sr, a⟩ =>
  ⟨ρ, w, e1, ok, sr, a.bind.imp fun x w1 s1 a1 vx rx => by
    split at a1
    · rename_i ht
      refine ⟨ty_at s1.ok rx ht, ρ, w1, rfl, s1.ok, sr.step s1, a1.bind.imp fun ds w2 s2 a2 vs rvs => ?_⟩
      obtain ⟨s, es, k⟩ := fin_of (s1.trans s2) a2
      exact p w2 vx x vs ds s Q s2.ok (rx.step s2) rvs es k
    · exact a1.elim⟩
def dMeth0 (T : String) (g : Store → D → List D → Option Slot) (fo : FD) : FE := fun ρ M => (fo ρ M).bind fun x M => if tyD M x = some T then R.of (g M x []) M else .bad
theorem x_meth0 {T : String} {r : V → List V → Hp → VK → Prop} {g : Store → D → List D → Option Slot} {fo : FD} (h : PE X e (tBM0 K T r (tR K E fo))) (p : PrimM K r g) : PE X e (tE K E (dMeth0 T g fo)) := PE.wk h fun σ H Q ⟨ρ, w, e1, ok, sr, a⟩ =>
  ⟨ρ, w, e1, ok, sr, a.bind.imp fun x w1 s1 a1 vx rx => by
    split at a1
    · rename_i ht
      obtain ⟨s, es, k⟩ := fin_of s1 a1
      exact ⟨ty_at s1.ok rx ht, p w1 vx x [] [] s Q s1.ok rx .nil es k⟩
    · exact a1.elim⟩
/-! ### slices -/
abbrev FO := EnvD → Store → R (Option Int)
def tO (K : PySem.W.Frag) (E : Wish) (f : FO) : TO := fun σ H Q => ∃ ρ w, w.H = H ∧ w.Ok K ∧ SR K w ρ σ ∧ After K E w (f ρ w.M) fun o w' => Q o w'.H
def dNo : FO := fun _ M => .ok none M
def dSo (f : FD) : FO := fun ρ M => (f ρ M).bind fun x M => match x with
  | .int i => .ok (some i) M
  | _ => .bad
theorem PO.wk {o : Option Expr} {t t' : TO} (h : PO X o t) (f : ∀ σ H Q, t' σ H Q → t σ H Q) : PO X o t' := ⟨fun pins s σ H Q I q => h.run pins s σ H Q I (f σ H Q q)⟩
theorem x_no : PO X none (tO K E dNo) := PO.wk po_none fun σ H Q ⟨ρ, w, e1, ok, sr, a⟩ => by
  subst e1
  exact a w (Step.refl ok) rfl
theorem x_so {f : FD} (h : PE X e (tR K E f)) : PO X (some e) (tO K E (dSo f)) := PO.wk (po_some h) fun σ H Q ⟨ρ, w, e1, ok, sr, a⟩ =>
  ⟨ρ, w, e1, ok, sr, a.bind.imp fun x w1 s1 a1 v rv => by
    split at a1
    · exact ⟨_, int_at rv, a1 w1 (Step.refl s1.ok) rfl⟩
    · exact a1.elim⟩
def PrimS (K : PySem.W.Frag) (r : V → Option Int → Option Int → Hp → VK → Prop) (g : Store → D → Option Int → Option Int → Option Slot) : Prop := ∀ (w : Wd) (vx : V) (x : D) (lo hi : Option Int) (s : Slot) (Q : VK), w.Ok K → RepB K w vx x → g w.M x lo hi = some s →
  (∀ v w', Step K w w' → w'.M = w.M → RepX K w w' v s → Q v w'.H) → r vx lo hi w.H Q
def dSl (g : Store → D → Option Int → Option Int → Option Slot) (f : FD) (lo hi : FO) : FE := fun ρ M => (f ρ M).bind fun x M => (lo ρ M).bind fun l M => (hi ρ M).bind fun u M => R.of (g M x l u) M
theorem x_sl {r : V → Option Int → Option Int → Hp → VK → Prop} {g : Store → D → Option Int → Option Int → Option Slot} {f : FD} {lo hi : FO} (h : PE X e (tSl r (tR K E f) (tO K E lo) (tO K E hi))) (p : PrimS K r g) : PE X e (tE K E (dSl g f lo hi)) := PE.wk h fun σ H Q ⟨ρ, w, e1, ok, sr, a⟩ =>
  ⟨ρ, w, e1, ok, sr, a.bind.imp fun x w1 s1 a1 vx rx => ⟨ρ, w1, rfl, s1.ok, sr.step s1, a1.bind.imp fun l w2 s2 a2 => ⟨ρ, w2, rfl, s2.ok, (sr.step s1).step s2, a2.bind.imp fun u w3 s3 a3 => by
    obtain ⟨s, es, k⟩ := fin_of ((s1.trans s2).trans s3) a3
    exact p w3 vx x l u s Q s3.ok ((rx.step s2).step s3) es k⟩⟩⟩
/-! ### calls of defs of the text -/
abbrev Fn := List D → Store → R Slot
/-- n: how many arguments; We: from the wish about an exception's class and dict to ours -/
def spD (K : PySem.W.Frag) (We : XK → Wish) (n : Nat) (m : Fn) : Sp := fun vs H Q EX => vs.length = n ∧ ∃ ds w, w.H = H ∧ w.Ok K ∧ RepL K w.A w.G vs ds ∧ After K (We EX) w (m ds w.M) fun s w' => ∀ v, RepX K w w' v s → Q v w'.H
def dCall (n : Nat) (m : Fn) (fs : FL) : FE := fun ρ M => (fs ρ M).bind fun ds M => if ds.length = n then m ds M else .bad
theorem x_call {We : XK → Wish} {n : Nat} {m : Fn} {EX : XK} {fs : FL} (hE : We EX = E) (h : PE X e (tCall (spD K We n m) [] EX (tAF K E fs))) : PE X e (tE K E (dCall n m fs)) := PE.wk h fun σ H Q ⟨ρ, w, e1, ok, sr, a⟩ =>
  ⟨ρ, w, e1, ok, sr, a.bind.imp fun ds w1 s1 a1 vs rvs => by
    split at a1
    · rename_i hn
      refine ⟨by rw [List.append_nil, rvs.length]; exact hn, ds, w1, rfl, s1.ok, by rw [List.append_nil]; exact rvs, ?_⟩
      rw [hE]
      exact a1.imp fun s w' _ z v rv => z v (rv.back s1)
    · exact a1.elim⟩
theorem x_call0 {We : XK → Wish} {m : Fn} {EX : XK} (hE : We EX = E) (h : PE X e (tCall (spD K We 0 m) [] EX tNil)) : PE X e (tE K E (dCall 0 m dNil)) := PE.wk h fun σ H Q ⟨ρ, w, e1, ok, sr, a⟩ => by
  subst e1
  refine ⟨rfl, [], w, rfl, ok, .nil, ?_⟩
  rw [hE]
  exact a
/-! ### what is walked -/
def Le (w w' : Wd) : Prop := w.A <+: w'.A ∧ Same w.G w'.G
theorem Le.refl (w : Wd) : Le w w := ⟨List.prefix_refl _, Same.refl _⟩
theorem Le.trans {w w1 w2 : Wd} (a : Le w w1) (b : Le w1 w2) : Le w w2 := ⟨a.1.trans b.1, a.2.trans b.2⟩
theorem Step.le {w w' : Wd} (s : Step K w w') : Le w w' := ⟨s.pre, s.fro⟩
theorem Le.rep {w w' : Wd} (s : Le w w') {v : V} {d : D} (h : Rep K w.A w.G v d) : Rep K w'.A w'.G v d := Rep.mono s.1 s.2 d v h
theorem Le.repL {w w' : Wd} (s : Le w w') {v : List V} {d : List D} (h : RepL K w.A w.G v d) : RepL K w'.A w'.G v d := RepL.mono s.1 s.2 d v h
/-- the iterator yields these things, whatever comes between, as long as what is frozen stays -/
def IterOk (K : PySem.W.Frag) (w : Wd) (J : It) (ds : List D) : Prop := ∀ w2, Le w w2 → w2.Ok K → ∀ i, (∀ d, ds[i]? = some d → J.go i w2.H ∧ ∀ x H', J.yld i w2.H x H' → ∃ w3, Step K w2 w3 ∧ w3.M = w2.M ∧ w3.H = H' ∧ Rep K w3.A w3.G x d) ∧ (ds.length ≤ i → J.stop i w2.H)
def tI (K : PySem.W.Frag) (E : Wish) (f : FL) : TI := fun σ H Q => ∃ ρ w, w.H = H ∧ w.Ok K ∧ SR K w ρ σ ∧ After K E w (f ρ w.M) fun ds w' => ∀ J, IterOk K w' J ds → Q J w'.H
theorem PI.wk {tg : Expr} {t t' : TI} (h : PI X tg e t) (f : ∀ σ H Q, t' σ H Q → t σ H Q) : PI X tg e t' := ⟨fun pins s σ H Q I q => h.run pins s σ H Q I (f σ H Q q)⟩
theorem PI.or {tg : Expr} {t t' : TI} (h : PI X tg e t) (h' : PI X tg e t') : PI X tg e (fun σ H Q => t σ H Q ∨ t' σ H Q) := ⟨fun pins s σ H Q I q => q.elim (h.run pins s σ H Q I) (h'.run pins s σ H Q I)⟩
/-- the items of a thing that is walked -/
def itemsD : D → Option (List D)
  | .lst ds => some ds
  | .fro ds => some ds
  | .tup ds => some ds
  | .kt ds => some ds
  | .str x => some (x.cps.toList.map fun c => .str ⟨#[c]⟩)
  | _ => none
def dIt (f : FD) : FL := fun ρ M => (f ρ M).bind fun x M => R.of (itemsD x) M
theorem it_list {w : Wd} {a : Addr} {vs : List V} {ds : List D} (hs : SqL K w.G a vs) (rl : RepL K w.A w.G vs ds) : IterOk K w (Itl K a) ds := fun w2 le ok2 i => by
  have h2 : SqL K w2.H a vs := ok2.sub.seq (le.2.seq hs)
  have r2 := le.repL rl
  refine ⟨fun d ed => ?_, fun hl => ⟨vs, h2, by rw [rl.length]; exact hl⟩⟩
  obtain ⟨v, ev, rv⟩ := r2.get ed
  refine ⟨⟨vs, v, h2, ev⟩, fun x H' y => ?_⟩
  obtain ⟨eH, y⟩ := y
  have := y vs h2
  rw [ev] at this
  cases this
  exact ⟨w2, Step.refl ok2, rfl, eH.symm, rv⟩
theorem it_tup {w : Wd} {a : Addr} {vs : List V} {ds : List D} (hs : SqT K w.G a vs) (rl : RepL K w.A w.G vs ds) : IterOk K w (Itt K a) ds := fun w2 le ok2 i => by
  have h2 : SqT K w2.H a vs := sqT_mono ok2.sub (sqT_mono le.2 hs)
  have r2 := le.repL rl
  refine ⟨fun d ed => ?_, fun hl => ⟨vs, h2, by rw [rl.length]; exact hl⟩⟩
  obtain ⟨v, ev, rv⟩ := r2.get ed
  refine ⟨⟨vs, v, h2, ev⟩, fun x H' y => ?_⟩
  obtain ⟨eH, y⟩ := y
  have := y vs h2
  rw [ev] at this
  cases this
  exact ⟨w2, Step.refl ok2, rfl, eH.symm, rv⟩
theorem it_str {w : Wd} (x : Str) : IterOk K w (Its x) (x.cps.toList.map fun c => .str ⟨#[c]⟩) := fun w2 le ok2 i => by
  refine ⟨fun d ed => ?_, fun hl => show x.cps.size ≤ i by simpa using hl⟩
  rw [List.getElem?_map] at ed
  cases q : x.cps.toList[i]? with
  | none => rw [q] at ed; cases ed
  | some c =>
    rw [q] at ed
    cases ed
    have q' : x.cps[i]? = some c := by simpa using q
    refine ⟨?_, fun v H' y => ?_⟩
    · have := (List.getElem?_eq_some_iff.mp q).1
      show i < x.cps.size
      simpa using this
    · obtain ⟨eH, c', ec, ev⟩ := y
      rw [q'] at ec
      cases ec
      subst ev
      exact ⟨w2, Step.refl ok2, rfl, eH.symm, .str _⟩
/-- lo, lo + 1, .. -/
def rngL (lo : Int) (n : Nat) : List D := (List.range n).map fun (i : Nat) => .int (lo + i)
theorem rngL_len (lo : Int) (n : Nat) : (rngL lo n).length = n := by simp [rngL]
theorem it_range {w : Wd} (lo : Int) (n : Nat) : IterOk K w (Itr lo n) (rngL lo n) := fun w2 le ok2 i => by
  refine ⟨fun d ed => ?_, fun hl => show n ≤ i by rw [rngL_len] at hl; exact hl⟩
  unfold rngL at ed
  rw [List.getElem?_map] at ed
  by_cases hi : i < n
  · rw [List.getElem?_range hi] at ed
    cases ed
    refine ⟨hi, fun v H' y => ?_⟩
    obtain ⟨eH, ev⟩ := y
    subst ev
    exact ⟨w2, Step.refl ok2, rfl, eH.symm, .int _⟩
  · rw [List.getElem?_eq_none (by simpa using hi)] at ed
    cases ed
theorem x_it {tg : Expr} {f : FD} (h : PI X tg e (fun σ H Q => iList K (tF K E f) σ H Q ∨ (iTup K (tF K E f) σ H Q ∨ iStr (tF K E f) σ H Q))) : PI X tg e (tI K E (dIt f)) := PI.wk h fun σ H Q ⟨ρ, w, e1, ok, sr, a⟩ => by
  have a1 := a.bind
  cases q : f ρ w.M with
  | bad => rw [q] at a1; exact a1.elim
  | exc c d M => rw [q] at a1; exact .inl ⟨ρ, w, e1, ok, sr, by rw [q]; exact a1⟩
  | ok x M =>
    rw [q] at a1
    cases x with
    | lst ds =>
      refine .inl ⟨ρ, w, e1, ok, sr, ?_⟩
      rw [q]
      intro w1 s1 eM v rv
      cases rv with
      | lst hs rl => exact ⟨_, rfl, ⟨_, .inl (.inl (s1.ok.sub _ _ hs))⟩, a1 w1 s1 eM w1 (Step.refl s1.ok) rfl _ (it_list (.inl (.inl hs)) rl)⟩
    | fro ds =>
      refine .inl ⟨ρ, w, e1, ok, sr, ?_⟩
      rw [q]
      intro w1 s1 eM v rv
      cases rv with
      | fro hs rl => exact ⟨_, rfl, ⟨_, s1.ok.sub.seq hs⟩, a1 w1 s1 eM w1 (Step.refl s1.ok) rfl _ (it_list hs rl)⟩
    | tup ds =>
      refine .inr (.inl ⟨ρ, w, e1, ok, sr, ?_⟩)
      rw [q]
      intro w1 s1 eM v rv
      cases rv with
      | tup hs rl => exact ⟨_, rfl, ⟨_, .inl (.inl (s1.ok.sub _ _ hs))⟩, a1 w1 s1 eM w1 (Step.refl s1.ok) rfl _ (it_tup (.inl (.inl hs)) rl)⟩
    | kt ds =>
      refine .inr (.inl ⟨ρ, w, e1, ok, sr, ?_⟩)
      rw [q]
      intro w1 s1 eM v rv
      cases rv with
      | kt hs rl => exact ⟨_, rfl, ⟨_, sqT_mono s1.ok.sub hs⟩, a1 w1 s1 eM w1 (Step.refl s1.ok) rfl _ (it_tup hs rl)⟩
    | str y =>
      refine .inr (.inr ⟨ρ, w, e1, ok, sr, ?_⟩)
      rw [q]
      intro w1 s1 eM v rv
      cases rv
      exact ⟨_, rfl, a1 w1 s1 eM w1 (Step.refl s1.ok) rfl _ (it_str y)⟩
    | non => exact (show After K E w (dIt f ρ w.M) _ from a) |> fun z => by rw [show dIt f ρ w.M = .bad by simp only [dIt, q, R.bind, itemsD, R.of]] at z; exact z.elim
    | bl b => exact (show After K E w (dIt f ρ w.M) _ from a) |> fun z => by rw [show dIt f ρ w.M = .bad by simp only [dIt, q, R.bind, itemsD, R.of]] at z; exact z.elim
    | int b => exact (show After K E w (dIt f ρ w.M) _ from a) |> fun z => by rw [show dIt f ρ w.M = .bad by simp only [dIt, q, R.bind, itemsD, R.of]] at z; exact z.elim
    | ref b => exact (show After K E w (dIt f ρ w.M) _ from a) |> fun z => by rw [show dIt f ρ w.M = .bad by simp only [dIt, q, R.bind, itemsD, R.of]] at z; exact z.elim
theorem RepBL.one {w : Wd} {vs : List V} {d : D} (h : RepBL K w vs [d]) : ∃ v, vs = [v] ∧ RepB K w v d := by
  cases h with
  | cons h1 h2 => cases h2; exact ⟨_, rfl, h1⟩
theorem RepBL.two {w : Wd} {vs : List V} {d d' : D} (h : RepBL K w vs [d, d']) : ∃ v v', vs = [v, v'] ∧ RepB K w v d ∧ RepB K w v' d' := by
  cases h with
  | cons h1 h2 =>
    cases h2 with
    | cons h2 h3 => cases h3; exact ⟨_, _, rfl, h1, h2⟩
/-- range(n), range(m, n) -/
def rng1D : List D → Option (List D)
  | [.int j] => if -(2 ^ 62) ≤ j ∧ j < 2 ^ 62 then some (rngL 0 j.toNat) else none
  | _ => none
def rng2D : List D → Option (List D)
  | [.int i, .int j] => if -(2 ^ 62) ≤ i ∧ i < 2 ^ 62 ∧ -(2 ^ 62) ≤ j ∧ j < 2 ^ 62 then some (rngL i (j - i).toNat) else none
  | _ => none
def dRng1 (fs : FL) : FL := fun ρ M => (fs ρ M).bind fun ds M => R.of (rng1D ds) M
def dRng2 (fs : FL) : FL := fun ρ M => (fs ρ M).bind fun ds M => R.of (rng2D ds) M
theorem x_rng1 {tg : Expr} {fs : FL} (h : PI X tg e (iRng1 (tAR K E fs))) : PI X tg e (tI K E (dRng1 fs)) := PI.wk h fun σ H Q ⟨ρ, w, e1, ok, sr, a⟩ =>
  ⟨ρ, w, e1, ok, sr, a.bind.imp fun ds w1 s1 a1 vs rvs => by
    obtain ⟨items, ei, k⟩ := a1.of (Step.refl s1.ok) rfl
    unfold rng1D at ei
    split at ei
    · rename_i j
      split at ei
      · rename_i hj
        cases ei
        obtain ⟨v, rfl, rv⟩ := rvs.one
        cases int_at rv
        exact ⟨j, rfl, hj.1, hj.2, k _ (it_range 0 j.toNat)⟩
      · cases ei
    · cases ei⟩
theorem x_rng2 {tg : Expr} {fs : FL} (h : PI X tg e (iRng2 (tAR K E fs))) : PI X tg e (tI K E (dRng2 fs)) := PI.wk h fun σ H Q ⟨ρ, w, e1, ok, sr, a⟩ =>
  ⟨ρ, w, e1, ok, sr, a.bind.imp fun ds w1 s1 a1 vs rvs => by
    obtain ⟨items, ei, k⟩ := a1.of (Step.refl s1.ok) rfl
    unfold rng2D at ei
    split at ei
    · rename_i i j
      split at ei
      · rename_i hj
        cases ei
        obtain ⟨v, v', rfl, rv, rv'⟩ := rvs.two
        cases int_at rv
        cases int_at rv'
        exact ⟨i, j, rfl, ⟨hj.1, hj.2.1, hj.2.2.1, hj.2.2.2⟩, k _ (it_range i _)⟩
      · cases ei
    · cases ei⟩
/-! ### targets -/
/-- b: how a thing is bound to names; is: the names' places -/
def OwnSub (ρ ρ' : EnvD) (σ σ' : St) : Prop := ∀ (j : Nat) (ds : List D), ρ'[j]? = some (.own ds) → ρ[j]? = some (.own ds) ∧ σ'[j]? = σ[j]?
theorem OwnSub.refl (ρ : EnvD) (σ : St) : OwnSub ρ ρ σ σ := fun _ _ h => ⟨h, rfl⟩
theorem OwnSub.trans {ρ ρ1 ρ2 : EnvD} {σ σ1 σ2 : St} (a : OwnSub ρ ρ1 σ σ1) (b : OwnSub ρ1 ρ2 σ1 σ2) : OwnSub ρ ρ2 σ σ2 := fun j ds h => by
  obtain ⟨h1, e1⟩ := b j ds h
  obtain ⟨h2, e2⟩ := a j ds h1
  exact ⟨h2, e1.trans e2⟩
theorem OwnSub.set (ρ : EnvD) (σ : St) (i : Nat) {s : Slot} (hs : ∀ ds, s ≠ .own ds) (v : Option V) : OwnSub ρ (ρ.set i s) σ (σ.set i v) := fun j ds h => by
  by_cases hj : i = j
  · subst hj
    have hi : i < ρ.length := by have := (List.getElem?_eq_some_iff.mp h).1; rwa [List.length_set] at this
    rw [List.getElem?_set_self hi] at h
    exact absurd (Option.some.inj h) (hs ds)
  · rw [List.getElem?_set_ne hj] at h ⊢
    exact ⟨h, rfl⟩
def tG (K : PySem.W.Frag) (b : D → EnvD → Option EnvD) (is : List Nat) : TG := fun v σ H Q => ∃ ρ w d ρ', w.H = H ∧ w.Ok K ∧ SR K w ρ σ ∧ Rep K w.A w.G v d ∧ b d ρ = some ρ' ∧ ∀ σ', SR K w ρ' σ' → OwnSub ρ ρ' σ σ' → (∀ j, j ∉ is → σ'[j]? = σ[j]?) → σ'.length = σ.length → Q σ' H
theorem PG.wk {tg : Expr} {t t' : TG} (h : PG X tg t) (f : ∀ v σ H Q, t' v σ H Q → t v σ H Q) : PG X tg t' := ⟨fun pins s σ H v u Q I r q => h.run pins s σ H v u Q I r (f v σ H Q q)⟩
theorem SR.set {w : Wd} {ρ : EnvD} {σ : St} (sr : SR K w ρ σ) (i : Nat) {v : V} {d : D} (r : Rep K w.A w.G v d) : SR K w (ρ.set i (.val d)) (σ.set i (some v)) := by
  refine ⟨by rw [List.length_set, List.length_set]; exact sr.len, fun j x h => ?_, fun j ds h => ?_, fun j k ds es p h1 h2 h3 h4 => ?_⟩
  · by_cases hj : i = j
    · subst hj
      have hi : i < ρ.length := by have := (List.getElem?_eq_some_iff.mp h).1; rwa [List.length_set] at this
      rw [List.getElem?_set_self hi] at h
      cases h
      exact ⟨v, List.getElem?_set_self (by rw [← sr.len]; exact hi), r⟩
    · rw [List.getElem?_set_ne hj] at h ⊢
      exact sr.val j x h
  · by_cases hj : i = j
    · subst hj
      have hi : i < ρ.length := by have := (List.getElem?_eq_some_iff.mp h).1; rwa [List.length_set] at this
      rw [List.getElem?_set_self hi] at h
      cases h
    · rw [List.getElem?_set_ne hj] at h ⊢
      exact sr.own j ds h
  · have nj : i ≠ j := fun hj => by
      subst hj
      have hi : i < ρ.length := by have := (List.getElem?_eq_some_iff.mp h1).1; rwa [List.length_set] at this
      rw [List.getElem?_set_self hi] at h1
      cases h1
    have nk : i ≠ k := fun hj => by
      subst hj
      have hi : i < ρ.length := by have := (List.getElem?_eq_some_iff.mp h2).1; rwa [List.length_set] at this
      rw [List.getElem?_set_self hi] at h2
      cases h2
    rw [List.getElem?_set_ne nj] at h1 h3
    rw [List.getElem?_set_ne nk] at h2 h4
    exact sr.dis j k ds es p h1 h2 h3 h4
def bName (i : Nat) : D → EnvD → Option EnvD := fun d ρ => some (ρ.set i (.val d))
theorem x_gname {tg : Expr} {i : Nat} (h : PG X tg (gName i)) : PG X tg (tG K (bName i) [i]) := PG.wk h fun v σ H Q ⟨ρ, w, d, ρ', e1, ok, sr, r, eb, k⟩ => by
  cases eb
  exact k _ (sr.set i r) (OwnSub.set ρ σ i (fun _ z => by cases z) _) (fun j hj => List.getElem?_set_ne (by simpa using fun z => hj (by simp [z]))) (by rw [List.length_set])
/-- several names -/
def bNames : List Nat → List D → EnvD → Option EnvD
  | [], [], ρ => some ρ
  | i :: is, d :: ds, ρ => bNames is ds (ρ.set i (.val d))
  | _, _, _ => none
def bTup (is : List Nat) : D → EnvD → Option EnvD := fun d ρ => match d with
  | .tup ds => bNames is ds ρ
  | _ => none
def gNames : List Nat → TGs
  | [] => gNil
  | i :: is => gCons (gName i) (gNames is)
theorem gNames_ok {w : Wd} {Q : St → Hp → Prop} (ok : w.Ok K) : ∀ (is : List Nat) (ds : List D) (vs : List V) (ρ ρ' : EnvD) (σ : St), SR K w ρ σ → RepL K w.A w.G vs ds → bNames is ds ρ = some ρ' →
    (∀ σ', SR K w ρ' σ' → OwnSub ρ ρ' σ σ' → (∀ j, j ∉ is → σ'[j]? = σ[j]?) → σ'.length = σ.length → Q σ' w.H) → gNames is vs σ w.H Q
  | [], [], _, ρ, ρ', σ, sr, rl, eb, k => by
    cases rl
    cases eb
    exact ⟨rfl, k σ sr (OwnSub.refl _ _) (fun _ _ => rfl) rfl⟩
  | i :: is, d :: ds, _, ρ, ρ', σ, sr, rl, eb, k => by
    cases rl with
    | cons r rl =>
      refine ⟨_, _, rfl, ?_⟩
      exact gNames_ok ok is ds _ _ ρ' _ (sr.set i r) rl eb fun σ' sr' os h1 h2 => k σ' sr' ((OwnSub.set ρ σ i (fun _ z => by cases z) _).trans os) (fun j hj => by
        rw [h1 j (fun z => hj (List.mem_cons_of_mem _ z)), List.getElem?_set_ne (fun z => hj (by rw [z]; exact List.mem_cons_self))]) (by rw [h2, List.length_set])
  | [], _ :: _, _, _, _, _, _, _, eb, _ => by cases eb
  | _ :: _, [], _, _, _, _, _, _, eb, _ => by cases eb
theorem bNames_len : ∀ {is : List Nat} {ds : List D} {ρ ρ' : EnvD}, bNames is ds ρ = some ρ' → is.length = ds.length
  | [], [], _, _, _ => rfl
  | _ :: is, _ :: ds, _, _, h => by rw [List.length_cons, List.length_cons, bNames_len (is := is) (ds := ds) h]
  | [], _ :: _, _, _, h => by cases h
  | _ :: _, [], _, _, h => by cases h
theorem x_gtup {tg : Expr} {is : List Nat} {n : Nat} (hn : n = is.length) (h : PG X tg (gTup K n (gNames is))) : PG X tg (tG K (bTup is) is) := PG.wk h fun v σ H Q ⟨ρ, w, d, ρ', e1, ok, sr, r, eb, k⟩ => by
  subst e1
  unfold bTup at eb
  split at eb
  · cases r with
    | tup hs rl =>
      refine ⟨_, _, rfl, .inl (.inl (ok.sub _ _ hs)), by rw [rl.length, ← bNames_len eb, hn], ?_⟩
      exact gNames_ok ok is _ _ ρ ρ' σ sr rl eb k
  · cases eb
/-! ### comprehensions -/
def wipeD (ρ : EnvD) : List Nat → EnvD
  | [] => ρ
  | v :: vs => (wipeD ρ vs).set v .un
theorem SR.wipe1 {w : Wd} {ρ : EnvD} {σ : St} (sr : SR K w ρ σ) (i : Nat) : SR K w (ρ.set i .un) (σ.set i none) := by
  have no : ∀ {j : Nat} {s : Slot}, s ≠ .un → (ρ.set i .un)[j]? = some s → i ≠ j := fun {j s} hs h hj => by
    subst hj
    have hi : i < ρ.length := by have := (List.getElem?_eq_some_iff.mp h).1; rwa [List.length_set] at this
    rw [List.getElem?_set_self hi] at h
    exact hs (Option.some.inj h).symm
  refine ⟨by rw [List.length_set, List.length_set]; exact sr.len, fun j x h => ?_, fun j ds h => ?_, fun j k ds es p h1 h2 h3 h4 => ?_⟩
  · have nj := no (fun z => by cases z) h
    rw [List.getElem?_set_ne nj] at h ⊢
    exact sr.val j x h
  · have nj := no (fun z => by cases z) h
    rw [List.getElem?_set_ne nj] at h ⊢
    exact sr.own j ds h
  · have nj := no (fun z => by cases z) h1
    have nk := no (fun z => by cases z) h2
    rw [List.getElem?_set_ne nj] at h1 h3
    rw [List.getElem?_set_ne nk] at h2 h4
    exact sr.dis j k ds es p h1 h2 h3 h4
theorem SR.wipe {w : Wd} {ρ : EnvD} {σ : St} (sr : SR K w ρ σ) : ∀ vs : List Nat, SR K w (wipeD ρ vs) (wipe σ vs)
  | [] => sr
  | v :: vs => (SR.wipe sr vs).wipe1 v
theorem wipe_get (τ : St) (vs : List Nat) (j : Nat) : (wipe τ vs)[j]? = if j ∈ vs then (if j < τ.length then some none else none) else τ[j]? := by
  induction vs with
  | nil => simp [wipe]
  | cons v vs ih =>
    unfold wipe
    by_cases hv : v = j
    · subst hv
      rw [if_pos List.mem_cons_self, List.getElem?_set, if_pos rfl, wipe_length]
    · rw [List.getElem?_set_ne hv, ih]
      by_cases hm : j ∈ vs
      · rw [if_pos hm, if_pos (List.mem_cons_of_mem _ hm)]
      · rw [if_neg hm, if_neg (by simp [hm, Ne.symm hv])]
theorem wipe_same {σ σ' : St} (hl : σ'.length = σ.length) (vs : List Nat) (h : ∀ j, j ∉ vs → σ'[j]? = σ[j]?) : wipe σ' vs = wipe σ vs := by
  apply List.ext_getElem?
  intro j
  rw [wipe_get, wipe_get, hl]
  by_cases hm : j ∈ vs
  · rw [if_pos hm, if_pos hm]
  · rw [if_neg hm, if_neg hm, h j hm]
theorem wipe_wipe (σ : St) (vs : List Nat) : wipe (wipe σ vs) vs = wipe σ vs := by
  refine wipe_same (wipe_length σ vs) vs fun j hj => ?_
  rw [wipe_get, if_neg hj]
abbrev E00 : Wish := fun _ _ _ => False
/-- the turns of a comprehension -/
def lcGo (b : D → EnvD → Option EnvD) (c : FB) (f : FD) (ρ0 : EnvD) : List D → List D → Store → R (List D)
  | [], acc, M => .ok acc M
  | d :: ds, acc, M => match b d ρ0 with
    | none => .bad
    | some ρ1 => match c ρ1 M with
      | .ok true M1 => match f ρ1 M1 with
        | .ok y M2 => if acc.length < sizeLine then lcGo b c f ρ0 ds (acc ++ [y]) M2 else .bad
        | _ => .bad
      | .ok false M1 => lcGo b c f ρ0 ds acc M1
      | _ => .bad
theorem lcGo_exc {b : D → EnvD → Option EnvD} {c : FB} {f : FD} {ρ0 : EnvD} {k : Nat} {x : D} {M' : Store} : ∀ (ds acc : List D) (M : Store), lcGo b c f ρ0 ds acc M ≠ .exc k x M'
  | [], _, _ => fun h => by cases h
  | d :: ds, acc, M => fun h => by
    unfold lcGo at h
    split at h
    · cases h
    · split at h
      · split at h
        · split at h
          · exact lcGo_exc ds _ _ h
          · cases h
        · cases h
      · exact lcGo_exc ds _ _ h
      · cases h
def dLc (fi : FL) (b : D → EnvD → Option EnvD) (c : FB) (f : FD) (vs : List Nat) : FE := fun ρ M => (fi ρ M).bind fun items M => (lcGo b c f (wipeD ρ vs) items [] M).map Slot.own
/-- what is wanted of the rest of the turns -/
def LcRest (K : PySem.W.Frag) (w0 : Wd) (D : Addr) (Q : VK) (r : R (List TP.D)) : Prop := match r with
  | .ok res M => ∀ w' vres, Step K w0 w' → w'.M = M → w'.H D = some (.lst vres) → w'.G D = none → D ∉ w'.A → RepL K w'.A w'.G vres res → Q (.ref D) w'.H
  | _ => False
theorem setOwn_ok {w : Wd} (h : w.Ok K) {p : Addr} {o o' : HO} (hp : w.H p = some o') (hG : w.G p = none) (hA : p ∉ w.A) : (⟨w.A, w.G, w.M, upd w.H p o⟩ : Wd).Ok K := by
  refine ⟨fun b u e => ?_, h.nd, h.len, h.out, fun k m e => ?_⟩
  · show upd w.H p o b = some u
    rw [upd_ne (ne_of_none e hG)]
    exact h.sub b u e
  · obtain ⟨a, ea, r⟩ := h.mos k m e
    have na : a ≠ p := fun z => hA (z ▸ List.mem_of_getElem? ea)
    refine ⟨a, ea, ?_⟩
    cases m with
    | lst ds => obtain ⟨vs, z, q⟩ := r; exact ⟨vs, by show upd w.H p o a = _; rw [upd_ne na]; exact z, q⟩
    | dK ds => obtain ⟨vs, z, q⟩ := r; exact ⟨vs, by show upd w.H p o a = _; rw [upd_ne na]; exact z, q⟩
    | dT ds => obtain ⟨vs, z, q⟩ := r; exact ⟨vs, by show upd w.H p o a = _; rw [upd_ne na]; exact z, q⟩
    | ins c fs => obtain ⟨io, vs, dx, z, q⟩ := r; exact ⟨io, vs, dx, by show upd w.H p o a = _; rw [upd_ne na]; exact z, q⟩
/-- an own thing that was not there at w0 is changed -/
theorem Step.setOwn {w0 w : Wd} (s : Step K w0 w) {p : Addr} {o o' : HO} (h0 : w0.H p = none) (hp : w.H p = some o') (hG : w.G p = none) (hA : p ∉ w.A) : Step K w0 ⟨w.A, w.G, w.M, upd w.H p o⟩ :=
  ⟨setOwn_ok s.ok hp hG hA, s.pre, s.fro, fun q u h1 h2 h3 => by
    obtain ⟨a, b, c⟩ := s.keep q u h1 h2 h3
    exact ⟨by show upd w.H p o q = some u; rw [upd_ne (ne_of_none h1 h0)]; exact a, b, c⟩⟩
theorem lc_le {fi : FL} {b : D → EnvD → Option EnvD} {is : List Nat} {c : FB} {f : FD} {vs : List Nat} (hv : ∀ i ∈ is, i ∈ vs) (σ : St) (H : Hp) (Q : VK) : tE K E (dLc fi b c f vs) σ H Q → tLc (tI K E fi) (tG K b is) (tT K E00 c) (tF K E00 f) vs σ H Q := fun ⟨ρ, w, e1, ok, sr, a⟩ =>
  ⟨ρ, w, e1, ok, sr, a.bind.imp fun items w1 s1 a1 J hJ Dl hD => by
    have s0 := s1.ok.fresh0 hD (.lst [])
    have hG1 : w1.G Dl = none := s1.ok.sub.free hD
    have hA1 := s1.ok.notA hD
    have a2 : LcRest K w1 Dl Q (lcGo b c f (wipeD ρ vs) items [] w1.M) := by
      have a2 := a1.map
      revert a2
      cases q : lcGo b c f (wipeD ρ vs) items [] w1.M with
      | bad => exact fun z => z
      | exc c d M => exact absurd q (lcGo_exc _ _ _)
      | ok res M => exact fun z w' vres st eM hH hG hA rl => z w' st eM _ ⟨Dl, vres, rfl, s1.free hD, hH, hG, hA, rl⟩
    refine ⟨fun i m H => m = items.length - i ∧ i ≤ items.length ∧ ∃ w acc vacc, w.H = H ∧ Step K w1 w ∧ w.H Dl = some (.lst vacc) ∧ w.G Dl = none ∧ Dl ∉ w.A ∧ RepL K w.A w.G vacc acc ∧ LcRest K w1 Dl Q (lcGo b c f (wipeD ρ vs) (items.drop i) acc w.M),
      ⟨items.length, by simp, Nat.zero_le _, _, [], [], rfl, s0, upd_same, hG1, hA1, .nil, by simpa using a2⟩, ?_⟩
    rintro i m H ⟨rfl, hi, w2, acc, vacc, rfl, s2, hH2, hG2, hA2, rl2, rest⟩
    by_cases hlt : i < items.length
    · have ed : items[i]? = some items[i] := List.getElem?_eq_getElem hlt
      rw [List.drop_eq_getElem_cons hlt] at rest
      obtain ⟨go, yl⟩ := (hJ w2 s2.le s2.ok i).1 _ ed
      refine .inr ⟨go, fun H' => i + 1 ≤ items.length ∧ ∃ w acc vacc, w.H = H' ∧ Step K w1 w ∧ w.H Dl = some (.lst vacc) ∧ w.G Dl = none ∧ Dl ∉ w.A ∧ RepL K w.A w.G vacc acc ∧ LcRest K w1 Dl Q (lcGo b c f (wipeD ρ vs) (items.drop (i + 1)) acc w.M),
        fun H' ⟨h1, h2⟩ => ⟨_, by omega, rfl, h1, h2⟩, fun x H' hy => ?_⟩
      obtain ⟨w3, s3, eM3, rfl, rx⟩ := yl x H' hy
      unfold lcGo at rest
      cases eb : b items[i] (wipeD ρ vs) with
      | none => rw [eb] at rest; exact rest.elim
      | some ρ1 =>
        rw [eb] at rest
        simp only at rest
        have sr3 : SR K w3 (wipeD ρ vs) (wipe σ vs) := (((sr.step s1).step s2).step s3).wipe vs
        refine ⟨wipeD ρ vs, w3, items[i], ρ1, rfl, s3.ok, sr3, rx, eb, fun σ' sr' _ h1 h2 => ⟨?_, ?_⟩⟩
        · have e2 := wipe_same h2 vs (fun j hj => h1 j (fun z => hj (hv j z)))
          rw [e2]
          exact wipe_wipe σ vs
        · refine ⟨ρ1, w3, rfl, s3.ok, sr', ?_⟩
          have s13 : Step K w1 w3 := s2.trans s3
          obtain ⟨hH3, hG3, hA3⟩ := s3.keepN Dl _ hH2 hG2 hA2
          rw [eM3]
          cases ec : c ρ1 w2.M with
          | bad => rw [ec] at rest; exact rest.elim
          | exc _ _ _ => rw [ec] at rest; exact rest.elim
          | ok t M1 =>
            rw [ec] at rest
            intro w4 s4 eM4
            obtain ⟨hH4, hG4, hA4⟩ := s4.keepN Dl _ hH3 hG3 hA3
            cases t with
            | false =>
              refine iteF ⟨hlt, w4, acc, vacc, rfl, s13.trans s4, hH4, hG4, hA4, (s3.trans s4).repL rl2, ?_⟩
              rw [eM4]
              exact rest
            | true =>
              refine iteT ⟨ρ1, w4, rfl, s4.ok, sr'.step s4, ?_⟩
              simp only at rest
              rw [eM4]
              cases ef : f ρ1 M1 with
              | bad => rw [ef] at rest; exact rest.elim
              | exc _ _ _ => rw [ef] at rest; exact rest.elim
              | ok y M2 =>
                rw [ef] at rest
                intro w5 s5 eM5 v rv
                obtain ⟨hH5, hG5, hA5⟩ := s5.keepN Dl _ hH4 hG4 hA4
                have rl5 : RepL K w5.A w5.G vacc acc := ((s3.trans s4).trans s5).repL rl2
                simp only at rest
                split at rest
                · rename_i hz
                  refine ⟨vacc, hH5, by rw [rl5.length]; exact hz, hlt, ⟨w5.A, w5.G, w5.M, upd w5.H Dl (.lst (vacc ++ [v]))⟩, acc ++ [y], vacc ++ [v], rfl, ((s13.trans s4).trans s5).setOwn hD hH5 hG5 hA5, upd_same, hG5, hA5, rl5.append (.one rv), ?_⟩
                  show LcRest K w1 Dl Q (lcGo b c f (wipeD ρ vs) (items.drop (i + 1)) (acc ++ [y]) w5.M)
                  rw [eM5]
                  exact rest
                · exact rest.elim
    · have ei : i = items.length := by omega
      subst ei
      rw [List.drop_length] at rest
      exact .inl ⟨(hJ w2 s2.le s2.ok _).2 (Nat.le_refl _), rest w2 vacc s2 rfl hH2 hG2 hA2 rl2⟩⟩
theorem x_lc {fi : FL} {b : D → EnvD → Option EnvD} {is : List Nat} {c : FB} {f : FD} {vs : List Nat} (hv : ∀ i ∈ is, i ∈ vs) (h : PE X e (tLc (tI K E fi) (tG K b is) (tT K E00 c) (tF K E00 f) vs)) : PE X e (tE K E (dLc fi b c f vs)) := PE.wk h (lc_le hv)
end
end TP
/-! TPe: statements. -/
namespace TP
open PySem L2
inductive Out where
  | next (ρ : EnvD) (M : Store) | ret (s : Slot) (M : Store) | brk (ρ : EnvD) (M : Store) | cont (ρ : EnvD) (M : Store) | exc (c : Nat) (d : D) (M : Store) | bad
abbrev FS := EnvD → Store → Out
section
variable (K : PySem.W.Frag) (E : Wish)
/-- own lists were not there at the def's entry -/
def OF (w0 : Wd) (ρ : EnvD) (σ : St) : Prop := ∀ (i : Nat) (ds : List D) (p : Addr), ρ[i]? = some (.own ds) → σ[i]? = some (some (.ref p)) → w0.H p = none
def PostS (w0 ws : Wd) (D : Ends) : Out → Prop
  | .next ρ M => ∀ w σ, Step K w0 w → Le ws w → w.M = M → SR K w ρ σ → OF w0 ρ σ → D.nx σ w.H
  | .brk ρ M => ∀ w σ, Step K w0 w → Le ws w → w.M = M → SR K w ρ σ → OF w0 ρ σ → D.bk σ w.H
  | .cont ρ M => ∀ w σ, Step K w0 w → Le ws w → w.M = M → SR K w ρ σ → OF w0 ρ σ → D.ct σ w.H
  | .ret s M => ∀ w v, Step K w0 w → w.M = M → RepX K w0 w v s → D.rt v w.H
  | .exc c d M => ∀ w, Step K w0 w → w.M = M → E c d w
  | .bad => False
def tS (g : FS) : TS := fun D σ H => ∃ ρ w w0, w.H = H ∧ Step K w0 w ∧ SR K w ρ σ ∧ OF w0 ρ σ ∧ PostS K E w0 w D (g ρ w.M)
end
section
variable {K : PySem.W.Frag} {E : Wish} {X : Cx} {st : Stmt} {sts : List Stmt}
theorem PostS.later {w0 ws w1 : Wd} {D : Ends} {o : Out} (h : PostS K E w0 ws D o) (l : Le ws w1) : PostS K E w0 w1 D o := by
  cases o with
  | next ρ M => exact fun w σ a b => h w σ a (l.trans b)
  | brk ρ M => exact fun w σ a b => h w σ a (l.trans b)
  | cont ρ M => exact fun w σ a b => h w σ a (l.trans b)
  | ret s M => exact h
  | exc c d M => exact h
  | bad => exact h
theorem OF.sub {w0 : Wd} {ρ ρ' : EnvD} {σ σ' : St} (h : OF w0 ρ σ) (o : OwnSub ρ ρ' σ σ') : OF w0 ρ' σ' := fun i ds p h1 h2 => by
  obtain ⟨a, b⟩ := o i ds h1
  rw [b] at h2
  exact h i ds p a h2
/-! ### blocks -/
def sNil : FS := fun ρ M => .next ρ M
def sSeq (g h : FS) : FS := fun ρ M => match g ρ M with
  | .next ρ M => h ρ M
  | o => o
theorem s_nil (h : PSs X [] tNext) : PSs X [] (tS K E sNil) := PSs.wk h fun D σ H ⟨ρ, w, w0, e1, s, sr, of, p⟩ => by
  subst e1
  exact p w σ s (Le.refl w) rfl sr of
theorem s_seq {g h : FS} (hh : PSs X sts (tSeq (tS K E g) (tS K E h))) : PSs X sts (tS K E (sSeq g h)) := PSs.wk hh fun D σ H ⟨ρ, w, w0, e1, s, sr, of, p⟩ => by
  refine ⟨ρ, w, w0, e1, s, sr, of, ?_⟩
  unfold sSeq at p
  cases q : g ρ w.M with
  | next ρ' M' =>
    rw [q] at p
    intro w1 σ1 s1 l1 e2 sr1 of1
    refine ⟨ρ', w1, w0, rfl, s1, sr1, of1, ?_⟩
    rw [e2]
    exact PostS.later p l1
  | ret x M' => rw [q] at p; exact p
  | brk x M' => rw [q] at p; exact p
  | cont x M' => rw [q] at p; exact p
  | exc c d M' => rw [q] at p; exact p
  | bad => rw [q] at p; exact p
theorem s_pass (h : PS X st tNext) : PS X st (tS K E sNil) := PS.wk h fun D σ H ⟨ρ, w, w0, e1, s, sr, of, p⟩ => by
  subst e1
  exact p w σ s (Le.refl w) rfl sr of
def sBreak : FS := fun ρ M => .brk ρ M
def sCont : FS := fun ρ M => .cont ρ M
theorem s_break (h : PS X st tBreak) : PS X st (tS K E sBreak) := PS.wk h fun D σ H ⟨ρ, w, w0, e1, s, sr, of, p⟩ => by
  subst e1
  exact p w σ s (Le.refl w) rfl sr of
theorem s_cont (h : PS X st tCont) : PS X st (tS K E sCont) := PS.wk h fun D σ H ⟨ρ, w, w0, e1, s, sr, of, p⟩ => by
  subst e1
  exact p w σ s (Le.refl w) rfl sr of
/-- an expression's answer, then -/
def R.out {α : Type} (r : R α) (k : α → Store → Out) : Out := match r with
  | .ok a M => k a M
  | .exc c d M => .exc c d M
  | .bad => .bad
theorem out_after {α : Type} {w0 w : Wd} {D : Ends} {r : R α} {k : α → Store → Out} (s : Step K w0 w) (p : PostS K E w0 w D (r.out k)) : After K E w r fun a w' => PostS K E w0 w' D (k a w'.M) := by
  cases r with
  | bad => exact p
  | exc c d M => exact fun w' s' e => p w' (s.trans s') e
  | ok a M =>
    intro w' s' e
    have p' : PostS K E w0 w D (k a M) := p
    rw [e]
    exact p'.later s'.le
def sExpr (f : FE) : FS := fun ρ M => (f ρ M).out fun _ M => .next ρ M
theorem s_expr {f : FE} (h : PS X st (tDrop (tE K E f))) : PS X st (tS K E (sExpr f)) := PS.wk h fun D σ H ⟨ρ, w, w0, e1, s, sr, of, p⟩ =>
  ⟨ρ, w, e1, s.ok, sr, (out_after s p).imp fun x w1 s1 p1 v rv => p1 w1 σ (s.trans s1) (Le.refl _) rfl (sr.step s1) of⟩
def sRet (f : FE) : FS := fun ρ M => (f ρ M).out fun x M => .ret x M
theorem s_ret {f : FE} (h : PS X st (tRet (tE K E f))) : PS X st (tS K E (sRet f)) := PS.wk h fun D σ H ⟨ρ, w, w0, e1, s, sr, of, p⟩ =>
  ⟨ρ, w, e1, s.ok, sr, (out_after s p).imp fun x w1 s1 p1 v rv => p1 w1 v (s.trans s1) rfl (rv.back s)⟩
def sRetN : FS := fun _ M => .ret (.val .non) M
theorem s_retN (h : PS X st tRetN) : PS X st (tS K E sRetN) := PS.wk h fun D σ H ⟨ρ, w, w0, e1, s, sr, of, p⟩ => by
  subst e1
  exact p w .non s rfl .non
/-- return x, x perhaps a list of one's own -/
def sRetV (i : Nat) : FS := fun ρ M => match ρ[i]? with
  | some (.val d) => .ret (.val d) M
  | some (.own ds) => .ret (.own ds) M
  | _ => .bad
theorem s_retV {i : Nat} (h : PS X st (tRet (tVar i))) : PS X st (tS K E (sRetV i)) := PS.wk h fun D σ H ⟨ρ, w, w0, e1, s, sr, of, p⟩ => by
  subst e1
  unfold sRetV at p
  split at p
  · rename_i d e2
    obtain ⟨v, h1, h2⟩ := sr.val i d e2
    exact ⟨v, h1, p w v s rfl h2⟩
  · rename_i ds e2
    obtain ⟨q, vs, h1, h2, h3, h4, h5⟩ := sr.own i ds e2
    exact ⟨_, h1, p w _ s rfl ⟨q, vs, rfl, of i ds q e2 h1, h2, h3, h4, h5⟩⟩
  · exact p.elim
theorem SR.setOwn {w w' : Wd} {ρ : EnvD} {σ : St} (sr : SR K w ρ σ) (st : Step K w w') (i : Nat) {v : V} {ds : List D} (r : RepX K w w' v (.own ds)) : SR K w' (ρ.set i (.own ds)) (σ.set i (some v)) := by
  obtain ⟨p, vs, rfl, h0, hH, hG, hA, rl⟩ := r
  have sr' := sr.step st
  have other : ∀ (j : Nat) (es : List D), i ≠ j → ρ[j]? = some (.own es) → σ[j]? ≠ some (some (.ref p)) := fun j es hj h1 h2 => by
    obtain ⟨q, us, a, b, _⟩ := sr.own j es h1
    rw [a] at h2
    cases h2
    rw [h0] at b
    cases b
  refine ⟨by rw [List.length_set, List.length_set]; exact sr.len, fun j x h => ?_, fun j es h => ?_, fun j k ds1 es q h1 h2 h3 h4 => ?_⟩
  · by_cases hj : i = j
    · subst hj
      have hi : i < ρ.length := by have := (List.getElem?_eq_some_iff.mp h).1; rwa [List.length_set] at this
      rw [List.getElem?_set_self hi] at h
      cases h
    · rw [List.getElem?_set_ne hj] at h ⊢
      exact sr'.val j x h
  · by_cases hj : i = j
    · subst hj
      have hi : i < ρ.length := by have := (List.getElem?_eq_some_iff.mp h).1; rwa [List.length_set] at this
      rw [List.getElem?_set_self hi] at h
      cases h
      exact ⟨p, vs, List.getElem?_set_self (by rw [← sr.len]; exact hi), hH, hG, hA, rl⟩
    · rw [List.getElem?_set_ne hj] at h ⊢
      exact sr'.own j es h
  · by_cases hj : i = j
    · by_cases hk : i = k
      · rw [← hj, ← hk]
      · subst hj
        have hi : i < ρ.length := by have := (List.getElem?_eq_some_iff.mp h1).1; rwa [List.length_set] at this
        rw [List.getElem?_set_self (by rw [← sr.len]; exact hi)] at h3
        cases h3
        rw [List.getElem?_set_ne hk] at h2 h4
        exact absurd h4 (other k es hk h2)
    · by_cases hk : i = k
      · subst hk
        have hi : i < ρ.length := by have := (List.getElem?_eq_some_iff.mp h2).1; rwa [List.length_set] at this
        rw [List.getElem?_set_self (by rw [← sr.len]; exact hi)] at h4
        cases h4
        rw [List.getElem?_set_ne hj] at h1 h3
        exact absurd h3 (other j ds1 hj h1)
      · rw [List.getElem?_set_ne hj] at h1 h3
        rw [List.getElem?_set_ne hk] at h2 h4
        exact sr'.dis j k ds1 es q h1 h2 h3 h4
theorem OF.setOwn {w0 w w' : Wd} {ρ : EnvD} {σ : St} (of : OF w0 ρ σ) (s : Step K w0 w) (i : Nat) {v : V} {ds : List D} (r : RepX K w w' v (.own ds)) : OF w0 (ρ.set i (.own ds)) (σ.set i (some v)) := fun j es p h1 h2 => by
  obtain ⟨q, vs, rfl, h0, _⟩ := r
  by_cases hj : i = j
  · subst hj
    have hi : i < σ.length := by have := (List.getElem?_eq_some_iff.mp h2).1; rwa [List.length_set] at this
    rw [List.getElem?_set_self hi] at h2
    cases h2
    exact s.free h0
  · rw [List.getElem?_set_ne hj] at h1 h2
    exact of j es p h1 h2
/-- name = value -/
def sSet (i : Nat) (f : FE) : FS := fun ρ M => (f ρ M).out fun x M => match x with
  | .un => .bad
  | x => .next (ρ.set i x) M
theorem s_set {i : Nat} {f : FE} (h : PS X st (tAsg (tE K E f) (gName i))) : PS X st (tS K E (sSet i f)) := PS.wk h fun D σ H ⟨ρ, w, w0, e1, s, sr, of, p⟩ =>
  ⟨ρ, w, e1, s.ok, sr, (out_after s p).imp fun x w1 s1 p1 v rv => by
    cases x with
    | un => exact rv.elim
    | val d => exact p1 w1 _ (s.trans s1) (Le.refl _) rfl ((sr.step s1).set i rv) (of.sub (OwnSub.set ρ σ i (fun _ z => by cases z) _))
    | own ds => exact p1 w1 _ (s.trans s1) (Le.refl _) rfl (sr.setOwn s1 i rv) (of.setOwn s i rv)⟩
/-- target = value -/
def sAsg (b : D → EnvD → Option EnvD) (f : FD) : FS := fun ρ M => (f ρ M).out fun x M => match b x ρ with
  | some ρ' => .next ρ' M
  | none => .bad
theorem s_asg {b : D → EnvD → Option EnvD} {is : List Nat} {f : FD} (h : PS X st (tAsg (tF K E f) (tG K b is))) : PS X st (tS K E (sAsg b f)) := PS.wk h fun D σ H ⟨ρ, w, w0, e1, s, sr, of, p⟩ =>
  ⟨ρ, w, e1, s.ok, sr, (out_after s p).imp fun x w1 s1 p1 v rv => by
    cases eb : b x ρ with
    | none => rw [eb] at p1; exact p1.elim
    | some ρ' =>
      rw [eb] at p1
      exact ⟨ρ, w1, x, ρ', rfl, s1.ok, sr.step s1, rv, eb, fun σ' sr' os _ _ => p1 w1 σ' (s.trans s1) (Le.refl _) rfl sr' (of.sub os)⟩⟩
/-- a, b = x, y by swapped stores: both values frozen or of their own kind -/
def sPar (i j : Nat) (fs : FL) : FS := fun ρ M => (fs ρ M).out fun ds M => match ds with
  | [x, y] => .next ((ρ.set i (.val x)).set j (.val y)) M
  | _ => .bad
theorem s_par {i j : Nat} {fs : FL} (h : PS X st (tPar i j (tAF K E fs))) : PS X st (tS K E (sPar i j fs)) := PS.wk h fun D σ H ⟨ρ, w, w0, e1, s, sr, of, p⟩ =>
  ⟨ρ, w, e1, s.ok, sr, (out_after s p).imp fun ds w1 s1 p1 vs rvs => by
    split at p1
    · cases rvs with
      | cons r1 r2 =>
        cases r2 with
        | cons r2 r3 =>
          cases r3
          refine ⟨_, _, rfl, p1 w1 _ (s.trans s1) (Le.refl _) rfl (((sr.step s1).set i r1).set j r2) (of.sub ((OwnSub.set ρ σ i (fun _ z => by cases z) _).trans (OwnSub.set _ _ j (fun _ z => by cases z) _)))⟩
    · exact p1.elim⟩
/-! ### if -/
def sIf (c : FB) (g h : FS) : FS := fun ρ M => (c ρ M).out fun b M => if b then g ρ M else h ρ M
theorem s_if {c : FB} {g h : FS} (hh : PS X st (tIfS (tT K E c) (tS K E g) (tS K E h))) : PS X st (tS K E (sIf c g h)) := PS.wk hh fun D σ H ⟨ρ, w, w0, e1, s, sr, of, p⟩ =>
  ⟨ρ, w, e1, s.ok, sr, (out_after s p).imp fun b w1 s1 p1 => by
    cases b with
    | true => exact iteT ⟨ρ, w1, w0, rfl, s.trans s1, sr.step s1, of, p1⟩
    | false => exact iteF ⟨ρ, w1, w0, rfl, s.trans s1, sr.step s1, of, p1⟩⟩
/-! ### loops -/
def forGo (b : D → EnvD → Option EnvD) (body : FS) : List D → EnvD → Store → Out
  | [], ρ, M => .next ρ M
  | d :: ds, ρ, M => match b d ρ with
    | none => .bad
    | some ρ1 => match body ρ1 M with
      | .next ρ2 M2 => forGo b body ds ρ2 M2
      | .cont ρ2 M2 => forGo b body ds ρ2 M2
      | .brk ρ2 M2 => .next ρ2 M2
      | o => o
def sFor (fi : FL) (b : D → EnvD → Option EnvD) (body : FS) : FS := fun ρ M => (fi ρ M).out fun items M => forGo b body items ρ M
theorem s_for {fi : FL} {b : D → EnvD → Option EnvD} {is : List Nat} {body : FS} (h : PS X st (tFor (tI K E fi) (tG K b is) (tS K E body))) : PS X st (tS K E (sFor fi b body)) := PS.wk h fun D σ H ⟨ρ, w, w0, e1, s, sr, of, p⟩ =>
  ⟨ρ, w, e1, s.ok, sr, (out_after s p).imp fun items w1 s1 p1 J hJ => by
    refine ⟨fun i m σ H => m = items.length - i ∧ i ≤ items.length ∧ ∃ ρ w, w.H = H ∧ Step K w0 w ∧ Le w1 w ∧ SR K w ρ σ ∧ OF w0 ρ σ ∧ PostS K E w0 w D (forGo b body (items.drop i) ρ w.M),
      ⟨items.length, by simp, Nat.zero_le _, ρ, w1, rfl, s.trans s1, Le.refl _, sr.step s1, of, by simpa using p1⟩, ?_⟩
    rintro i m σ2 H2 ⟨rfl, hi, ρ2, w2, rfl, s2, l2, sr2, of2, p2⟩
    by_cases hlt : i < items.length
    · have ed : items[i]? = some items[i] := List.getElem?_eq_getElem hlt
      rw [List.drop_eq_getElem_cons hlt] at p2
      obtain ⟨go, yl⟩ := (hJ w2 l2 s2.ok i).1 _ ed
      refine .inr ⟨go, fun σ' H' => i + 1 ≤ items.length ∧ ∃ ρ w, w.H = H' ∧ Step K w0 w ∧ Le w1 w ∧ SR K w ρ σ' ∧ OF w0 ρ σ' ∧ PostS K E w0 w D (forGo b body (items.drop (i + 1)) ρ w.M),
        fun σ' H' ⟨h1, h2⟩ => ⟨_, by omega, rfl, h1, h2⟩, fun x H' hy => ?_⟩
      obtain ⟨w3, s3, eM3, rfl, rx⟩ := yl x H' hy
      unfold forGo at p2
      cases eb : b items[i] ρ2 with
      | none => rw [eb] at p2; exact p2.elim
      | some ρ1 =>
        rw [eb] at p2
        simp only at p2
        refine ⟨ρ2, w3, items[i], ρ1, rfl, s3.ok, sr2.step s3, rx, eb, fun σ' sr' os _ _ => ?_⟩
        refine ⟨ρ1, w3, w0, rfl, s2.trans s3, sr', of2.sub os, ?_⟩
        rw [eM3]
        cases q : body ρ1 w2.M with
        | next ρ4 M4 =>
          rw [q] at p2
          intro w5 σ5 s5 l5 e5 sr5 of5
          refine ⟨hlt, ρ4, w5, rfl, s5, (l2.trans s3.le).trans l5, sr5, of5, ?_⟩
          rw [e5]
          exact PostS.later p2 (s3.le.trans l5)
        | cont ρ4 M4 =>
          rw [q] at p2
          intro w5 σ5 s5 l5 e5 sr5 of5
          refine ⟨hlt, ρ4, w5, rfl, s5, (l2.trans s3.le).trans l5, sr5, of5, ?_⟩
          rw [e5]
          exact PostS.later p2 (s3.le.trans l5)
        | brk ρ4 M4 =>
          rw [q] at p2
          intro w5 σ5 s5 l5 e5 sr5 of5
          exact p2 w5 σ5 s5 (s3.le.trans l5) e5 sr5 of5
        | ret x M4 => rw [q] at p2; exact p2
        | exc c d M4 => rw [q] at p2; exact p2
        | bad => rw [q] at p2; exact p2
    · have ei : i = items.length := by omega
      subst ei
      rw [List.drop_length] at p2
      exact .inl ⟨(hJ w2 l2 s2.ok _).2 (Nat.le_refl _), p2 w2 σ2 s2 (Le.refl _) rfl sr2 of2⟩⟩
/-- while, n turns at most -/
def whGo (c : FB) (body : FS) : Nat → EnvD → Store → Out
  | 0, _, _ => .bad
  | n + 1, ρ, M => match c ρ M with
    | .ok true M1 => match body ρ M1 with
      | .next ρ2 M2 => whGo c body n ρ2 M2
      | .cont ρ2 M2 => whGo c body n ρ2 M2
      | .brk ρ2 M2 => .next ρ2 M2
      | o => o
    | .ok false M1 => .next ρ M1
    | .exc k d M1 => .exc k d M1
    | .bad => .bad
def sWhile (n : Nat) (c : FB) (body : FS) : FS := fun ρ M => whGo c body n ρ M
theorem s_while {n : Nat} {c : FB} {body : FS} (h : PS X st (tWhile (tT K E c) (tS K E body))) : PS X st (tS K E (sWhile n c body)) := PS.wk h fun D σ H ⟨ρ, w, w0, e1, s, sr, of, p⟩ => by
  refine ⟨fun m σ H => ∃ ρ w, w.H = H ∧ Step K w0 w ∧ SR K w ρ σ ∧ OF w0 ρ σ ∧ PostS K E w0 w D (whGo c body m ρ w.M), ⟨n, ρ, w, e1, s, sr, of, p⟩, ?_⟩
  rintro m σ2 H2 ⟨ρ2, w2, rfl, s2, sr2, of2, p2⟩
  refine ⟨ρ2, w2, rfl, s2.ok, sr2, ?_⟩
  cases m with
  | zero => exact p2.elim
  | succ m =>
    unfold whGo at p2
    cases q : c ρ2 w2.M with
    | bad => rw [q] at p2; exact p2
    | exc k d M1 => rw [q] at p2; exact fun w' s' e => p2 w' (s2.trans s') e
    | ok b M1 =>
      rw [q] at p2
      intro w3 s3 e3
      cases b with
      | false => exact iteF (p2 w3 σ2 (s2.trans s3) s3.le e3 (sr2.step s3) of2)
      | true =>
        refine iteT ⟨fun σ' H' => ∃ ρ w, w.H = H' ∧ Step K w0 w ∧ SR K w ρ σ' ∧ OF w0 ρ σ' ∧ PostS K E w0 w D (whGo c body m ρ w.M), fun σ' H' z => ⟨m, Nat.lt_succ_self _, z⟩, ρ2, w3, w0, rfl, s2.trans s3, sr2.step s3, of2, ?_⟩
        rw [e3]
        simp only at p2
        cases q2 : body ρ2 M1 with
        | next ρ4 M4 =>
          rw [q2] at p2
          intro w5 σ5 s5 l5 e5 sr5 of5
          refine ⟨ρ4, w5, rfl, s5, sr5, of5, ?_⟩
          rw [e5]
          exact PostS.later p2 (s3.le.trans l5)
        | cont ρ4 M4 =>
          rw [q2] at p2
          intro w5 σ5 s5 l5 e5 sr5 of5
          refine ⟨ρ4, w5, rfl, s5, sr5, of5, ?_⟩
          rw [e5]
          exact PostS.later p2 (s3.le.trans l5)
        | brk ρ4 M4 =>
          rw [q2] at p2
          intro w5 σ5 s5 l5 e5 sr5 of5
          exact p2 w5 σ5 s5 (s3.le.trans l5) e5 sr5 of5
        | ret x M4 => rw [q2] at p2; exact p2
        | exc c d M4 => rw [q2] at p2; exact p2
        | bad => rw [q2] at p2; exact p2
/-! ### a list of one's own -/
/-- it is changed at its place -/
theorem SR.change {w0 w : Wd} {ρ : EnvD} {σ : St} (s : Step K w0 w) (sr : SR K w ρ σ) (of : OF w0 ρ σ) {i : Nat} {ds ds' : List D} {p : Addr} {vs vs' : List V} (hi : ρ[i]? = some (.own ds)) (hp : σ[i]? = some (some (.ref p))) (r : RepL K w.A w.G vs' ds') :
    Step K w0 ⟨w.A, w.G, w.M, upd w.H p (.lst vs')⟩ ∧ SR K ⟨w.A, w.G, w.M, upd w.H p (.lst vs')⟩ (ρ.set i (.own ds')) σ ∧ OF w0 (ρ.set i (.own ds')) σ := by
  obtain ⟨q, us, a, b, c, d, f⟩ := sr.own i ds hi
  rw [hp] at a
  cases a
  have hil : i < ρ.length := (List.getElem?_eq_some_iff.mp hi).1
  refine ⟨s.setOwn (of i ds p hi hp) b c d, ⟨by rw [List.length_set]; exact sr.len, fun j x h => ?_, fun j es h => ?_, fun j k es1 es2 q h1 h2 h3 h4 => ?_⟩, fun j es q h1 h2 => ?_⟩
  · have nj : i ≠ j := fun z => by subst z; rw [List.getElem?_set_self hil] at h; cases h
    rw [List.getElem?_set_ne nj] at h
    exact sr.val j x h
  · by_cases hj : i = j
    · subst hj
      rw [List.getElem?_set_self hil] at h
      cases h
      exact ⟨p, vs', hp, upd_same, c, d, r⟩
    · rw [List.getElem?_set_ne hj] at h
      obtain ⟨q, us2, a2, b2, c2, d2, f2⟩ := sr.own j es h
      refine ⟨q, us2, a2, ?_, c2, d2, f2⟩
      show upd w.H p (.lst vs') q = _
      rw [upd_ne (fun z : q = p => hj (by rw [z] at a2; exact sr.dis i j ds es p hi h hp a2))]
      exact b2
  · have f : ∀ {j : Nat} {es : List D}, (ρ.set i (.own ds'))[j]? = some (.own es) → ∃ es', ρ[j]? = some (.own es') := fun {j es} h => by
      by_cases hj : i = j
      · subst hj; exact ⟨ds, hi⟩
      · rw [List.getElem?_set_ne hj] at h; exact ⟨es, h⟩
    obtain ⟨_, z1⟩ := f h1
    obtain ⟨_, z2⟩ := f h2
    exact sr.dis j k _ _ q z1 z2 h3 h4
  · by_cases hj : i = j
    · subst hj; exact of _ ds q hi h2
    · rw [List.getElem?_set_ne hj] at h1; exact of j es q h1 h2
/-- x.append(e) -/
def sApp (i : Nat) (f : FD) : FS := fun ρ M => match ρ[i]? with
  | some (.own ds) => (f ρ M).out fun d M => if ds.length < sizeLine then .next (ρ.set i (.own (ds ++ [d]))) M else .bad
  | _ => .bad
theorem s_app {i : Nat} {f : FD} (h : PS X st (tDrop (tBM K "list" rAppend (tVar i) (tCons (tF K E f) tNil)))) : PS X st (tS K E (sApp i f)) := PS.wk h fun D σ H ⟨ρ, w, w0, e1, s, sr, of, p⟩ => by
  subst e1
  unfold sApp at p
  split at p
  · rename_i ds e2
    obtain ⟨q, vs, h1, h2, h3, h4, h5⟩ := sr.own i ds e2
    refine ⟨_, h1, .inl ⟨rfl, vs, .inl (.inl h2)⟩, ρ, w, rfl, s.ok, sr, (out_after s p).imp fun x w1 s1 p1 v rv => ?_⟩
    split at p1
    · rename_i hz
      obtain ⟨b1, c1, d1⟩ := s1.keepN q _ h2 h3 h4
      have r1 := s1.repL h5
      refine ⟨q, vs, v, rfl, rfl, b1, by rw [h5.length]; exact hz, ?_⟩
      obtain ⟨a, b, c⟩ := SR.change (vs := vs) (s.trans s1) (sr.step s1) of e2 h1 (r1.append (.one rv))
      exact p1 _ σ a (Le.refl _) rfl b c
    · exact p1.elim
  · exact p.elim
/-- x.extend(e), e a list -/
def sExt (i : Nat) (f : FD) : FS := fun ρ M => match ρ[i]? with
  | some (.own ds) => (f ρ M).out fun d M => match lstOf M d with
    | some es => if ds.length + es.length ≤ sizeLine then .next (ρ.set i (.own (ds ++ es))) M else .bad
    | none => .bad
  | _ => .bad
theorem s_ext {i : Nat} {f : FD} (h : PS X st (tDrop (tBM K "list" rExtend (tVar i) (tCons (tF K E f) tNil)))) : PS X st (tS K E (sExt i f)) := PS.wk h fun D σ H ⟨ρ, w, w0, e1, s, sr, of, p⟩ => by
  subst e1
  unfold sExt at p
  split at p
  · rename_i ds e2
    obtain ⟨q, vs, h1, h2, h3, h4, h5⟩ := sr.own i ds e2
    refine ⟨_, h1, .inl ⟨rfl, vs, .inl (.inl h2)⟩, ρ, w, rfl, s.ok, sr, (out_after s p).imp fun x w1 s1 p1 v rv => ?_⟩
    cases el : lstOf w1.M x with
    | none => rw [el] at p1; exact p1.elim
    | some es =>
      rw [el] at p1
      simp only at p1
      split at p1
      · rename_i hz
        obtain ⟨b1, c1, d1⟩ := s1.keepN q _ h2 h3 h4
        have r1 := s1.repL h5
        obtain ⟨q2, us, rfl, hu, ru⟩ := lst_at s1.ok (.inl rv) el
        refine ⟨q, q2, vs, us, rfl, rfl, b1, hu, by rw [h5.length, ru.length]; exact hz, ?_⟩
        obtain ⟨a, b, c⟩ := SR.change (vs := vs) (s.trans s1) (sr.step s1) of e2 h1 (r1.append ru)
        exact p1 _ σ a (Le.refl _) rfl b c
      · exact p1.elim
  · exact p.elim
/-- a list of one's own is frozen: nothing happens in the program -/
def sFz (i : Nat) (g : FS) : FS := fun ρ M => match ρ[i]? with
  | some (.own ds) => g (ρ.set i (.val (.lst ds))) M
  | _ => g ρ M
theorem fz_ok {i : Nat} {g : FS} {D : Ends} {σ : St} {H : Hp} (h : tS K E (sFz i g) D σ H) : tS K E g D σ H := by
  obtain ⟨ρ, w, w0, e1, s, sr, of, p⟩ := h
  unfold sFz at p
  split at p
  · rename_i ds e2
    obtain ⟨q, vs, h1, h2, h3, h4, h5⟩ := sr.own i ds e2
    have hil : i < ρ.length := (List.getElem?_eq_some_iff.mp e2).1
    have fG : Same w.G (upd w.G q (.lst vs)) := upd_fro h3
    have l : Le w ⟨w.A, upd w.G q (.lst vs), w.M, w.H⟩ := ⟨List.prefix_refl _, fG⟩
    refine ⟨ρ.set i (.val (.lst ds)), ⟨w.A, upd w.G q (.lst vs), w.M, w.H⟩, w0, e1, ⟨s.ok.freeze h2 h3 h4, s.pre, s.fro.trans fG, fun b o z1 z2 z3 => ?_⟩, ⟨by rw [List.length_set]; exact sr.len, fun j x h => ?_, fun j es h => ?_, fun j k es1 es2 b z1 z2 z3 z4 => ?_⟩, fun j es b z1 z2 => ?_, PostS.later p l⟩
    · obtain ⟨a, b', c⟩ := s.keep b o z1 z2 z3
      refine ⟨a, b'.imp (fun b' => ?_) id, c⟩
      show upd w.G q (.lst vs) b = none
      rw [upd_ne (ne_of_none z1 (of i ds q e2 h1))]
      exact b'
    · by_cases hj : i = j
      · subst hj
        rw [List.getElem?_set_self hil] at h
        cases h
        exact ⟨_, h1, .lst upd_same (l.repL h5)⟩
      · rw [List.getElem?_set_ne hj] at h
        obtain ⟨v, a, b⟩ := sr.val j x h
        exact ⟨v, a, l.rep b⟩
    · have nj : i ≠ j := fun z => by subst z; rw [List.getElem?_set_self hil] at h; cases h
      rw [List.getElem?_set_ne nj] at h
      obtain ⟨q2, us, a, b, c, d, f⟩ := sr.own j es h
      refine ⟨q2, us, a, b, ?_, d, l.repL f⟩
      show upd w.G q (.lst vs) q2 = none
      rw [upd_ne (fun z : q2 = q => nj (by rw [z] at a; exact sr.dis i j ds es q e2 h h1 a))]
      exact c
    · have nj : i ≠ j := fun z => by subst z; rw [List.getElem?_set_self hil] at z1; cases z1
      have nk : i ≠ k := fun z => by subst z; rw [List.getElem?_set_self hil] at z2; cases z2
      rw [List.getElem?_set_ne nj] at z1
      rw [List.getElem?_set_ne nk] at z2
      exact sr.dis j k _ _ b z1 z2 z3 z4
    · have nj : i ≠ j := fun z => by subst z; rw [List.getElem?_set_self hil] at z1; cases z1
      rw [List.getElem?_set_ne nj] at z1
      exact of j es b z1 z2
  · exact ⟨ρ, w, w0, e1, s, sr, of, p⟩
theorem s_fz {i : Nat} {g : FS} (h : PS X st (tS K E g)) : PS X st (tS K E (sFz i g)) := PS.wk h fun _ _ _ z => fz_ok z
end
end TP
/-! TPf: built-in things by plain data. -/
namespace TP
open PySem L2
section
variable {K : PySem.W.Frag} {E : Wish} {X : Cx} {e : Expr}
/-! ### one answer, nothing changed -/
theorem ans {w : Wd} {Q : VK} {d : D} {v : V} (ok : w.Ok K) (k : ∀ v w', Step K w w' → w'.M = w.M → RepX K w w' v (.val d) → Q v w'.H) (r : ∀ A G, Rep K A G v d) : Q v w.H := k v w (Step.refl ok) rfl (r _ _)
/-! ### arithmetic -/
def mulOk (i j : Int) : Bool := decide (-(2 ^ 64) < i ∧ i < 2 ^ 64) || decide (-(2 ^ 64) < j ∧ j < 2 ^ 64) || decide (i.natAbs.log2 + j.natAbs.log2 < 1000000)
def addD (M : Store) (x y : D) : Option Slot := match x, y with
  | .int i, .int j => some (.val (.int (i + j)))
  | .str a, .str b => if a.length + b.length ≤ sizeLine then some (.val (.str (a ++ b))) else none
  | .tup xs, .tup ys => if xs.length + ys.length ≤ sizeLine then some (.val (.tup (xs ++ ys))) else none
  | x, y => match lstOf M x, lstOf M y with
    | some xs, some ys => if xs.length + ys.length ≤ sizeLine then some (.own (xs ++ ys)) else none
    | _, _ => none
def rAddA (K : PySem.W.Frag) : R2 := fun x y H Q => rI0 (fun i j => .int (i + j)) x y H Q ∨ (∃ i j, x = .str i ∧ y = .str j ∧ i.length + j.length ≤ sizeLine ∧ Q (.str (i ++ j)) H) ∨ rCatA K x y H Q ∨ rCat x y H Q
theorem op_addA : OpR X (binaryOp .Add) (rAddA X.K) := op_add.or (op_add_str.or (op_catA.or op_cat))
theorem p_add : Prim2 K (rAddA K) addD := by
  intro w vx vy x y s Q ok rx ry h k
  unfold addD at h
  split at h
  · cases h
    cases int_at rx
    cases int_at ry
    exact .inl ⟨_, _, rfl, rfl, ans ok k fun _ _ => .int _⟩
  · split at h
    · cases h
      cases str_at rx
      cases str_at ry
      exact .inr (.inl ⟨_, _, rfl, rfl, by assumption, ans ok k fun _ _ => .str _⟩)
    · cases h
  · split at h
    · cases h
      obtain ⟨p, vs, rfl, hs, rl⟩ := tup_at ok rx
      obtain ⟨p2, vs2, rfl, hs2, rl2⟩ := tup_at ok ry
      refine .inr (.inr (.inl ⟨p, p2, vs, vs2, rfl, rfl, hs, hs2, by rw [rl.length, rl2.length]; assumption, fun e => ?_, fun _ e => ?_, fun _ _ q hq => ?_⟩))
      · subst e
        cases rl
        rcases ry with ry | ⟨_, _, _, _, e, _⟩
        · exact k _ w (Step.refl ok) rfl ry
        · cases e
      · subst e
        cases rl2
        rw [List.append_nil] at k
        rcases rx with rx | ⟨_, _, _, _, e, _⟩
        · exact k _ w (Step.refl ok) rfl rx
        · cases e
      · have st := ok.fresh hq (.tup (vs ++ vs2))
        exact k _ _ st rfl (.tup upd_same (st.repL (rl.append rl2)))
    · cases h
  · split at h
    · rename_i e1 e2
      split at h
      · cases h
        obtain ⟨p, vs, rfl, hs, rl⟩ := lst_at ok rx e1
        obtain ⟨p2, vs2, rfl, hs2, rl2⟩ := lst_at ok ry e2
        refine .inr (.inr (.inr ⟨p, p2, vs, vs2, rfl, rfl, hs, hs2, by rw [rl.length, rl2.length]; assumption, fun q hq => ?_⟩))
        exact k _ _ (ok.fresh0 hq _) rfl (own_new (Step.refl ok) hq (rl.append rl2))
      · cases h
    · cases h
def subD (_ : Store) (x y : D) : Option Slot := match x, y with
  | .int i, .int j => some (.val (.int (i - j)))
  | _, _ => none
theorem p_sub : Prim2 K (rI0 fun i j => .int (i - j)) subD := by
  intro w vx vy x y s Q ok rx ry h k
  unfold subD at h
  split at h
  · cases h
    cases int_at rx
    cases int_at ry
    exact ⟨_, _, rfl, rfl, ans ok k fun _ _ => .int _⟩
  · cases h
def mulD (M : Store) (x y : D) : Option Slot := match x, y with
  | .int i, .int j => if mulOk i j then some (.val (.int (i * j))) else none
  | x, .int k => match lstOf M x with
    | some xs => if -(2 ^ 63) ≤ k ∧ k < 2 ^ 63 ∧ xs.length * k.toNat ≤ sizeLine then some (.own (List.replicate k.toNat xs).flatten) else none
    | none => none
  | _, _ => none
def rMulA : R2 := fun x y H Q => rI CMul (fun i j => .int (i * j)) x y H Q ∨ rI CMulW (fun i j => .int (i * j)) x y H Q ∨ rRep x y H Q
theorem op_mulA : OpR X (binaryOp .Mult) rMulA := op_mul.or (op_mulW.or op_rep)
theorem RepL.rep {A : List Addr} {G : Hp} {vs : List V} {ds : List D} (h : RepL K A G vs ds) : ∀ n : Nat, RepL K A G (List.replicate n vs).flatten (List.replicate n ds).flatten
  | 0 => .nil
  | n + 1 => by
    rw [List.replicate_succ, List.replicate_succ, List.flatten_cons, List.flatten_cons]
    exact h.append (RepL.rep h n)
theorem p_mul : Prim2 K rMulA mulD := by
  intro w vx vy x y s Q ok rx ry h k
  unfold mulD at h
  split at h
  · split at h
    · rename_i i j hm
      cases h
      cases int_at rx
      cases int_at ry
      unfold mulOk at hm
      rw [Bool.or_eq_true, Bool.or_eq_true] at hm
      rcases hm with (hm | hm) | hm
      · exact .inl ⟨_, _, rfl, rfl, .inl (of_decide_eq_true hm), ans ok k fun _ _ => .int _⟩
      · exact .inl ⟨_, _, rfl, rfl, .inr (of_decide_eq_true hm), ans ok k fun _ _ => .int _⟩
      · exact .inr (.inl ⟨_, _, rfl, rfl, (show i.natAbs.log2 + j.natAbs.log2 < 1000000 from of_decide_eq_true hm), ans ok k fun _ _ => .int _⟩)
    · cases h
  · split at h
    · rename_i e1
      split at h
      · rename_i hz
        cases h
        obtain ⟨p, vs, rfl, hs, rl⟩ := lst_at ok rx e1
        cases int_at ry
        refine .inr (.inr ⟨p, _, vs, rfl, rfl, hs, hz.1, hz.2.1, by rw [rl.length]; exact hz.2.2, fun q hq => ?_⟩)
        exact k _ _ (ok.fresh0 hq _) rfl (own_new (Step.refl ok) hq (rl.rep _))
      · cases h
    · cases h
  · cases h
/-- by a positive divisor, or a small one -/
def fdivD (_ : Store) (x y : D) : Option Slot := match x, y with
  | .int i, .int j => if 0 < j ∧ j < 1073741824 then some (.val (.int (i / j))) else if 0 < j ∧ j.natAbs.log2 < 9000 then some (.val (.int (i / j))) else if j ≠ 0 ∧ j.natAbs < 1073741824 then some (.val (.int (i.fdiv j))) else if j ≠ 0 ∧ j.natAbs.log2 < 9000 then some (.val (.int (i.fdiv j))) else none
  | _, _ => none
def CDivG (_ j : Int) : Prop := j ≠ 0 ∧ j.natAbs.log2 < 9000
open PySem.Spec PyProof.Rows in
theorem op_fdivG : OpR X (binaryOp .FloorDiv) (rI CDivG fun i j => .int (i.fdiv j)) := opI fun _ _ _ _ _ _ _ hc q => floordiv_int hc.1 q (.inl (PyProof.noPylong_of_log2 hc.2))
def rFdivA : R2 := fun x y H Q => rI CDivW (fun i j => .int (i / j)) x y H Q ∨ rI CDivN (fun i j => .int (i.fdiv j)) x y H Q ∨ rI CDivG (fun i j => .int (i.fdiv j)) x y H Q
theorem op_fdivA : OpR X (binaryOp .FloorDiv) rFdivA := op_fdivW.or (op_fdivN.or op_fdivG)
theorem p_fdiv : Prim2 K rFdivA fdivD := by
  intro w vx vy x y s Q ok rx ry h k
  unfold fdivD at h
  split at h
  · cases int_at rx
    cases int_at ry
    split at h
    · rename_i hc
      cases h
      exact .inl ⟨_, _, rfl, rfl, ⟨hc.1, Nat.lt_of_lt_of_le (PySem.Flt.log2_lt_of (k := 30) (by decide) (by omega)) (by decide)⟩, ans ok k fun _ _ => .int _⟩
    · split at h
      · rename_i hc
        cases h
        exact .inl ⟨_, _, rfl, rfl, hc, ans ok k fun _ _ => .int _⟩
      · split at h
        · rename_i hc
          cases h
          exact .inr (.inl ⟨_, _, rfl, rfl, hc, ans ok k fun _ _ => .int _⟩)
        · split at h
          · rename_i hc
            cases h
            exact .inr (.inr ⟨_, _, rfl, rfl, hc, ans ok k fun _ _ => .int _⟩)
          · cases h
  · cases h
def modD (_ : Store) (x y : D) : Option Slot := match x, y with
  | .int i, .int j => if 0 < j then some (.val (.int (i % j))) else if j ≠ 0 then some (.val (.int (i.fmod j))) else none
  | _, _ => none
def rModA : R2 := fun x y H Q => rI (fun _ j => 0 < j) (fun i j => .int (i % j)) x y H Q ∨ rI (fun _ j => j ≠ 0) (fun i j => .int (i.fmod j)) x y H Q
theorem op_modA : OpR X (binaryOp .Mod) rModA := op_mod.or op_modN
theorem p_mod : Prim2 K rModA modD := by
  intro w vx vy x y s Q ok rx ry h k
  unfold modD at h
  split at h
  · cases int_at rx
    cases int_at ry
    split at h
    · rename_i hc
      cases h
      exact .inl ⟨_, _, rfl, rfl, hc, ans ok k fun _ _ => .int _⟩
    · split at h
      · rename_i hc
        cases h
        exact .inr ⟨_, _, rfl, rfl, hc, ans ok k fun _ _ => .int _⟩
      · cases h
  · cases h
def powD (_ : Store) (x y : D) : Option Slot := match x, y with
  | .int i, .int j => if 0 ≤ j ∧ j ≤ 1000000 ∧ i.natAbs < 2 ^ 64 then some (.val (.int (i ^ j.toNat))) else none
  | _, _ => none
theorem p_pow : Prim2 K (rI CPow fun i j => .int (i ^ j.toNat)) powD := by
  intro w vx vy x y s Q ok rx ry h k
  unfold powD at h
  split at h
  · cases int_at rx
    cases int_at ry
    split at h
    · rename_i hc
      cases h
      exact ⟨_, _, rfl, rfl, hc, ans ok k fun _ _ => .int _⟩
    · cases h
  · cases h
def negD (_ : Store) (x : D) : Option Slot := match x with
  | .int i => some (.val (.int (-i)))
  | _ => none
theorem p_neg : Prim1 K (rU fun i => .int (-i)) negD := by
  intro w vx x s Q ok rx h k
  unfold negD at h
  split at h
  · cases int_at rx
    cases h
    exact ⟨_, rfl, ans ok k fun _ _ => .int _⟩
  · cases h
/-! ### order of ints -/
def cmpD (p : Int → Int → Bool) (_ : Store) (x y : D) : Option Slot := match x, y with
  | .int i, .int j => some (.val (.bl (p i j)))
  | _, _ => none
theorem p_cmp (p : Int → Int → Bool) : Prim2 K (rI0 fun i j => .bl (p i j)) (cmpD p) := by
  intro w vx vy x y s Q ok rx ry h k
  unfold cmpD at h
  split at h
  · cases int_at rx
    cases int_at ry
    cases h
    exact ⟨_, _, rfl, rfl, ans ok k fun _ _ => .bl _⟩
  · cases h
/-! ### equality -/
mutual
def eqvD : D → D → Bool
  | .non, .non => true
  | .bl a, .bl b => a == b
  | .bl a, .int j => (if a then 1 else 0) == j
  | .int i, .bl b => i == (if b then 1 else 0)
  | .int i, .int j => i == j
  | .str x, .str y => x == y
  | .lst xs, .lst ys => eqvL xs ys
  | .tup xs, .tup ys => eqvL xs ys
  | _, _ => false
def eqvL : List D → List D → Bool
  | [], [] => true
  | x :: xs, y :: ys => eqvD x y && eqvL xs ys
  | _, _ => false
end
mutual
/-- no things of the store, no strange signs -/
def goodD : D → Bool
  | .non => true
  | .bl _ => true
  | .int _ => true
  | .str x => x.cps.all (· < 0x110000)
  | .lst xs => goodL xs
  | .tup xs => goodL xs
  | .fro _ => false
  | .kt _ => false
  | .ref _ => false
def goodL : List D → Bool
  | [] => true
  | x :: xs => goodD x && goodL xs
end
mutual
def dpD : D → Nat
  | .lst xs => dpL xs + 1
  | .tup xs => dpL xs + 1
  | _ => 0
def dpL : List D → Nat
  | [] => 0
  | x :: xs => max (dpD x) (dpL xs)
end
mutual
def toPy : D → PyData
  | .non => .none
  | .bl b => .bool b
  | .int i => .int i
  | .str x => .str x
  | .lst xs => .list (toPyL xs)
  | .tup xs => .tuple (toPyL xs)
  | .fro _ => .none
  | .kt _ => .none
  | .ref _ => .none
def toPyL : List D → List PyData
  | [] => []
  | x :: xs => toPy x :: toPyL xs
end
mutual
theorem eqv_py : ∀ x y : D, goodD x = true → goodD y = true → PyData.eqv (toPy x) (toPy y) = eqvD x y
  | .non, y, _, hy => by cases y <;> first | (simp [goodD] at hy; done) | simp [toPy, PyData.eqv, eqvD]
  | .bl _, y, _, hy => by cases y <;> first | (simp [goodD] at hy; done) | simp [toPy, PyData.eqv, eqvD]
  | .int _, y, _, hy => by cases y <;> first | (simp [goodD] at hy; done) | simp [toPy, PyData.eqv, eqvD]
  | .str _, y, _, hy => by cases y <;> first | (simp [goodD] at hy; done) | simp [toPy, PyData.eqv, eqvD]
  | .lst xs, y, hx, hy => by
    cases y with
    | lst ys =>
      simp only [toPy, PyData.eqv, eqvD]
      exact eqvL_py xs ys (by simpa [goodD] using hx) (by simpa [goodD] using hy)
    | _ => first | (simp [goodD] at hy; done) | simp [toPy, PyData.eqv, eqvD]
  | .tup xs, y, hx, hy => by
    cases y with
    | tup ys =>
      simp only [toPy, PyData.eqv, eqvD]
      exact eqvL_py xs ys (by simpa [goodD] using hx) (by simpa [goodD] using hy)
    | _ => first | (simp [goodD] at hy; done) | simp [toPy, PyData.eqv, eqvD]
  | .fro _, _, hx, _ => by simp [goodD] at hx
  | .kt _, _, hx, _ => by simp [goodD] at hx
  | .ref _, _, hx, _ => by simp [goodD] at hx
theorem eqvL_py : ∀ xs ys : List D, goodL xs = true → goodL ys = true → PyData.eqvAll (toPyL xs) (toPyL ys) = eqvL xs ys
  | [], [], _, _ => by simp [toPyL, PyData.eqvAll, eqvL]
  | [], _ :: _, _, _ => by simp [toPyL, PyData.eqvAll, eqvL]
  | _ :: _, [], _, _ => by simp [toPyL, PyData.eqvAll, eqvL]
  | x :: xs, y :: ys, hx, hy => by
    simp only [goodL, Bool.and_eq_true] at hx hy
    simp only [toPyL, PyData.eqvAll, eqvL, eqv_py x y hx.1 hy.1, eqvL_py xs ys hx.2 hy.2]
end
mutual
theorem lay_py : ∀ x : D, goodD x = true → (toPy x).canLay0 = true
  | .non, _ => by simp [toPy, PyData.canLay0]
  | .bl _, _ => by simp [toPy, PyData.canLay0]
  | .int _, _ => by simp [toPy, PyData.canLay0]
  | .str x, h => by simpa [toPy, PyData.canLay0, PyData.strOk, goodD] using h
  | .lst xs, h => by simp only [toPy, PyData.canLay0]; exact layL_py xs (by simpa [goodD] using h)
  | .tup xs, h => by simp only [toPy, PyData.canLay0]; exact layL_py xs (by simpa [goodD] using h)
  | .fro _, h => by simp [goodD] at h
  | .kt _, h => by simp [goodD] at h
  | .ref _, h => by simp [goodD] at h
theorem layL_py : ∀ xs : List D, goodL xs = true → PyData.canLayAll0 (toPyL xs) = true
  | [], _ => by simp [toPyL, PyData.canLayAll0]
  | x :: xs, h => by
    simp only [goodL, Bool.and_eq_true] at h
    simp only [toPyL, PyData.canLayAll0, lay_py x h.1, layL_py xs h.2, Bool.and_self]
end
mutual
theorem dp_py : ∀ x : D, goodD x = true → (toPy x).depth = dpD x
  | .non, _ => by simp [toPy, PyData.depth, dpD]
  | .bl _, _ => by simp [toPy, PyData.depth, dpD]
  | .int _, _ => by simp [toPy, PyData.depth, dpD]
  | .str x, h => by simp [toPy, PyData.depth, dpD]
  | .lst xs, h => by simp only [toPy, PyData.depth, dpD]; rw [dpL_py xs (by simpa [goodD] using h)]
  | .tup xs, h => by simp only [toPy, PyData.depth, dpD]; rw [dpL_py xs (by simpa [goodD] using h)]
  | .fro _, h => by simp [goodD] at h
  | .kt _, h => by simp [goodD] at h
  | .ref _, h => by simp [goodD] at h
theorem dpL_py : ∀ xs : List D, goodL xs = true → PyData.depthAll (toPyL xs) = dpL xs
  | [], _ => by simp [toPyL, PyData.depthAll, dpL]
  | x :: xs, h => by
    simp only [goodL, Bool.and_eq_true] at h
    simp only [toPyL, PyData.depthAll, dpL, dp_py x h.1, dpL_py xs h.2]
end
mutual
theorem Rep.dp {A : List Addr} {G H : Hp} (sub : Same G H) : ∀ (d : D) (v : V), Rep K A G v d → goodD d = true → Dp K H v (toPy d)
  | .non, _, h, _ => by cases h; simp only [toPy]; exact .non
  | .bl b, _, h, _ => by cases h; simp only [toPy]; exact .bl b
  | .int i, _, h, _ => by cases h; simp only [toPy]; exact .int i
  | .str x, _, h, _ => by cases h; simp only [toPy]; exact .str x
  | .tup ds, _, h, g => by
    cases h with
    | tup hs hr =>
      simp only [toPy]
      exact .tup (.inl (.inl (sub _ _ hs))) (RepL.dp sub ds _ hr (by simpa [goodD] using g))
  | .lst ds, _, h, g => by
    cases h with
    | lst hs hr =>
      simp only [toPy]
      exact .lst (.inl (.inl (sub _ _ hs))) (RepL.dp sub ds _ hr (by simpa [goodD] using g))
  | .fro ds, _, h, g => by simp [goodD] at g
  | .kt ds, _, h, g => by simp [goodD] at g
  | .ref k, _, h, g => by simp [goodD] at g
theorem RepL.dp {A : List Addr} {G H : Hp} (sub : Same G H) : ∀ (ds : List D) (vs : List V), RepL K A G vs ds → goodL ds = true → DpAll K H vs (toPyL ds)
  | [], _, h, _ => by cases h; simp only [toPyL]; exact .nil
  | d :: ds, _, h, g => by
    simp only [goodL, Bool.and_eq_true] at g
    cases h with
    | cons h1 h2 =>
      simp only [toPyL]
      exact .cons (Rep.dp sub d _ h1 g.1) (RepL.dp sub ds _ h2 g.2)
end
mutual
/-- with other things for those of the store -/
def mapR (f : Nat → D) : D → D
  | .tup xs => .tup (mapRL f xs)
  | .lst xs => .lst (mapRL f xs)
  | .ref k => f k
  | .non => .non
  | .bl b => .bl b
  | .int i => .int i
  | .str x => .str x
  | .fro xs => .fro xs
  | .kt xs => .kt xs
def mapRL (f : Nat → D) : List D → List D
  | [] => []
  | x :: xs => mapR f x :: mapRL f xs
end
/-- lists of the store, as they stand, so many within one another -/
def dd : Nat → Store → D → D
  | 0, _, x => x
  | n + 1, M, x => mapR (fun k => match M[k]? with
    | some (.lst ds) => .lst (ds.map (dd n M))
    | _ => .ref k) x
def derD (M : Store) (x : D) : D := dd 3 M x
mutual
theorem mapR_good {f : Nat → D} : ∀ x : D, goodD x = true → mapR f x = x
  | .non, _ => by simp only [mapR]
  | .bl _, _ => by simp only [mapR]
  | .int _, _ => by simp only [mapR]
  | .str _, _ => by simp only [mapR]
  | .lst xs, h => by simp only [mapR]; rw [mapRL_good xs (by simpa [goodD] using h)]
  | .tup xs, h => by simp only [mapR]; rw [mapRL_good xs (by simpa [goodD] using h)]
  | .fro _, h => by simp [goodD] at h
  | .kt _, h => by simp [goodD] at h
  | .ref _, h => by simp [goodD] at h
theorem mapRL_good {f : Nat → D} : ∀ xs : List D, goodL xs = true → mapRL f xs = xs
  | [], _ => by simp only [mapRL]
  | x :: xs, h => by
    simp only [goodL, Bool.and_eq_true] at h
    simp only [mapRL, mapR_good x h.1, mapRL_good xs h.2]
end
theorem der_good (M : Store) {x : D} (h : goodD x = true) : derD M x = x := by
  unfold derD dd
  exact mapR_good x h
mutual
theorem Rep.mapR {A : List Addr} {G H : Hp} (sub : Same G H) {f : Nat → D} (hf : ∀ k v, Rep K A G v (.ref k) → goodD (f k) = true → Dp K H v (toPy (f k))) : ∀ (d : D) (v : V), Rep K A G v d → goodD (TP.mapR f d) = true → Dp K H v (toPy (TP.mapR f d))
  | .non, _, h, _ => by cases h; simp only [TP.mapR, toPy]; exact .non
  | .bl b, _, h, _ => by cases h; simp only [TP.mapR, toPy]; exact .bl b
  | .int i, _, h, _ => by cases h; simp only [TP.mapR, toPy]; exact .int i
  | .str x, _, h, _ => by cases h; simp only [TP.mapR, toPy]; exact .str x
  | .tup ds, _, h, g => by
    cases h with
    | tup hs hr =>
      simp only [TP.mapR, toPy]
      simp only [TP.mapR, goodD] at g
      exact .tup (.inl (.inl (sub _ _ hs))) (RepL.mapR sub hf ds _ hr g)
  | .lst ds, _, h, g => by
    cases h with
    | lst hs hr =>
      simp only [TP.mapR, toPy]
      simp only [TP.mapR, goodD] at g
      exact .lst (.inl (.inl (sub _ _ hs))) (RepL.mapR sub hf ds _ hr g)
  | .fro ds, _, h, g => by simp [TP.mapR, goodD] at g
  | .kt ds, _, h, g => by simp [TP.mapR, goodD] at g
  | .ref k, v, h, g => by
    simp only [TP.mapR] at g ⊢
    exact hf k v h g
theorem RepL.mapR {A : List Addr} {G H : Hp} (sub : Same G H) {f : Nat → D} (hf : ∀ k v, Rep K A G v (.ref k) → goodD (f k) = true → Dp K H v (toPy (f k))) : ∀ (ds : List D) (vs : List V), RepL K A G vs ds → goodL (mapRL f ds) = true → DpAll K H vs (toPyL (mapRL f ds))
  | [], _, h, _ => by cases h; simp only [mapRL, toPyL]; exact .nil
  | d :: ds, _, h, g => by
    simp only [mapRL, goodL, Bool.and_eq_true] at g
    cases h with
    | cons h1 h2 =>
      simp only [mapRL, toPyL]
      exact .cons (Rep.mapR sub hf d _ h1 g.1) (RepL.mapR sub hf ds _ h2 g.2)
end
theorem RepL.each {w : Wd} {g : D → D} (hg : ∀ d v, Rep K w.A w.G v d → goodD (g d) = true → Dp K w.H v (toPy (g d))) : ∀ (ds : List D) (vs : List V), RepL K w.A w.G vs ds → goodL (ds.map g) = true → DpAll K w.H vs (toPyL (ds.map g))
  | [], _, h, _ => by cases h; exact .nil
  | d :: ds, _, h, z => by
    rw [List.map_cons] at z ⊢
    simp only [goodL, Bool.and_eq_true] at z
    cases h with
    | cons h1 h2 =>
      simp only [toPyL]
      exact .cons (hg d _ h1 z.1) (RepL.each hg ds _ h2 z.2)
theorem Rep.dd {w : Wd} (ok : w.Ok K) : ∀ (n : Nat) (d : D) (v : V), Rep K w.A w.G v d → goodD (TP.dd n w.M d) = true → Dp K w.H v (toPy (TP.dd n w.M d))
  | 0, d, v, r, g => by
    unfold TP.dd at g ⊢
    exact Rep.dp ok.sub d v r g
  | n + 1, d, v, r, g => by
    unfold TP.dd at g ⊢
    refine Rep.mapR ok.sub (fun k v r g => ?_) d v r g
    cases r with
    | @ref a k ek =>
      split at g
      · rename_i ds e2
        obtain ⟨a', e3, vs, h1, h2⟩ := ok.mos k _ e2
        rw [ek] at e3; cases e3
        simp only [toPy]
        simp only [goodD] at g
        exact .lst (.inl (.inl h1)) (RepL.each (fun d v r g => Rep.dd ok n d v r g) ds _ h2 g)
      · simp [goodD] at g
theorem RepB.dp {w : Wd} (ok : w.Ok K) {v : V} {x : D} (r : RepB K w v x) (g : goodD (derD w.M x) = true) : Dp K w.H v (toPy (derD w.M x)) := by
  rcases r with r | ⟨p, vs, ds, rfl, rfl, h1, _, _, h4⟩
  · exact Rep.dd ok 3 x v r g
  · unfold derD TP.dd at g ⊢
    simp only [TP.mapR, toPy]
    simp only [TP.mapR, goodD] at g
    refine .lst (.inl (.inl h1)) (RepL.mapR ok.sub (fun k v r g => ?_) ds _ h4 g)
    have r3 := Rep.dd ok 3 (.ref k) v r
    unfold TP.dd at r3
    simp only [TP.mapR] at r3
    exact r3 g
/-- two texts -/
def strP : D → D → Option Bool
  | .str i, .str j => some (decide (i = j))
  | _, _ => none
def rEqW (K : PySem.W.Frag) : R2 := fun x y H Q => (∃ i j, x = .str i ∧ y = .str j ∧ Q (.bl (decide (i = j))) H) ∨ ∃ d e, Dp K H x d ∧ Dp K H y e ∧ d.canLay0 = true ∧ e.canLay0 = true ∧ min d.depth e.depth ≤ 190 ∧ Q (.bl (PyData.eqv d e)) H
def rNeW (K : PySem.W.Frag) : R2 := fun x y H Q => (∃ i j, x = .str i ∧ y = .str j ∧ Q (.bl (!decide (i = j))) H) ∨ ∃ d e, Dp K H x d ∧ Dp K H y e ∧ d.canLay0 = true ∧ e.canLay0 = true ∧ min d.depth e.depth ≤ 190 ∧ Q (.bl (!PyData.eqv d e)) H
theorem op_eqW (hu : X.A.units + 200 < cLine) : OpR X (compareOp .Eq) (rEqW X.K) := by
  intro pins s σ H x y v u Q I rx ry h
  rcases h with ⟨i, j, rfl, rfl, q⟩ | h
  · refine op_eq pins s σ H (.str i) (.str j) v u Q I rx ry ⟨rfl, ?_⟩
    rw [show decide (V.str i = V.str j) = decide (i = j) by rw [Bool.eq_iff_iff]; simp]
    exact q
  obtain ⟨d, e, hd, he, sd, se, hm, q⟩ := h
  obtain ⟨as, r1⟩ := Dp.reads I d x v hd rx
  obtain ⟨bs, r2⟩ := Dp.reads I e y u he ry
  exact SeqAt.compareEq_reads r1 r2 sd se (by omega) ⟨.bl _, H, I, rfl, q⟩
theorem op_neW (hu : X.A.units + 200 < cLine) : OpR X (compareOp .NotEq) (rNeW X.K) := by
  intro pins s σ H x y v u Q I rx ry h
  rcases h with ⟨i, j, rfl, rfl, q⟩ | h
  · refine op_ne pins s σ H (.str i) (.str j) v u Q I rx ry ⟨rfl, ?_⟩
    rw [show decide (V.str i = V.str j) = decide (i = j) by rw [Bool.eq_iff_iff]; simp]
    exact q
  obtain ⟨d, e, hd, he, sd, se, hm, q⟩ := h
  obtain ⟨as, r1⟩ := Dp.reads I d x v hd rx
  obtain ⟨bs, r2⟩ := Dp.reads I e y u he ry
  exact SeqAt.compareNe_reads r1 r2 sd se (by omega) ⟨.bl _, H, I, rfl, q⟩
def eqD (M : Store) (x y : D) : Option Slot := match strP x y with
  | some b => some (.val (.bl b))
  | none => if goodD (derD M x) && goodD (derD M y) && decide (min (dpD (derD M x)) (dpD (derD M y)) ≤ 190) then some (.val (.bl (eqvD (derD M x) (derD M y)))) else none
def neD (M : Store) (x y : D) : Option Slot := match strP x y with
  | some b => some (.val (.bl !b))
  | none => if goodD (derD M x) && goodD (derD M y) && decide (min (dpD (derD M x)) (dpD (derD M y)) ≤ 190) then some (.val (.bl (!eqvD (derD M x) (derD M y)))) else none
theorem strP_at {x y : D} {b : Bool} (h : strP x y = some b) : ∃ i j, x = .str i ∧ y = .str j ∧ b = decide (i = j) := by
  unfold strP at h
  split at h
  · cases h; exact ⟨_, _, rfl, rfl, rfl⟩
  · cases h
theorem p_eq : Prim2 K (rEqW K) eqD := by
  intro w vx vy x y s Q ok rx ry h k
  unfold eqD at h
  split at h
  · rename_i b hb
    obtain ⟨i, j, rfl, rfl, rfl⟩ := strP_at hb
    cases h
    cases str_at rx
    cases str_at ry
    exact .inl ⟨i, j, rfl, rfl, ans ok k fun _ _ => .bl _⟩
  split at h
  · rename_i hc
    simp only [Bool.and_eq_true, decide_eq_true_eq] at hc
    obtain ⟨⟨h1, h2⟩, h3⟩ := hc
    cases h
    refine .inr ⟨_, _, rx.dp ok h1, ry.dp ok h2, lay_py _ h1, lay_py _ h2, by rw [dp_py _ h1, dp_py _ h2]; exact h3, ?_⟩
    rw [eqv_py _ _ h1 h2]
    exact ans ok k fun _ _ => .bl _
  · cases h
theorem p_ne : Prim2 K (rNeW K) neD := by
  intro w vx vy x y s Q ok rx ry h k
  unfold neD at h
  split at h
  · rename_i b hb
    obtain ⟨i, j, rfl, rfl, rfl⟩ := strP_at hb
    cases h
    cases str_at rx
    cases str_at ry
    exact .inl ⟨i, j, rfl, rfl, ans ok k fun _ _ => .bl _⟩
  split at h
  · rename_i hc
    simp only [Bool.and_eq_true, decide_eq_true_eq] at hc
    obtain ⟨⟨h1, h2⟩, h3⟩ := hc
    cases h
    refine .inr ⟨_, _, rx.dp ok h1, ry.dp ok h2, lay_py _ h1, lay_py _ h2, by rw [dp_py _ h1, dp_py _ h2]; exact h3, ?_⟩
    rw [eqv_py _ _ h1 h2]
    exact ans ok k fun _ _ => .bl _
  · cases h
/-! ### is -/
def isD (_ : Store) (x y : D) : Option Slot := match x, y with
  | .non, .non => some (.val (.bl true))
  | _, .non => some (.val (.bl false))
  | .bl a, .bl b => some (.val (.bl (decide (a = b))))
  | _, _ => none
def isntD (_ : Store) (x y : D) : Option Slot := match x, y with
  | .non, .non => some (.val (.bl false))
  | _, .non => some (.val (.bl true))
  | .bl a, .bl b => some (.val (.bl (!decide (a = b))))
  | _, _ => none
def rIsA : R2 := fun x y H Q => (y = .non ∧ Q (.bl (decide (x = .non))) H) ∨ rIsB x y H Q
def rIsntA : R2 := fun x y H Q => (y = .non ∧ Q (.bl (!decide (x = .non))) H) ∨ rNotB x y H Q
theorem op_isA : OpR X (compareOp .Is) rIsA := op_isN.or op_isBl
theorem op_isntA : OpR X (compareOp .IsNot) rIsntA := op_notN.or op_notBl
theorem non_iff {w : Wd} {v : V} {x : D} (r : RepB K w v x) (h : x ≠ .non) : v ≠ .non := fun e => by
  subst e
  rcases r with r | ⟨p, _, _, e, _⟩
  · cases r; exact h rfl
  · cases e
theorem p_is : Prim2 K rIsA isD := by
  intro w vx vy x y s Q ok rx ry h k
  unfold isD at h
  split at h
  · cases h
    cases non_at rx
    cases non_at ry
    exact .inl ⟨rfl, ans ok k fun _ _ => .bl _⟩
  · rename_i hx
    cases h
    cases non_at ry
    refine .inl ⟨rfl, ?_⟩
    rw [decide_eq_false (non_iff rx (fun e => hx e))]
    exact ans ok k fun _ _ => .bl _
  · cases h
    cases bl_at rx
    cases bl_at ry
    exact .inr ⟨_, _, rfl, rfl, ans ok k fun _ _ => .bl _⟩
  · cases h
theorem p_isnt : Prim2 K rIsntA isntD := by
  intro w vx vy x y s Q ok rx ry h k
  unfold isntD at h
  split at h
  · cases h
    cases non_at rx
    cases non_at ry
    exact .inl ⟨rfl, ans ok k fun _ _ => .bl _⟩
  · rename_i hx
    cases h
    cases non_at ry
    refine .inl ⟨rfl, ?_⟩
    rw [decide_eq_false (non_iff rx (fun e => hx e))]
    exact ans ok k fun _ _ => .bl _
  · cases h
    cases bl_at rx
    cases bl_at ry
    exact .inr ⟨_, _, rfl, rfl, ans ok k fun _ _ => .bl _⟩
  · cases h
end
end TP
/-! TPg: more built-in things; the store; a def's entry. -/
namespace TP
open PySem PySem.Spec PyProof.Rows L2
section
variable {K : PySem.W.Frag} {E : Wish} {X : Cx} {e : Expr}
/-! ### subscripts -/
def idxD (M : Store) (x y : D) : Option Slot := match x, y with
  | .tup ds, .int i => (atI ds i).map Slot.val
  | .kt ds, .int i => (atI ds i).map Slot.val
  | .str z, .int i => if z.length ≤ sizeLine then (atI z.cps.toList i).map fun c => .val (.str ⟨#[c]⟩) else none
  | x, .int i => match seqOf M x with
    | some ds => (atI ds i).map Slot.val
    | none => none
  | _, _ => none
theorem RepL.atI {A : List Addr} {G : Hp} {vs : List V} {ds : List D} {i : Int} {d : D} (h : RepL K A G vs ds) (e : atI ds i = some d) : ∃ v, L2.atI vs i = some v ∧ Rep K A G v d := by
  unfold L2.atI at e ⊢
  rw [h.length]
  cases q : ixN ds.length i with
  | none => rw [q] at e; cases e
  | some j => rw [q] at e; exact h.get e
theorem p_idx : Prim2 K (rIx K) idxD := by
  intro w vx vy x y s Q ok rx ry h k
  unfold idxD at h
  split at h
  · rename_i ds i
    cases q : L2.atI ds i with
    | none => rw [q] at h; cases h
    | some d =>
      rw [q] at h
      cases h
      obtain ⟨p, vs, rfl, hs, rl⟩ := tup_at ok rx
      cases int_at ry
      obtain ⟨v, hv, rv⟩ := rl.atI q
      exact .inr (.inl ⟨p, vs, i, v, rfl, rfl, hs, hv, k v w (Step.refl ok) rfl rv⟩)
  · rename_i ds i
    cases q : L2.atI ds i with
    | none => rw [q] at h; cases h
    | some d =>
      rw [q] at h
      cases h
      obtain ⟨p, vs, rfl, hs, rl⟩ := kt_at ok rx
      cases int_at ry
      obtain ⟨v, hv, rv⟩ := rl.atI q
      exact .inr (.inl ⟨p, vs, i, v, rfl, rfl, hs, hv, k v w (Step.refl ok) rfl rv⟩)
  · split at h
    · rename_i z i hz
      cases q : L2.atI z.cps.toList i with
      | none => rw [q] at h; cases h
      | some c =>
        rw [q] at h
        cases h
        cases str_at rx
        cases int_at ry
        exact .inr (.inr ⟨z, i, c, rfl, rfl, hz, q, ans ok k fun _ _ => .str _⟩)
    · cases h
  · rename_i i _ _ _
    split at h
    · rename_i ds e1
      cases q : L2.atI ds i with
      | none => rw [q] at h; cases h
      | some d =>
        rw [q] at h
        cases h
        obtain ⟨p, vs, rfl, hs, rl⟩ := seq_at ok rx e1
        cases int_at ry
        obtain ⟨v, hv, rv⟩ := rl.atI q
        exact .inl ⟨p, vs, i, v, rfl, rfl, hs, hv, k v w (Step.refl ok) rfl rv⟩
    · cases h
  · cases h
theorem x_ix {fa fb : FD} (h : PE X e (tOp (rIx K) (tR K E fa) (tR K E fb))) : PE X e (tE K E (dOp2 idxD fa fb)) := x_op2 h p_idx
/-! ### slices -/
def cutD (xs : List D) (lo hi : Option Int) : List D := (xs.drop (HT.sIx xs.length 0 lo)).take (HT.sIx xs.length xs.length hi - HT.sIx xs.length 0 lo)
theorem RepL.cut {A : List Addr} {G : Hp} {vs : List V} {ds : List D} (h : RepL K A G vs ds) (lo hi : Option Int) : RepL K A G (cutV vs lo hi) (cutD ds lo hi) := by
  unfold cutV cutD
  rw [h.length]
  exact (h.drop _).take _
def slD (M : Store) (x : D) (lo hi : Option Int) : Option Slot := match x with
  | .tup ds => some (.val (.tup (cutD ds lo hi)))
  | .str z => if z.length ≤ sizeLine then some (.val (.str (cutS z lo hi))) else none
  | x => match seqOf M x with
    | some ds => some (.own (cutD ds lo hi))
    | none => none
def rSlA3 (K : PySem.W.Frag) : V → Option Int → Option Int → Hp → VK → Prop := fun x lo hi H Q => rSlA K x lo hi H Q ∨ rSlS x lo hi H Q ∨ rSlL K x lo hi H Q
theorem sl_A3 : SlR X (rSlA3 X.K) := sl_tupA.or (sl_str.or sl_list)
theorem p_sl : PrimS K (rSlA3 K) slD := by
  intro w vx x lo hi s Q ok rx h k
  unfold slD at h
  split at h
  · rename_i ds
    cases h
    obtain ⟨p, vs, rfl, hs, rl⟩ := tup_at ok rx
    refine .inl ⟨p, vs, rfl, hs, fun hw => ?_, fun _ q hq => ?_⟩
    · have e : cutD ds lo hi = ds := by
        unfold cutD
        rw [← rl.length, hw.1, hw.2, List.drop_zero, Nat.sub_zero, rl.length, List.take_length]
      rw [e] at k
      rcases rx with rx | ⟨_, _, _, _, e, _⟩
      · exact k _ w (Step.refl ok) rfl rx
      · cases e
    · have st := ok.fresh hq (.tup (cutV vs lo hi))
      exact k _ _ st rfl (.tup upd_same (st.repL (rl.cut lo hi)))
  · split at h
    · rename_i hz
      cases h
      cases str_at rx
      exact .inr (.inl ⟨_, rfl, hz, ans ok k fun _ _ => .str _⟩)
    · cases h
  · split at h
    · rename_i e1
      cases h
      obtain ⟨p, vs, rfl, hs, rl⟩ := seq_at ok rx e1
      refine .inr (.inr ⟨p, vs, rfl, hs, fun q hq => ?_⟩)
      exact k _ _ (ok.fresh0 hq _) rfl (own_new (Step.refl ok) hq (rl.cut lo hi))
    · cases h
/-! ### in -/
def flatD : D → Bool
  | .non => true
  | .bl _ => true
  | .int _ => true
  | .str _ => true
  | _ => false
def elemsD (M : Store) : D → Option (List D)
  | .tup ds => some ds
  | .kt ds => some ds
  | x => seqOf M x
theorem elems_at {w : Wd} (ok : w.Ok K) {v : V} {x : D} {ds : List D} (r : RepB K w v x) (h : elemsD w.M x = some ds) : ∃ p vs, v = .ref p ∧ (SqL K w.H p vs ∨ SqT K w.H p vs) ∧ RepL K w.A w.G vs ds := by
  by_cases hf : ∃ es, x = .tup es
  · obtain ⟨es, rfl⟩ := hf
    cases h
    obtain ⟨p, vs, e, h1, h2⟩ := tup_at ok r
    exact ⟨p, vs, e, .inr h1, h2⟩
  by_cases hk : ∃ es, x = .kt es
  · obtain ⟨es, rfl⟩ := hk
    cases h
    obtain ⟨p, vs, e, h1, h2⟩ := kt_at ok r
    exact ⟨p, vs, e, .inr h1, h2⟩
  · have h' : seqOf w.M x = some ds := by
      cases x <;> first | exact h | exact absurd ⟨_, rfl⟩ hf | exact absurd ⟨_, rfl⟩ hk
    obtain ⟨p, vs, e, h1, h2⟩ := seq_at ok r h'
    exact ⟨p, vs, e, .inl h1, h2⟩
def inStr (i j : Str) : Bool := !(Builtin.Str.occurrences j i 0 j.length 1).isEmpty
def inD (M : Store) (x y : D) : Option Slot := match x, y with
  | .str i, .str j => some (.val (.bl (inStr i j)))
  | x, y => match elemsD M y with
    | some ds => if flatD x && ds.all flatD then some (.val (.bl (ds.any fun d => eqvD d x))) else none
    | none => none
def notInD (M : Store) (x y : D) : Option Slot := match x, y with
  | .str i, .str j => some (.val (.bl (!inStr i j)))
  | x, y => match elemsD M y with
    | some ds => if flatD x && ds.all flatD then some (.val (.bl (!ds.any fun d => eqvD d x))) else none
    | none => none
def rInA (K : PySem.W.Frag) : R2 := fun x y H Q => (∃ i j, x = .str i ∧ y = .str j ∧ Q (.bl (!(Builtin.Str.occurrences j i 0 j.length 1).isEmpty)) H) ∨ rIn K false x y H Q
def rNotInA (K : PySem.W.Frag) : R2 := fun x y H Q => (∃ i j, x = .str i ∧ y = .str j ∧ Q (.bl (!(!(Builtin.Str.occurrences j i 0 j.length 1).isEmpty))) H) ∨ rIn K true x y H Q
theorem op_inA : OpR X (compareOp .In) (rInA X.K) := op_in_str.or op_in_seq
theorem op_notInA : OpR X (compareOp .NotIn) (rNotInA X.K) := op_notin_str.or op_notIn_seq
theorem flat_at {A : List Addr} {G : Hp} {v : V} {d : D} (r : Rep K A G v d) (h : flatD d = true) : flatV v = true ∧ ∀ {v' : V} {d' : D}, Rep K A G v' d' → flatD d' = true → eqV v v' = eqvD d d' := by
  cases r with
  | non => exact ⟨rfl, fun r' h' => by cases r' <;> first | (cases h'; done) | simp [eqV, eqvD]⟩
  | bl b => exact ⟨rfl, fun r' h' => by cases r' <;> first | (cases h'; done) | simp [eqV, eqvD]⟩
  | int i => exact ⟨rfl, fun r' h' => by cases r' <;> first | (cases h'; done) | simp [eqV, eqvD]⟩
  | str z => exact ⟨rfl, fun r' h' => by cases r' <;> first | (cases h'; done) | simp [eqV, eqvD]⟩
  | _ => cases h
theorem flats_at {A : List Addr} {G : Hp} {v : V} {d : D} (r : Rep K A G v d) (h : flatD d = true) : ∀ {vs : List V} {ds : List D}, RepL K A G vs ds → ds.all flatD = true → vs.all flatV = true ∧ inV v vs = ds.any fun z => eqvD z d
  | [], [], _, _ => ⟨rfl, rfl⟩
  | v1 :: vs, d1 :: ds, .cons r1 rl, hs => by
    simp only [List.all_cons, Bool.and_eq_true] at hs
    obtain ⟨a, b⟩ := flats_at r h rl hs.2
    obtain ⟨c, f⟩ := flat_at r1 hs.1
    refine ⟨by simp only [List.all_cons, c, a, Bool.and_self], ?_⟩
    unfold inV at b ⊢
    rw [List.any_cons, List.any_cons, b, f r h]
theorem flatB {w : Wd} {v : V} {x : D} (r : RepB K w v x) (h : flatD x = true) : Rep K w.A w.G v x := by
  rcases r with r | ⟨_, _, _, _, rfl, _⟩
  · exact r
  · cases h
theorem p_in : Prim2 K (rInA K) inD := by
  intro w vx vy x y s Q ok rx ry h k
  unfold inD at h
  split at h
  · cases h
    cases str_at rx
    cases str_at ry
    exact .inl ⟨_, _, rfl, rfl, ans ok k fun _ _ => .bl _⟩
  · split at h
    · rename_i ds e1
      split at h
      · rename_i hc
        simp only [Bool.and_eq_true] at hc
        cases h
        obtain ⟨p, vs, rfl, hs, rl⟩ := elems_at ok ry e1
        have r := flatB rx hc.1
        obtain ⟨a, b⟩ := flats_at r hc.1 rl hc.2
        refine .inr ⟨p, vs, rfl, hs, (flat_at r hc.1).1, a, ?_⟩
        rw [b]
        exact ans ok k fun _ _ => .bl _
      · cases h
    · cases h
theorem p_notIn : Prim2 K (rNotInA K) notInD := by
  intro w vx vy x y s Q ok rx ry h k
  unfold notInD at h
  split at h
  · cases h
    cases str_at rx
    cases str_at ry
    exact .inl ⟨_, _, rfl, rfl, ans ok k fun _ _ => .bl _⟩
  · split at h
    · rename_i ds e1
      split at h
      · rename_i hc
        simp only [Bool.and_eq_true] at hc
        cases h
        obtain ⟨p, vs, rfl, hs, rl⟩ := elems_at ok ry e1
        have r := flatB rx hc.1
        obtain ⟨a, b⟩ := flats_at r hc.1 rl hc.2
        refine .inr ⟨p, vs, rfl, hs, (flat_at r hc.1).1, a, ?_⟩
        rw [b]
        exact ans ok k fun _ _ => .bl _
      · cases h
    · cases h
/-! ### len, min, max, int, list, tuple -/
def lenD (M : Store) (ds : List D) : Option Slot := match ds with
  | [.str z] => if z.length ≤ sizeLine then some (.val (.int z.length)) else none
  | [x] => match elemsD M x with
    | some es => some (.val (.int es.length))
    | none => none
  | _ => none
def rLenA (K : PySem.W.Frag) : List V → Hp → VK → Prop := fun xs H Q => (∃ p ys, xs = [.ref p] ∧ (SqL K H p ys ∨ SqT K H p ys) ∧ Q (.int ys.length) H) ∨ ∃ z, xs = [.str z] ∧ z.length ≤ sizeLine ∧ Q (.int z.length) H
theorem call_lenA : CallR X (.builtin "len") (rLenA X.K) := call_len_seq.or call_len_str
theorem p_len : PrimN K (rLenA K) lenD := by
  intro w vs ds s Q ok rl h k
  unfold lenD at h
  split at h
  · split at h
    · rename_i hz
      cases h
      obtain ⟨v, rfl, rv⟩ := rl.one
      cases str_at rv
      exact .inr ⟨_, rfl, hz, ans ok k fun _ _ => .int _⟩
    · cases h
  · split at h
    · rename_i es e1
      cases h
      obtain ⟨v, rfl, rv⟩ := rl.one
      obtain ⟨p, us, rfl, hs, r⟩ := elems_at ok rv e1
      refine .inl ⟨p, us, rfl, hs, ?_⟩
      rw [r.length]
      exact ans ok k fun _ _ => .int _
    · cases h
  · cases h
def min2D (_ : Store) (ds : List D) : Option Slot := match ds with
  | [.int i, .int j] => some (.val (.int (if j < i then j else i)))
  | _ => none
def max2D (_ : Store) (ds : List D) : Option Slot := match ds with
  | [.int i, .int j] => some (.val (.int (if j > i then j else i)))
  | _ => none
theorem p_min2 : PrimN K (fun xs H Q => ∃ i j, xs = [.int i, .int j] ∧ Q (.int (if j < i then j else i)) H) min2D := by
  intro w vs ds s Q ok rl h k
  unfold min2D at h
  split at h
  · cases h
    obtain ⟨v, v', rfl, rv, rv'⟩ := rl.two
    cases int_at rv
    cases int_at rv'
    exact ⟨_, _, rfl, ans ok k fun _ _ => .int _⟩
  · cases h
theorem p_max2 : PrimN K (fun xs H Q => ∃ i j, xs = [.int i, .int j] ∧ Q (.int (if j > i then j else i)) H) max2D := by
  intro w vs ds s Q ok rl h k
  unfold max2D at h
  split at h
  · cases h
    obtain ⟨v, v', rfl, rv, rv'⟩ := rl.two
    cases int_at rv
    cases int_at rv'
    exact ⟨_, _, rfl, ans ok k fun _ _ => .int _⟩
  · cases h
def intD (_ : Store) (ds : List D) : Option Slot := match ds with
  | [.int i] => some (.val (.int i))
  | [.bl b] => some (.val (.int (if b then 1 else 0)))
  | _ => none
theorem p_int : PrimN K (fun xs H Q => (∃ i, xs = [.int i] ∧ Q (.int i) H) ∨ ∃ k, xs = [.bl k] ∧ Q (.int (if k then 1 else 0)) H) intD := by
  intro w vs ds s Q ok rl h k
  unfold intD at h
  split at h
  · cases h
    obtain ⟨v, rfl, rv⟩ := rl.one
    cases int_at rv
    exact .inl ⟨_, rfl, ans ok k fun _ _ => .int _⟩
  · cases h
    obtain ⟨v, rfl, rv⟩ := rl.one
    cases bl_at rv
    exact .inr ⟨_, rfl, ans ok k fun _ _ => .int _⟩
  · cases h
def absD (_ : Store) (ds : List D) : Option Slot := match ds with
  | [.int i] => some (.val (.int (if i < 0 then -i else i)))
  | _ => none
theorem p_abs : PrimN K (fun xs H Q => ∃ i, xs = [.int i] ∧ Q (.int (if i < 0 then -i else i)) H) absD := by
  intro w vs ds s Q ok rl h k
  unfold absD at h
  split at h
  · cases h
    obtain ⟨v, rfl, rv⟩ := rl.one
    cases int_at rv
    exact ⟨_, rfl, ans ok k fun _ _ => .int _⟩
  · cases h
def listD (M : Store) (ds : List D) : Option Slot := match ds with
  | [x] => (elemsD M x).map Slot.own
  | _ => none
theorem p_list : PrimN K (fun xs H Q => ∃ p ys, xs = [.ref p] ∧ (SqL K H p ys ∨ SqT K H p ys) ∧ ∀ l, H l = none → Q (.ref l) (upd H l (.lst ys))) listD := by
  intro w vs ds s Q ok rl h k
  unfold listD at h
  split at h
  · rename_i x
    cases q : elemsD w.M x with
    | none => rw [q] at h; cases h
    | some es =>
      rw [q] at h
      cases h
      obtain ⟨v, rfl, rv⟩ := rl.one
      obtain ⟨p, us, rfl, hs, r⟩ := elems_at ok rv q
      exact ⟨p, us, rfl, hs, fun l hl => k _ _ (ok.fresh0 hl _) rfl (own_new (Step.refl ok) hl r)⟩
  · cases h
def tupleD (M : Store) (ds : List D) : Option Slot := match ds with
  | [.tup es] => some (.val (.tup es))
  | [x] => (seqOf M x).map fun es => .val (.tup es)
  | _ => none
theorem p_tuple : PrimN K (fun xs H Q => ∃ p ys, xs = [.ref p] ∧ ((SqL K H p ys ∧ ∀ l, H l = none → Q (.ref l) (upd H l (.tup ys))) ∨ (SqT K H p ys ∧ Q (.ref p) H))) tupleD := by
  intro w vs ds s Q ok rl h k
  unfold tupleD at h
  split at h
  · cases h
    obtain ⟨v, rfl, rv⟩ := rl.one
    obtain ⟨p, us, rfl, hs, r⟩ := tup_at ok rv
    rcases rv with rv | ⟨_, _, _, _, e, _⟩
    · exact ⟨p, us, rfl, .inr ⟨hs, k _ w (Step.refl ok) rfl rv⟩⟩
    · cases e
  · rename_i x _
    cases q : seqOf w.M x with
    | none => rw [q] at h; cases h
    | some es =>
      rw [q] at h
      cases h
      obtain ⟨v, rfl, rv⟩ := rl.one
      obtain ⟨p, us, rfl, hs, r⟩ := seq_at ok rv q
      refine ⟨p, us, rfl, .inl ⟨hs, fun l hl => ?_⟩⟩
      have st := ok.fresh hl (.tup us)
      exact k _ _ st rfl (.tup upd_same (st.repL r))
  · cases h
/-! ### all, any, sum of lists of bools, ints -/
def blsOf : List D → Option (List Bool)
  | [] => some []
  | .bl b :: ds => (blsOf ds).map (b :: ·)
  | _ => none
def intsOf : List D → Option (List Int)
  | [] => some []
  | .int b :: ds => (intsOf ds).map (b :: ·)
  | _ => none
theorem bls_at {A : List Addr} {G : Hp} : ∀ {ds : List D} {vs : List V} {bs : List Bool}, RepL K A G vs ds → blsOf ds = some bs → vs = bs.map V.bl
  | [], _, _, r, h => by cases r; cases h; rfl
  | .bl b :: ds, _, bs, r, h => by
    cases r with
    | cons r1 r2 =>
      simp only [blsOf] at h
      cases q : blsOf ds with
      | none => rw [q] at h; cases h
      | some cs =>
        rw [q] at h
        cases h
        cases r1
        rw [bls_at r2 q]
        rfl
  | .non :: _, _, _, _, h => by cases h
  | .int _ :: _, _, _, _, h => by cases h
  | .str _ :: _, _, _, _, h => by cases h
  | .tup _ :: _, _, _, _, h => by cases h
  | .lst _ :: _, _, _, _, h => by cases h
  | .fro _ :: _, _, _, _, h => by cases h
  | .kt _ :: _, _, _, _, h => by cases h
  | .ref _ :: _, _, _, _, h => by cases h
theorem ints_at {A : List Addr} {G : Hp} : ∀ {ds : List D} {vs : List V} {bs : List Int}, RepL K A G vs ds → intsOf ds = some bs → vs = bs.map V.int
  | [], _, _, r, h => by cases r; cases h; rfl
  | .int b :: ds, _, bs, r, h => by
    cases r with
    | cons r1 r2 =>
      simp only [intsOf] at h
      cases q : intsOf ds with
      | none => rw [q] at h; cases h
      | some cs =>
        rw [q] at h
        cases h
        cases r1
        rw [ints_at r2 q]
        rfl
  | .non :: _, _, _, _, h => by cases h
  | .bl _ :: _, _, _, _, h => by cases h
  | .str _ :: _, _, _, _, h => by cases h
  | .tup _ :: _, _, _, _, h => by cases h
  | .lst _ :: _, _, _, _, h => by cases h
  | .fro _ :: _, _, _, _, h => by cases h
  | .kt _ :: _, _, _, _, h => by cases h
  | .ref _ :: _, _, _, _, h => by cases h
def allD (M : Store) (ds : List D) : Option Slot := match ds with
  | [x] => match seqOf M x with
    | some es => (blsOf es).map fun bs => .val (.bl (bs.all id))
    | none => none
  | _ => none
def anyD (M : Store) (ds : List D) : Option Slot := match ds with
  | [x] => match seqOf M x with
    | some es => (blsOf es).map fun bs => .val (.bl (bs.any id))
    | none => none
  | _ => none
def sumD (M : Store) (ds : List D) : Option Slot := match ds with
  | [x] => match seqOf M x with
    | some es => (intsOf es).map fun bs => .val (.int bs.sum)
    | none => none
  | _ => none
theorem p_all : PrimN K (rAll K) allD := by
  intro w vs ds s Q ok rl h k
  unfold allD at h
  split at h
  · split at h
    · rename_i es e1
      cases q : blsOf es with
      | none => rw [q] at h; cases h
      | some bs =>
        rw [q] at h
        cases h
        obtain ⟨v, rfl, rv⟩ := rl.one
        obtain ⟨p, us, rfl, hs, r⟩ := seq_at ok rv e1
        cases bls_at r q
        exact ⟨p, bs, rfl, hs, ans ok k fun _ _ => .bl _⟩
    · cases h
  · cases h
theorem p_any : PrimN K (rAny K) anyD := by
  intro w vs ds s Q ok rl h k
  unfold anyD at h
  split at h
  · split at h
    · rename_i es e1
      cases q : blsOf es with
      | none => rw [q] at h; cases h
      | some bs =>
        rw [q] at h
        cases h
        obtain ⟨v, rfl, rv⟩ := rl.one
        obtain ⟨p, us, rfl, hs, r⟩ := seq_at ok rv e1
        cases bls_at r q
        exact ⟨p, bs, rfl, hs, ans ok k fun _ _ => .bl _⟩
    · cases h
  · cases h
theorem p_sum : PrimN K (rSum K) sumD := by
  intro w vs ds s Q ok rl h k
  unfold sumD at h
  split at h
  · split at h
    · rename_i es e1
      cases q : intsOf es with
      | none => rw [q] at h; cases h
      | some bs =>
        rw [q] at h
        cases h
        obtain ⟨v, rfl, rv⟩ := rl.one
        obtain ⟨p, us, rfl, hs, r⟩ := seq_at ok rv e1
        cases ints_at r q
        exact ⟨p, bs, rfl, hs, ans ok k fun _ _ => .int _⟩
    · cases h
  · cases h
/-! ### texts -/
def upperD (_ : Store) (x : D) (ds : List D) : Option Slot := match x, ds with
  | .str a, [] => if a.length ≤ 5592405 then some (.val (.str (Txt.upper a))) else none
  | _, _ => none
theorem p_upper : PrimM K (fun x xs H Q => ∃ a, x = .str a ∧ xs = [] ∧ a.length ≤ 5592405 ∧ Q (.str (Txt.upper a)) H) upperD := by
  intro w vx x vs ds s Q ok rx rl h k
  unfold upperD at h
  split at h
  · split at h
    · rename_i hz
      cases h
      cases str_at rx
      cases rl
      exact ⟨_, rfl, rfl, hz, ans ok k fun _ _ => .str _⟩
    · cases h
  · cases h
def strsOf : List D → Option (List Str)
  | [] => some []
  | .str b :: ds => (strsOf ds).map (b :: ·)
  | _ => none
theorem strs_at {A : List Addr} {G : Hp} : ∀ {ds : List D} {vs : List V} {bs : List Str}, RepL K A G vs ds → strsOf ds = some bs → vs = bs.map V.str
  | [], _, _, r, h => by cases r; cases h; rfl
  | .str b :: ds, _, bs, r, h => by
    cases r with
    | cons r1 r2 =>
      simp only [strsOf] at h
      cases q : strsOf ds with
      | none => rw [q] at h; cases h
      | some cs =>
        rw [q] at h
        cases h
        cases r1
        rw [strs_at r2 q]
        rfl
  | .non :: _, _, _, _, h => by cases h
  | .bl _ :: _, _, _, _, h => by cases h
  | .int _ :: _, _, _, _, h => by cases h
  | .tup _ :: _, _, _, _, h => by cases h
  | .lst _ :: _, _, _, _, h => by cases h
  | .fro _ :: _, _, _, _, h => by cases h
  | .kt _ :: _, _, _, _, h => by cases h
  | .ref _ :: _, _, _, _, h => by cases h
def joinD (M : Store) (x : D) (ds : List D) : Option Slot := match x, ds with
  | .str a, [y] => match elemsD M y with
    | some es => match strsOf es with
      | some ys => if (ys.map (·.length)).sum + ys.length * a.length ≤ 16777216 then some (.val (.str (Txt.join a ys))) else none
      | none => none
    | none => none
  | _, _ => none
theorem p_join : PrimM K (fun x xs H Q => ∃ a p, ∃ ys : List Str, x = .str a ∧ xs = [.ref p] ∧ (SqL K H p (ys.map V.str) ∨ SqT K H p (ys.map V.str)) ∧ (ys.map (·.length)).sum + ys.length * a.length ≤ 16777216 ∧ Q (.str (Txt.join a ys)) H) joinD := by
  intro w vx x vs ds s Q ok rx rl h k
  unfold joinD at h
  split at h
  · split at h
    · rename_i es e1
      split at h
      · rename_i ys e2
        split at h
        · rename_i hz
          cases h
          cases str_at rx
          obtain ⟨v, rfl, rv⟩ := rl.one
          obtain ⟨p, us, rfl, hs, r⟩ := elems_at ok rv e1
          cases strs_at r e2
          exact ⟨_, p, ys, rfl, rfl, hs, hz, ans ok k fun _ _ => .str _⟩
        · cases h
      · cases h
    · cases h
  · cases h
/-! ### isinstance with a built-in class -/
def clsD (M : Store) : D → Option String
  | .non => some "NoneType"
  | .bl _ => some "bool"
  | .int _ => some "int"
  | .str _ => some "str"
  | .tup _ => some "tuple"
  | .lst _ => some "list"
  | .fro _ => none
  | .kt _ => some "tuple"
  | .ref k => match M[k]? with
    | some (.lst _) => some "list"
    | some (.dK _) => some "dict"
    | some (.dT _) => some "dict"
    | _ => none
theorem cls_at {w : Wd} (ok : w.Ok K) {v : V} {x : D} {T : String} (r : RepB K w v x) (h : clsD w.M x = some T) : TyX K w.H v (.type T) := by
  cases x with
  | non => cases non_at r; cases h; exact .base .non
  | bl b => cases bl_at r; cases h; exact .base (.bl b)
  | int b => cases int_at r; cases h; exact .base (.int b)
  | str b => cases str_at r; cases h; exact .base (.str b)
  | tup ds =>
    cases h
    obtain ⟨p, vs, rfl, hs, rl⟩ := tup_at ok r
    rcases hs with (hs | ⟨o, hs⟩) | ⟨o, its, n, hk, hc, _⟩
    · exact .base (.tup hs)
    · exact .fTuple hs
    · exact .kTuple hk hc
  | lst ds =>
    cases h
    obtain ⟨p, vs, rfl, hs, rl⟩ := lst_at (ds := ds) ok r rfl
    exact .base (.lst hs)
  | fro ds => cases h
  | kt ds =>
    cases h
    obtain ⟨p, vs, rfl, hs, rl⟩ := kt_at ok r
    rcases hs with (hs | ⟨o, hs⟩) | ⟨o, its, n, hk, hc, _⟩
    · exact .base (.tup hs)
    · exact .fTuple hs
    · exact .kTuple hk hc
  | ref k =>
    simp only [clsD] at h
    rcases r with r | ⟨p, vs, es', rfl, e, _⟩
    · cases r with
      | @ref a k ek =>
        split at h
        · rename_i ds e2
          obtain ⟨a', e3, vs, h1, h2⟩ := ok.mos k _ e2
          rw [ek] at e3; cases e3
          cases h
          exact .base (.lst h1)
        · rename_i ds e2
          obtain ⟨a', e3, vs, h1, h2⟩ := ok.mos k _ e2
          rw [ek] at e3; cases e3
          cases h
          exact .base (.dK h1)
        · rename_i ds e2
          obtain ⟨a', e3, vs, h1, h2⟩ := ok.mos k _ e2
          rw [ek] at e3; cases e3
          cases h
          exact .base (.dT h1)
        · cases h
    · cases e
/-- subclasses among these -/
def subTy (a b : String) : Bool := a == b || (a == "bool" && b == "int")
def kitTys : List String := ["NoneType", "bool", "int", "str", "tuple", "list", "dict"]
theorem kit_all : ∀ a ∈ kitTys, ∀ b ∈ ["bool", "int", "str", "tuple", "list", "dict"], kitB a b = some (subTy a b) := by decide +kernel
theorem cls_in {M : Store} {x : D} {T : String} (h : clsD M x = some T) : T ∈ kitTys := by
  cases x <;> simp only [clsD] at h <;> first | (cases h; done) | (cases h; decide) | skip
  split at h <;> first | (cases h; done) | (cases h; decide)
def isiD (T : String) (M : Store) (x : D) : Option Slot := (clsD M x).map fun c => .val (.bl (subTy c T))
/-- isinstance(e, T) -/
def tIsi (T : String) (K : PySem.W.Frag) (t : TE) : TE := tCB (rIsi K) (tCons t (tCons (tC (.ty T)) tNil))
theorem x_isi {T : String} (hT : T ∈ ["bool", "int", "str", "tuple", "list", "dict"]) {f : FD} (h : PE X e (tIsi T K (tR K E f))) : PE X e (tE K E (dOp1 (isiD T) f)) := PE.wk h fun σ H Q ⟨ρ, w, e1, ok, sr, a⟩ =>
  ⟨ρ, w, e1, ok, sr, a.bind.imp fun x w1 s1 a1 v rv => by
    obtain ⟨s, es, k⟩ := fin_of s1 a1
    unfold isiD at es
    cases q : clsD w1.M x with
    | none => rw [q] at es; cases es
    | some c =>
      rw [q] at es
      cases es
      exact ⟨v, .ty T, .type c, .type T, subTy c T, rfl, .ty T, cls_at s1.ok rv q, kit_ty (kit_all c (cls_in q) T hT), ans s1.ok k fun _ _ => .bl _⟩⟩
/-! ### the store -/
/-- a list of one's own comes into the store -/
def dRef (f : FE) : FE := fun ρ M => (f ρ M).bind fun x M => match x with
  | .own ds => .ok (.val (.ref M.length)) (M ++ [.lst ds])
  | _ => .bad
theorem Wd.Ok.push {w : Wd} (h : w.Ok K) {p : Addr} {o : MO} (hG : w.G p = none) (hA : p ∉ w.A) (hm : MoR K w p o) : (⟨w.A ++ [p], w.G, w.M ++ [o], w.H⟩ : Wd).Ok K := by
  have up : ∀ {a : Addr} {m : MO}, MoR K w a m → MoR K ⟨w.A ++ [p], w.G, w.M ++ [o], w.H⟩ a m := fun {a m} r => by
    have rr : ∀ v d, Rep K w.A w.G v d → Rep K (w.A ++ [p]) w.G v d := fun v d => Rep.mono (List.prefix_append _ _) (Same.refl _) d v
    cases m with
    | lst ds => obtain ⟨vs, z, q⟩ := r; exact ⟨vs, z, RepL.mono (List.prefix_append _ _) (Same.refl _) _ _ q⟩
    | dK ds => obtain ⟨vs, z, q⟩ := r; exact ⟨vs, z, q.imp rr⟩
    | dT ds => obtain ⟨vs, z, q⟩ := r; exact ⟨vs, z, q.imp rr⟩
    | ins c fs => obtain ⟨io, vs, dx, z, q⟩ := r; exact ⟨io, vs, dx, z, q.imp rr⟩
  refine ⟨h.sub, ?_, by simp [h.len], fun a ha => ?_, fun k m e => ?_⟩
  · rw [List.nodup_append]
    exact ⟨h.nd, by simp, fun a ha b hb => by simp at hb; subst hb; exact fun z => hA (z ▸ ha)⟩
  · rcases List.mem_append.mp ha with ha | ha
    · exact h.out a ha
    · simp at ha; subst ha; exact hG
  · have e : (w.M ++ [o])[k]? = some m := e
    by_cases hk : k < w.M.length
    · rw [List.getElem?_append_left hk] at e
      obtain ⟨a, ea, r⟩ := h.mos k m e
      exact ⟨a, pre_get (List.prefix_append _ _) ea, up r⟩
    · rw [List.getElem?_append_right (by omega)] at e
      have hk2 : k - w.M.length = 0 := by
        have := (List.getElem?_eq_some_iff.mp e).1
        simp at this
        omega
      rw [hk2] at e
      cases e
      refine ⟨p, ?_, up hm⟩
      show (w.A ++ [p])[k]? = some p
      have hl := h.len
      rw [List.getElem?_append_right (by omega), show k - w.A.length = 0 by omega]
      rfl
theorem x_ref {f : FE} (h : PE X e (tE K E f)) : PE X e (tE K E (dRef f)) := PE.wk h fun σ H Q ⟨ρ, w, e1, ok, sr, a⟩ =>
  ⟨ρ, w, e1, ok, sr, by
    unfold dRef at a
    cases q : f ρ w.M with
    | bad => rw [q] at a; exact a
    | exc c d M => rw [q] at a; exact a
    | ok x M =>
      rw [q] at a
      cases x with
      | un => exact a.elim
      | val d => exact a.elim
      | own ds =>
        intro w1 s1 eM v rv
        obtain ⟨p, vs, rfl, h0, hH, hG, hA, rl⟩ := rv
        have ok2 := s1.ok.push hG hA (show MoR K w1 p (.lst ds) from ⟨vs, hH, rl⟩)
        have a' : ∀ w', Step K w w' → w'.M = M ++ [.lst ds] → ∀ v, RepX K w w' v (.val (.ref M.length)) → Q v w'.H := a
        refine a' ⟨w1.A ++ [p], w1.G, w1.M ++ [.lst ds], w1.H⟩ ⟨ok2, s1.pre.trans (List.prefix_append _ _), s1.fro, fun b o z1 z2 z3 => ?_⟩ (by rw [eM]) _ (.ref ?_)
        · obtain ⟨c1, c2, c3⟩ := s1.keep b o z1 z2 z3
          exact ⟨c1, c2, fun hm => (List.mem_append.mp hm).elim c3 fun z => by simp at z; subst z; rw [h0] at z1; cases z1⟩
        · show (w1.A ++ [p])[M.length]? = some p
          have hl := s1.ok.len
          rw [eM] at hl
          rw [← hl, List.getElem?_append_right (Nat.le_refl _), Nat.sub_self]
          rfl⟩
/-- the k-th thing of the store is changed -/
theorem Wd.Ok.put {w : Wd} (h : w.Ok K) {k : Nat} {p : Addr} {o : MO} {ho : HO} (hk : w.A[k]? = some p) (hm : MoR K ⟨w.A, w.G, w.M.set k o, upd w.H p ho⟩ p o) : Step K w ⟨w.A, w.G, w.M.set k o, upd w.H p ho⟩ := by
  have hp : p ∈ w.A := List.mem_of_getElem? hk
  have hG : w.G p = none := h.out p hp
  have hkl : k < w.M.length := by rw [← h.len]; exact (List.getElem?_eq_some_iff.mp hk).1
  refine ⟨⟨fun b u e => ?_, h.nd, by simp [h.len], h.out, fun j m e => ?_⟩, List.prefix_refl _, Same.refl _, fun q u z1 z2 z3 => ⟨?_, .inl z2, z3⟩⟩
  · show upd w.H p ho b = some u
    rw [upd_ne (ne_of_none e hG)]
    exact h.sub b u e
  · have e : (w.M.set k o)[j]? = some m := e
    by_cases hj : k = j
    · subst hj
      rw [List.getElem?_set_self hkl] at e
      cases e
      exact ⟨p, hk, hm⟩
    · rw [List.getElem?_set_ne hj] at e
      obtain ⟨a, ea, r⟩ := h.mos j m e
      have na : a ≠ p := fun z => hj ((List.getElem?_inj (List.getElem?_eq_some_iff.mp hk).1 h.nd).mp (by rw [hk]; rw [← z]; exact ea.symm))
      refine ⟨a, ea, ?_⟩
      cases m with
      | lst ds => obtain ⟨vs, z, q⟩ := r; exact ⟨vs, by show upd w.H p ho a = _; rw [upd_ne na]; exact z, q⟩
      | dK ds => obtain ⟨vs, z, q⟩ := r; exact ⟨vs, by show upd w.H p ho a = _; rw [upd_ne na]; exact z, q⟩
      | dT ds => obtain ⟨vs, z, q⟩ := r; exact ⟨vs, by show upd w.H p ho a = _; rw [upd_ne na]; exact z, q⟩
      | ins c fs => obtain ⟨io, vs, dx, z, q⟩ := r; exact ⟨io, vs, dx, by show upd w.H p ho a = _; rw [upd_ne na]; exact z, q⟩
  · show upd w.H p ho q = some u
    rw [upd_ne (fun z : q = p => z3 (z ▸ hp))]
    exact z1
/-- o[i] = e of a list of the store -/
def sPutR (f fo fi : FD) : FS := fun ρ M => (f ρ M).out fun x M => (fo ρ M).out fun o M => (fi ρ M).out fun i M => match o, i with
  | .ref k, .int j => match M[k]? with
    | some (.lst ds) => match ixN ds.length j with
      | some n => .next ρ (M.set k (.lst (ds.set n x)))
      | none => .bad
    | _ => .bad
  | _, _ => .bad
theorem ref_at {w : Wd} {v : V} {k : Nat} (r : RepB K w v (.ref k)) : ∃ a, v = .ref a ∧ w.A[k]? = some a := by
  rcases r with r | ⟨p, vs, es', rfl, e, _⟩
  · cases r with
    | ref e => exact ⟨_, rfl, e⟩
  · cases e
theorem s_putR {st : Stmt} {f fo fi : FD} (h : PS X st (tAsg (tF K E f) (gSub (tR K E fo) (tR K E fi) rSetL))) : PS X st (tS K E (sPutR f fo fi)) := PS.wk h fun D σ H ⟨ρ, w, w0, e1, s, sr, of, p⟩ =>
  ⟨ρ, w, e1, s.ok, sr, (out_after s p).imp fun x w1 s1 p1 v rv => ⟨ρ, w1, rfl, s1.ok, sr.step s1, (out_after (s.trans s1) p1).imp fun o w2 s2 p2 vo ro => ⟨ρ, w2, rfl, s2.ok, (sr.step s1).step s2, (out_after ((s.trans s1).trans s2) p2).imp fun i w3 s3 p3 vi ri => by
    split at p3
    · rename_i k j
      split at p3
      · rename_i ds e2
        split at p3
        · rename_i n en
          obtain ⟨a, rfl, ea⟩ := ref_at (ro.step s3)
          cases int_at ri
          obtain ⟨a', ea', vs, hH, rl⟩ := s3.ok.mos k _ e2
          rw [ea] at ea'
          cases ea'
          refine ⟨a, vs, j, n, rfl, rfl, hH, by rw [rl.length]; exact en, ?_⟩
          have rv3 := (s2.trans s3).rep rv
          have st3 := s3.ok.put (o := .lst (ds.set n x)) (ho := .lst (vs.set n v)) ea ⟨_, upd_same, rl.set rv3 n⟩
          have sall := ((s.trans s1).trans s2).trans s3
          exact p3 _ σ (sall.trans st3) st3.le rfl ((((sr.step s1).step s2).step s3).step st3) of
        · exact p3.elim
      · exact p3.elim
    · exact p3.elim⟩⟩⟩
/-! ### a def's entry -/
def startD (n : Nat) (ds : List D) : EnvD := ds.map Slot.val ++ List.replicate (n - ds.length) .un
theorem SR.start {w : Wd} {N : List Str} {vs : List V} {ds : List D} (rl : RepL K w.A w.G vs ds) : SR K w (startD N.length ds) (L2.start N vs) := by
  have no : ∀ (i : Nat) (es : List D), (startD N.length ds)[i]? ≠ some (.own es) := fun i es h => by
    unfold startD at h
    by_cases hi : i < (ds.map Slot.val).length
    · rw [List.getElem?_append_left hi, List.getElem?_map] at h
      cases q : ds[i]? with
      | none => rw [q] at h; cases h
      | some d => rw [q] at h; cases h
    · rw [List.getElem?_append_right (by omega), List.getElem?_replicate] at h
      split at h <;> cases h
  refine ⟨by unfold startD L2.start; simp [rl.length], fun i d h => ?_, fun i es h => absurd h (no i es), fun i j es es' p h => absurd h (no i es)⟩
  unfold startD at h
  by_cases hi : i < (ds.map Slot.val).length
  · rw [List.getElem?_append_left hi, List.getElem?_map] at h
    cases q : ds[i]? with
    | none => rw [q] at h; cases h
    | some d' =>
      rw [q] at h
      cases h
      obtain ⟨v, ev, rv⟩ := rl.get q
      refine ⟨v, ?_, rv⟩
      unfold L2.start
      rw [List.length_map] at hi
      rw [List.getElem?_append_left (by simpa [rl.length] using hi), List.getElem?_map, ev]
      rfl
  · rw [List.getElem?_append_right (by omega), List.getElem?_replicate] at h
    split at h <;> cases h
theorem OF.start (w : Wd) (n : Nat) (ds : List D) (σ : L2.St) : OF w (startD n ds) σ := fun i es p h => by
  exfalso
  unfold startD at h
  by_cases hi : i < (ds.map Slot.val).length
  · rw [List.getElem?_append_left hi, List.getElem?_map] at h
    cases q : ds[i]? with
    | none => rw [q] at h; cases h
    | some d => rw [q] at h; cases h
  · rw [List.getElem?_append_right (by omega), List.getElem?_replicate] at h
    split at h <;> cases h
def runF (n : Nat) (g : FS) : Fn := fun ds M => match g (startD n ds) M with
  | .next _ M => .ok (.val .non) M
  | .ret s M => .ok s M
  | .exc c d M => .exc c d M
  | _ => .bad
abbrev W0 : XK → Wish := fun _ => E00
/-- a def that lets no exception out -/
theorem fn_ok {P : Program} {wo : World} {mg : Str → Option Value} {base : Heap} {x qual : Str} {st : Stmt} {f : Addr} {fd : FuncData} {N ps : List Str} {k : Nat} {g : FS} (F : Fun K x qual st f fd) (S : FnScope N ps (defScope st))
    (hbody : ∀ (cdv : Value) (A : Around) (outer : List Env) (s : Shared) (H : Hp) (EX : XK), Room k (A.deeper (envOfC qual (defScope st) s.heap.objs.size f cdv)) →
      PSs (cxOf CX0 P wo K mg base N qual (defScope st) f cdv A outer s H EX).nox (defBody st) (tS K E00 g)) : FnOk P wo K mg base CX0 (k + 1) f fd ps (spD K W0 ps.length (runF N.length g)) := by
  refine F.ok S (fun vs H Q EX h => h.1) (fun cdv A outer s H vs Q EX hr h => ?_)
  refine ⟨_, hbody cdv A outer s H EX hr, ?_⟩
  obtain ⟨hl, ds, w, rfl, ok, rl, a⟩ := h
  refine ⟨startD N.length ds, w, w, rfl, Step.refl ok, SR.start rl, OF.start w _ _ _, ?_⟩
  unfold runF at a
  cases q : g (startD N.length ds) w.M with
  | next ρ M => rw [q] at a; exact fun w' σ s' _ eM _ _ => a w' s' eM .non .non
  | ret x M => rw [q] at a; exact fun w' v s' eM rv => a w' s' eM v rv
  | exc c d M => rw [q] at a; exact a
  | brk ρ M => rw [q] at a; exact a.elim
  | cont ρ M => rw [q] at a; exact a.elim
  | bad => rw [q] at a; exact a.elim
end
end TP
/-! TPh: chains, more statements, more walks. -/
namespace TP
open PySem L2
section
variable {K : PySem.W.Frag} {E : Wish} {X : Cx} {e : Expr} {st : Stmt}
def dChain (g g' : Store → D → D → Option Slot) (fa fb fc : FD) : FE := fun ρ M => (fa ρ M).bind fun x M => (fb ρ M).bind fun y M => match g M x y with
  | some (.val (.bl true)) => (fc ρ M).bind fun z M => R.of (g' M y z) M
  | some (.val (.bl false)) => .ok (.val (.bl false)) M
  | _ => .bad
theorem x_chain {r r' : R2} {g g' : Store → D → D → Option Slot} {fa fb fc : FD} (h : PE X e (tChain r r' (tR K E fa) (tR K E fb) (tR K E fc))) (p : Prim2 K r g) (p' : Prim2 K r' g') : PE X e (tE K E (dChain g g' fa fb fc)) := PE.wk h fun σ H Q ⟨ρ, w, e1, ok, sr, a⟩ =>
  ⟨ρ, w, e1, ok, sr, a.bind.imp fun x w1 s1 a1 vx rx => ⟨ρ, w1, rfl, s1.ok, sr.step s1, a1.bind.imp fun y w2 s2 a2 vy ry => by
    split at a2
    · rename_i eg
      refine p w2 vx vy x y _ _ s2.ok (rx.step s2) ry eg fun v w3 s3 e3 rv => ?_
      cases rv
      have s13 := (s1.trans s2).trans s3
      refine ⟨true, rfl, iteT ⟨ρ, w3, rfl, s3.ok, ((sr.step s1).step s2).step s3, ?_⟩⟩
      rw [e3]
      have a3 := a2.later s3
      exact a3.bind.imp fun z w4 s4 a4 vz rz => by
        obtain ⟨s, es, k⟩ := fin_of (s13.trans s4) a4
        exact p' w4 vy vz y z s Q s4.ok ((ry.step s3).step s4) rz es k
    · rename_i eg
      refine p w2 vx vy x y _ _ s2.ok (rx.step s2) ry eg fun v w3 s3 e3 rv => ?_
      cases rv
      exact ⟨false, rfl, iteF (a2 w3 s3 e3 _ (.bl _))⟩
    · exact a2.elim⟩⟩
/-- name = [comprehension] on one line -/
theorem s_setLc {i : Nat} {fi : FL} {b : D → EnvD → Option EnvD} {is : List Nat} {c : FB} {f : FD} {vs : List Nat} (hv : ∀ i ∈ is, i ∈ vs) (h : PS X st (tAsg (tLc (tI K E fi) (tG K b is) (tT K E00 c) (tF K E00 f) vs) (gName i))) : PS X st (tS K E (sSet i (dLc fi b c f vs))) :=
  s_set (PS.wk h fun D σ H z => lc_le hv σ H _ z)
/-- name op= e -/
def sAug (i : Nat) (g : Store → D → D → Option Slot) (f : FD) : FS := fun ρ M => match ρ[i]? with
  | some (.val x) => (f ρ M).out fun y M => match g M x y with
    | some (.val z) => .next (ρ.set i (.val z)) M
    | _ => .bad
  | _ => .bad
/-- what op= does by values, for plain data that is not changed in place -/
def PrimI (K : PySem.W.Frag) (r : TIp) (g : Store → D → D → Option Slot) : Prop := ∀ (w : Wd) (vx vy : V) (x y z : D) (Q : VK), w.Ok K → Rep K w.A w.G vx x → RepB K w vy y → g w.M x y = some (.val z) →
  (∀ v w', Step K w w' → w'.M = w.M → Rep K w'.A w'.G v z → Q v w'.H) → r vx vy w.H Q
theorem s_aug {i : Nat} {r : TIp} {g : Store → D → D → Option Slot} {f : FD} (h : PS X st (tAug i (tR K E f) r)) (p : PrimI K r g) : PS X st (tS K E (sAug i g f)) := PS.wk h fun D σ H ⟨ρ, w, w0, e1, s, sr, of, q⟩ => by
  subst e1
  unfold sAug at q
  split at q
  · rename_i x e2
    obtain ⟨v, h1, h2⟩ := sr.val i x e2
    refine ⟨v, h1, ρ, w, rfl, s.ok, sr, (out_after s q).imp fun y w1 s1 q1 vy ry => ?_⟩
    split at q1
    · rename_i z eg
      refine p w1 v vy x y z _ s1.ok (s1.rep h2) ry eg fun u w2 s2 e3 rz => ?_
      refine q1 w2 _ ((s.trans s1).trans s2) s2.le e3 (((sr.step s1).step s2).set i rz) (of.sub (OwnSub.set ρ σ i (fun _ z => by cases z) _))
    · exact q1.elim
  · exact q.elim
def iaddD (_ : Store) (x y : D) : Option Slot := match x, y with
  | .int i, .int j => some (.val (.int (i + j)))
  | _, _ => none
theorem p_iadd : PrimI K (ipI fun i j => i + j) iaddD := by
  intro w vx vy x y z Q ok rx ry h k
  unfold iaddD at h
  split at h
  · cases h
    cases rx
    cases int_at ry
    exact ⟨_, _, rfl, rfl, k _ w (Step.refl ok) rfl (.int _)⟩
  · cases h
/-! ### enumerate, zip, reversed -/
def enumL (ds : List D) : List D := (List.range ds.length).map fun i => .tup [.int (i : Nat), ds.getD i .non]
theorem it_enum {w : Wd} {a : Addr} {vs : List V} {ds : List D} (hs : SqL K w.G a vs) (rl : RepL K w.A w.G vs ds) : IterOk K w (Ite K a) (enumL ds) := fun w2 le ok2 i => by
  have h2 : SqL K w2.H a vs := ok2.sub.seq (le.2.seq hs)
  have r2 := le.repL rl
  refine ⟨fun d ed => ?_, fun hl => ⟨vs, h2, by rw [rl.length]; simpa [enumL] using hl⟩⟩
  unfold enumL at ed
  rw [List.getElem?_map] at ed
  by_cases hi : i < ds.length
  · rw [List.getElem?_range hi] at ed
    cases ed
    obtain ⟨v, ev, rv⟩ := r2.get (List.getElem?_eq_getElem hi)
    refine ⟨⟨vs, v, h2, ev⟩, fun x H' y => ?_⟩
    obtain ⟨T, x', rfl, hT, rfl, y⟩ := y
    have := y vs h2
    rw [ev] at this
    cases this
    have st := ok2.fresh hT (.tup [.int (i : Nat), v])
    refine ⟨_, st, rfl, rfl, .tup upd_same (.cons (.int _) (.one ?_))⟩
    rw [List.getD_eq_getElem?_getD, List.getElem?_eq_getElem hi]
    exact st.rep rv
  · rw [List.getElem?_eq_none (by simpa using hi)] at ed
    cases ed
def dEnum (fs : FL) : FL := fun ρ M => (fs ρ M).bind fun ds M => match ds with
  | [.lst es] => .ok (enumL es) M
  | [.fro es] => .ok (enumL es) M
  | _ => .bad
theorem x_enum {tg : Expr} {fs : FL} (h : PI X tg e (iEnum K (tAF K E fs))) : PI X tg e (tI K E (dEnum fs)) := PI.wk h fun σ H Q ⟨ρ, w, e1, ok, sr, a⟩ =>
  ⟨ρ, w, e1, ok, sr, a.bind.imp fun ds w1 s1 a1 vs rvs => by
    split at a1
    · cases rvs with
      | cons r1 r2 =>
        cases r2
        cases r1 with
        | lst hs rl => exact ⟨_, _, rfl, .inl (.inl (s1.ok.sub _ _ hs)), a1 w1 (Step.refl s1.ok) rfl _ (it_enum (.inl (.inl hs)) rl)⟩
    · cases rvs with
      | cons r1 r2 =>
        cases r2
        cases r1 with
        | fro hs rl => exact ⟨_, _, rfl, s1.ok.sub.seq hs, a1 w1 (Step.refl s1.ok) rfl _ (it_enum hs rl)⟩
    · exact a1.elim⟩
def zipL : List D → List D → List D
  | x :: xs, y :: ys => .tup [x, y] :: zipL xs ys
  | _, _ => []
theorem zipL_get : ∀ (xs ys : List D) (i : Nat) (d : D), (zipL xs ys)[i]? = some d → ∃ x y, xs[i]? = some x ∧ ys[i]? = some y ∧ d = .tup [x, y]
  | x :: xs, y :: ys, 0, d, h => by simp [zipL] at h; exact ⟨x, y, rfl, rfl, h.symm⟩
  | x :: xs, y :: ys, i + 1, d, h => by
    obtain ⟨a, b, h1, h2, h3⟩ := zipL_get xs ys i d (by simpa [zipL] using h)
    exact ⟨a, b, by simpa using h1, by simpa using h2, h3⟩
  | [], _, _, _, h => by simp [zipL] at h
  | _ :: _, [], _, _, h => by simp [zipL] at h
theorem zipL_len : ∀ (xs ys : List D), (zipL xs ys).length = min xs.length ys.length
  | x :: xs, y :: ys => by simp [zipL, zipL_len xs ys]
  | [], _ => by simp [zipL]
  | _ :: _, [] => by simp [zipL]
theorem it_zip {w : Wd} {a b : Addr} {vs us : List V} {ds es : List D} (hs : SqL K w.G a vs) (rl : RepL K w.A w.G vs ds) (hs' : SqL K w.G b us) (rl' : RepL K w.A w.G us es) : IterOk K w (Itz K a b) (zipL ds es) := fun w2 le ok2 i => by
  have h2 : SqL K w2.H a vs := ok2.sub.seq (le.2.seq hs)
  have h2' : SqL K w2.H b us := ok2.sub.seq (le.2.seq hs')
  refine ⟨fun d ed => ?_, fun hl => ⟨vs, us, h2, h2', by rw [zipL_len] at hl; rw [rl.length, rl'.length]; omega⟩⟩
  obtain ⟨x, y, ex, ey, rfl⟩ := zipL_get ds es i d ed
  obtain ⟨v, ev, rv⟩ := (le.repL rl).get ex
  obtain ⟨u, eu, ru⟩ := (le.repL rl').get ey
  refine ⟨⟨vs, us, v, u, h2, h2', ev, eu⟩, fun z H' hy => ?_⟩
  obtain ⟨T, x', y', rfl, hT, rfl, y1, y2⟩ := hy
  have q1 := y1 vs h2
  rw [ev] at q1
  cases q1
  have q2 := y2 us h2'
  rw [eu] at q2
  cases q2
  have st := ok2.fresh hT (.tup [v, u])
  exact ⟨_, st, rfl, rfl, .tup upd_same (.cons (st.rep rv) (.one (st.rep ru)))⟩
theorem it_zipT {w : Wd} {a b : Addr} {vs us : List V} {ds es : List D} (hs : SqT K w.G a vs) (rl : RepL K w.A w.G vs ds) (hs' : SqT K w.G b us) (rl' : RepL K w.A w.G us es) : IterOk K w (RZ.ItzT K a b) (zipL ds es) := fun w2 le ok2 i => by
  have h2 : SqT K w2.H a vs := sqT_mono ok2.sub (sqT_mono le.2 hs)
  have h2' : SqT K w2.H b us := sqT_mono ok2.sub (sqT_mono le.2 hs')
  refine ⟨fun d ed => ?_, fun hl => ⟨vs, us, h2, h2', by rw [zipL_len] at hl; rw [rl.length, rl'.length]; omega⟩⟩
  obtain ⟨x, y, ex, ey, rfl⟩ := zipL_get ds es i d ed
  obtain ⟨v, ev, rv⟩ := (le.repL rl).get ex
  obtain ⟨u, eu, ru⟩ := (le.repL rl').get ey
  refine ⟨⟨vs, us, v, u, h2, h2', ev, eu⟩, fun z H' hy => ?_⟩
  obtain ⟨T, x', y', rfl, hT, rfl, y1, y2⟩ := hy
  have q1 := y1 vs h2
  rw [ev] at q1
  cases q1
  have q2 := y2 us h2'
  rw [eu] at q2
  cases q2
  have st := ok2.fresh hT (.tup [v, u])
  exact ⟨_, st, rfl, rfl, .tup upd_same (.cons (st.rep rv) (.one (st.rep ru)))⟩
def dZip (fs : FL) : FL := fun ρ M => (fs ρ M).bind fun ds M => match ds with
  | [.lst xs, .lst ys] => .ok (zipL xs ys) M
  | [.tup xs, .tup ys] => .ok (zipL xs ys) M
  | _ => .bad
theorem x_zip {tg : Expr} {fs : FL} (h : PI X tg e (RZ.iZipA K (tAF K E fs))) : PI X tg e (tI K E (dZip fs)) := PI.wk h fun σ H Q ⟨ρ, w, e1, ok, sr, a⟩ =>
  ⟨ρ, w, e1, ok, sr, a.bind.imp fun ds w1 s1 a1 vs rvs => by
    split at a1
    · cases rvs with
      | cons r1 r2 =>
        cases r2 with
        | cons r2 r3 =>
          cases r3
          cases r1 with
          | lst hs rl =>
            cases r2 with
            | lst hs' rl' => exact ⟨_, _, _, _, rfl, .inl ⟨.inl (.inl (s1.ok.sub _ _ hs)), .inl (.inl (s1.ok.sub _ _ hs')), a1 w1 (Step.refl s1.ok) rfl _ (it_zip (.inl (.inl hs)) rl (.inl (.inl hs')) rl')⟩⟩
    · cases rvs with
      | cons r1 r2 =>
        cases r2 with
        | cons r2 r3 =>
          cases r3
          cases r1 with
          | tup hs rl =>
            cases r2 with
            | tup hs' rl' => exact ⟨_, _, _, _, rfl, .inr ⟨.inl (.inl (s1.ok.sub _ _ hs)), .inl (.inl (s1.ok.sub _ _ hs')), a1 w1 (Step.refl s1.ok) rfl _ (it_zipT (.inl (.inl hs)) rl (.inl (.inl hs')) rl')⟩⟩
    · exact a1.elim⟩
theorem it_rev {w : Wd} {a : Addr} {vs : List V} {ds : List D} (hs : SqL K w.G a vs) (rl : RepL K w.A w.G vs ds) : IterOk K w (Itv K a vs.length) ds.reverse := fun w2 le ok2 i => by
  have h2 : SqL K w2.H a vs := ok2.sub.seq (le.2.seq hs)
  refine ⟨fun d ed => ?_, fun hl => show vs.length ≤ i by rw [rl.length]; simpa using hl⟩
  have hi : i < ds.length := by have := (List.getElem?_eq_some_iff.mp ed).1; simpa using this
  rw [List.getElem?_reverse hi] at ed
  obtain ⟨v, ev, rv⟩ := (le.repL rl).get ed
  rw [← rl.length] at ev
  refine ⟨⟨by rw [rl.length]; exact hi, vs, v, h2, ev⟩, fun x H' y => ?_⟩
  obtain ⟨eH, y⟩ := y
  have q := y vs h2
  rw [ev] at q
  cases q
  exact ⟨w2, Step.refl ok2, rfl, eH.symm, rv⟩
theorem it_revT {w : Wd} {a : Addr} {vs : List V} {ds : List D} (hs : SqT K w.G a vs) (rl : RepL K w.A w.G vs ds) : IterOk K w (RT.ItvT K a vs.length) ds.reverse := fun w2 le ok2 i => by
  have h2 : SqT K w2.H a vs := sqT_mono ok2.sub (sqT_mono le.2 hs)
  refine ⟨fun d ed => ?_, fun hl => show vs.length ≤ i by rw [rl.length]; simpa using hl⟩
  have hi : i < ds.length := by have := (List.getElem?_eq_some_iff.mp ed).1; simpa using this
  rw [List.getElem?_reverse hi] at ed
  obtain ⟨v, ev, rv⟩ := (le.repL rl).get ed
  rw [← rl.length] at ev
  refine ⟨⟨by rw [rl.length]; exact hi, vs, v, h2, ev⟩, fun x H' y => ?_⟩
  obtain ⟨eH, y⟩ := y
  have q := y vs h2
  rw [ev] at q
  cases q
  exact ⟨w2, Step.refl ok2, rfl, eH.symm, rv⟩
def dRev (f : FD) : FL := fun ρ M => (f ρ M).bind fun d M => match d with
  | .lst xs => .ok xs.reverse M
  | .fro xs => .ok xs.reverse M
  | .tup xs => .ok xs.reverse M
  | _ => .bad
theorem x_rev {tg : Expr} {f : FD} (h : PI X tg e (RT.iRevA K (tF K E f))) : PI X tg e (tI K E (dRev f)) := PI.wk h fun σ H Q ⟨ρ, w, e1, ok, sr, a⟩ =>
  ⟨ρ, w, e1, ok, sr, a.bind.imp fun d w1 s1 a1 v rv => by
    split at a1
    · cases rv with
      | lst hs rl => exact ⟨_, _, rfl, .inl ⟨.inl (.inl (s1.ok.sub _ _ hs)), a1 w1 (Step.refl s1.ok) rfl _ (it_rev (.inl (.inl hs)) rl)⟩⟩
    · cases rv with
      | fro hs rl => exact ⟨_, _, rfl, .inl ⟨s1.ok.sub.seq hs, a1 w1 (Step.refl s1.ok) rfl _ (it_rev hs rl)⟩⟩
    · cases rv with
      | tup hs rl => exact ⟨_, _, rfl, .inr ⟨.inl (.inl (s1.ok.sub _ _ hs)), a1 w1 (Step.refl s1.ok) rfl _ (it_revT (.inl (.inl hs)) rl)⟩⟩
    · exact a1.elim⟩
end
/-! ### built-in names -/
theorem bt_len : bootBuiltins "len" = some (.builtin "len") := by decide +kernel
theorem bt_min : bootBuiltins "min" = some (.builtin "min") := by decide +kernel
theorem bt_max : bootBuiltins "max" = some (.builtin "max") := by decide +kernel
theorem bt_abs : bootBuiltins "abs" = some (.builtin "abs") := by decide +kernel
theorem bt_sum : bootBuiltins "sum" = some (.builtin "sum") := by decide +kernel
theorem bt_all : bootBuiltins "all" = some (.builtin "all") := by decide +kernel
theorem bt_any : bootBuiltins "any" = some (.builtin "any") := by decide +kernel
theorem bt_isinstance : bootBuiltins "isinstance" = some (.builtin "isinstance") := by decide +kernel
theorem bt_int : bootBuiltins "int" = some (.type "int") := by decide +kernel
theorem bt_str : bootBuiltins "str" = some (.type "str") := by decide +kernel
theorem bt_bool : bootBuiltins "bool" = some (.type "bool") := by decide +kernel
theorem bt_list : bootBuiltins "list" = some (.type "list") := by decide +kernel
theorem bt_tuple : bootBuiltins "tuple" = some (.type "tuple") := by decide +kernel
theorem bt_dict : bootBuiltins "dict" = some (.type "dict") := by decide +kernel
end TP
/-! TPi: what the printed proofs use besides. -/
namespace TP
open PySem L2
section
variable {K : PySem.W.Frag} {E : Wish} {X : Cx} {e : Expr}
theorem un_of {A : Around} {k : Nat} (hr : Room k A) : A.units + 200 < cLine := by have := hr.un; omega
def dYes : FB := fun _ M => .ok true M
theorem x_yes : PTs X [] (tT K E dYes) := ⟨fun pins s σ H Q I h => by
  obtain ⟨ρ, w, e1, ok, sr, a⟩ := h
  subst e1
  exact pts_nil.run pins s σ w.H Q I (a w (Step.refl ok) rfl)⟩
theorem x_test2 {r : R2} {g : Store → D → D → Option Slot} {fa fb : FD} (h : PT X e (tTest (tOp r (tR K E fa) (tR K E fb)))) (p : Prim2 K r g) : PT X e (tT K E (dBo (dOp2 g fa fb))) :=
  x_test h fun σ H Q ⟨ρ, w, e1, ok, sr, a⟩ =>
    ⟨ρ, w, e1, ok, sr, a.bind.imp fun x w1 s1 a1 vx rx => ⟨ρ, w1, rfl, s1.ok, sr.step s1, a1.bind.imp fun y w2 s2 a2 vy ry => by
      obtain ⟨s, es, k⟩ := fin_of (s1.trans s2) a2
      exact p w2 vx vy x y s Q s2.ok (rx.step s2) ry es k⟩⟩
theorem x_testC {r r' : R2} {g g' : Store → D → D → Option Slot} {fa fb fc : FD} (h : PT X e (tTest (tChain r r' (tR K E fa) (tR K E fb) (tR K E fc)))) (p : Prim2 K r g) (p' : Prim2 K r' g') : PT X e (tT K E (dBo (dChain g g' fa fb fc))) :=
  x_test h fun σ H Q ⟨ρ, w, e1, ok, sr, a⟩ =>
    ⟨ρ, w, e1, ok, sr, a.bind.imp fun x w1 s1 a1 vx rx => ⟨ρ, w1, rfl, s1.ok, sr.step s1, a1.bind.imp fun y w2 s2 a2 vy ry => by
      split at a2
      · rename_i eg
        refine p w2 vx vy x y _ _ s2.ok (rx.step s2) ry eg fun v w3 s3 e3 rv => ?_
        cases rv
        have s13 := (s1.trans s2).trans s3
        refine ⟨true, rfl, iteT ⟨ρ, w3, rfl, s3.ok, ((sr.step s1).step s2).step s3, ?_⟩⟩
        rw [e3]
        have a3 := a2.later s3
        exact a3.bind.imp fun z w4 s4 a4 vz rz => by
          obtain ⟨s, es, k⟩ := fin_of (s13.trans s4) a4
          exact p' w4 vy vz y z s Q s4.ok ((ry.step s3).step s4) rz es k
      · rename_i eg
        refine p w2 vx vy x y _ _ s2.ok (rx.step s2) ry eg fun v w3 s3 e3 rv => ?_
        cases rv
        exact ⟨false, rfl, iteF (a2 w3 s3 e3 _ (.bl _))⟩
      · exact a2.elim⟩⟩
/-- {} -/
def dNewK : FD := fun _ M => .ok (.ref M.length) (M ++ [.dK []])
theorem x_dnewK (h : PE X e tDNewK) : PE X e (tF K E dNewK) := PE.wk h fun σ H Q ⟨ρ, w, e1, ok, sr, a⟩ => by
  subst e1
  intro d hd
  have s0 := ok.fresh0 hd (.dK [])
  have hG : w.G d = none := ok.sub.free hd
  have ok2 := s0.ok.push (o := .dK []) hG (ok.notA hd) ⟨[], upd_same, .nil⟩
  have a' : ∀ w', Step K w w' → w'.M = w.M ++ [.dK []] → ∀ v, Rep K w'.A w'.G v (.ref w.M.length) → Q v w'.H := a
  refine a' ⟨w.A ++ [d], w.G, w.M ++ [.dK []], upd w.H d (.dK [])⟩ ⟨ok2, List.prefix_append _ _, Same.refl _, fun b o z1 z2 z3 => ?_⟩ rfl _ (.ref ?_)
  · refine ⟨?_, .inl z2, fun hm => (List.mem_append.mp hm).elim z3 fun z => by simp at z; subst z; rw [hd] at z1; cases z1⟩
    show upd w.H d (.dK []) b = some o
    rw [upd_ne (ne_of_none z1 hd)]
    exact z1
  · show (w.A ++ [d])[w.M.length]? = some d
    rw [← ok.len, List.getElem?_append_right (Nat.le_refl _), Nat.sub_self]
    rfl
theorem fn_zero {P : Program} {wo : World} {mg : Str → Option Value} {base : Heap} {f : Addr} {fd : FuncData} {ps : List Str} {n : Nat} (hn : n = ps.length := by rfl) : FnOk P wo K mg base CX0 0 f fd ps (spD K W0 n (fun _ _ => .bad)) :=
  ⟨fun vs H Q EX h => h.1.trans hn, fun A outer s H args us vs Q EX _ _ _ _ h => by
    obtain ⟨_, ds, w, _, _, _, a⟩ := h
    exact a.elim⟩
end
end TP
namespace TP
open PySem L2
/-! ### the top's constants -/
/-- an object of the written part is a tuple of these -/
def valIs (K : PySem.W.Frag) : Nat → Value → D → Bool
  | _, .none, .non => true
  | _, .bool b, .bl c => b == c
  | _, .int i _, .int j => decide (i = j)
  | _, .str x _, .str y => decide (x = y)
  | n + 1, .ref a, .kt ds => match K.lookup a with
    | some o => match o.cls, o.data with
      | .type c, .seq its _ => c == "tuple" && decide (its.size ≤ 1000) && valsIs its.toList ds (valIs K n)
      | _, _ => false
    | none => false
  | _, _, _ => false
where valsIs : List Value → List D → (Value → D → Bool) → Bool
  | [], [], _ => true
  | v :: vs, d :: ds, f => f v d && valsIs vs ds f
  | _, _, _ => false
def tupIs (K : PySem.W.Frag) (n : Nat) (o : Obj) (d : D) : Bool := match d with
  | .kt ds => match o.cls, o.data with
    | .type c, .seq its _ => c == "tuple" && decide (its.size ≤ 1000) && valIs.valsIs its.toList ds (valIs K n)
    | _, _ => false
  | _ => false
section
variable {K : PySem.W.Frag} {A : List Addr} {G : Hp}
theorem valsIs_rep {f : Value → D → Bool} (hf : ∀ v d, f v d = true → ∃ x, RelV x v ∧ Rep K A G x d) : ∀ {vs : List Value} {ds : List D}, valIs.valsIs vs ds f = true → ∃ xs, Vals xs vs ∧ RepL K A G xs ds
  | [], [], _ => ⟨[], .nil, .nil⟩
  | v :: vs, d :: ds, h => by
    unfold valIs.valsIs at h
    rw [Bool.and_eq_true] at h
    obtain ⟨x, h1, h2⟩ := hf v d h.1
    obtain ⟨xs, h3, h4⟩ := valsIs_rep hf h.2
    exact ⟨x :: xs, .cons h1 h3, .cons h2 h4⟩
  | [], _ :: _, h => by cases h
  | _ :: _, [], h => by cases h
theorem valIs_rep : ∀ (n : Nat) (v : Value) (d : D), valIs K n v d = true → ∃ x, RelV x v ∧ Rep K A G x d := by
  intro n
  induction n with
  | zero =>
    intro v d h
    unfold valIs at h
    split at h
    · exact ⟨.non, rfl, .non⟩
    · rw [beq_iff_eq] at h; subst h; exact ⟨.bl _, rfl, .bl _⟩
    · have := of_decide_eq_true h; subst this; exact ⟨.int _, ⟨_, rfl⟩, .int _⟩
    · have := of_decide_eq_true h; subst this; exact ⟨.str _, ⟨_, rfl⟩, .str _⟩
    · exfalso; omega
    · cases h
  | succ n ih =>
    intro v d h
    unfold valIs at h
    split at h
    · exact ⟨.non, rfl, .non⟩
    · rw [beq_iff_eq] at h; subst h; exact ⟨.bl _, rfl, .bl _⟩
    · have := of_decide_eq_true h; subst this; exact ⟨.int _, ⟨_, rfl⟩, .int _⟩
    · have := of_decide_eq_true h; subst this; exact ⟨.str _, ⟨_, rfl⟩, .str _⟩
    · rename_i m a ds q
      cases q
      split at h
      · rename_i o ho
        split at h
        · rename_i c its k hc hd
          simp only [Bool.and_eq_true, decide_eq_true_eq, beq_iff_eq] at h
          obtain ⟨⟨e1, e2⟩, e3⟩ := h
          subst e1
          obtain ⟨xs, h3, h4⟩ := valsIs_rep ih e3
          exact ⟨.ref a, rfl, .kt (.inr ⟨o, its, k, ho, hc, hd, Nat.le_trans e2 (by decide), h3⟩) h4⟩
        · cases h
      · cases h
    · cases h
theorem tupIs_rep {n : Nat} {q : Addr} {o : Obj} {d : D} (ho : K.lookup q = some o) (h : tupIs K n o d = true) : Rep K A G (.ref q) d := by
  unfold tupIs at h
  split at h
  · split at h
    · rename_i c its k hc hd
      simp only [Bool.and_eq_true, decide_eq_true_eq, beq_iff_eq] at h
      obtain ⟨⟨e1, e2⟩, e3⟩ := h
      subst e1
      obtain ⟨xs, h3, h4⟩ := valsIs_rep (valIs_rep n) e3
      exact .kt (.inr ⟨o, its, k, ho, hc, hd, Nat.le_trans e2 (by decide), h3⟩) h4
    · cases h
  · cases h
theorem repL_ints : ∀ ns : List Int, RepL K A G (ns.map V.int) (ns.map D.int)
  | [] => .nil
  | n :: ns => .cons (.int n) (repL_ints ns)
/-- the law's own promise: what it is asked, and True -/
theorem law_sp {H : Hp} {a : Addr} {ns : List Int} {m : Fn} {EX : XK} (hS : SqL K H a (ns.map V.int)) (h : ∃ M, m [.fro (ns.map D.int)] [] = .ok (.val (.bl true)) M) : spD K W0 1 m [.ref a] H (fun v _ => v = .bl true) EX := by
  obtain ⟨M, h⟩ := h
  refine ⟨rfl, [.fro (ns.map D.int)], ⟨[], H, [], H⟩, rfl, ⟨Same.refl _, List.nodup_nil, rfl, (fun a ha => by simp at ha), (fun k o e => by simp at e)⟩, .one (.fro hS (repL_ints ns)), ?_⟩
  show After K E00 _ (m [.fro (ns.map D.int)] []) _
  rw [h]
  intro w' _ _ v rv
  cases rv
  rfl
end
end TP
/-! TPj: dicts. -/
namespace TP
open PySem L2
section
variable {K : PySem.W.Frag} {E : Wish} {X : Cx} {e : Expr} {st : Stmt}
def keyD : D → Option Key
  | .int i => some (.inl i)
  | .str x => some (.inr x)
  | _ => none
def keysD : List D → Option (List Key)
  | [] => some []
  | d :: ds => match keyD d, keysD ds with
    | some k, some ks => some (k :: ks)
    | _, _ => none
section
variable {κ : Type} [DecidableEq κ]
def lookD (kvs : List (κ × D)) (k : κ) : Option D := (kvs.find? fun kv => decide (kv.1 = k)).map (·.2)
def putD (kvs : List (κ × D)) (k : κ) (v : D) : List (κ × D) :=
  if (kvs.any fun kv => decide (kv.1 = k)) = true then kvs.map (fun kv => if kv.1 = k then (kv.1, v) else kv) else kvs ++ [(k, v)]
theorem RepKV.val {R : V → D → Prop} : ∀ {vs : List (κ × V)} {ds : List (κ × D)} (k : κ), RepKV R vs ds → (∀ d, lookD ds k = some d → ∃ v, valV vs k = some v ∧ R v d) ∧ (lookD ds k = none → valV vs k = none)
  | _, _, k, .nil => ⟨fun d h => by simp [lookD] at h, fun _ => rfl⟩
  | (k', v') :: vs, (_, d') :: ds, k, .cons r t => by
    obtain ⟨h1, h2⟩ := RepKV.val k t
    unfold lookD valV at *
    by_cases hk : k' = k
    · refine ⟨fun d h => ?_, fun h => ?_⟩
      · rw [List.find?_cons_of_pos (by simpa using hk)] at h ⊢
        cases h
        exact ⟨v', rfl, r⟩
      · rw [List.find?_cons_of_pos (by simpa using hk)] at h
        cases h
    · rw [List.find?_cons_of_neg (by simpa using hk), List.find?_cons_of_neg (by simpa using hk)]
      exact ⟨h1, h2⟩
theorem RepKV.any {R : V → D → Prop} (p : κ → Bool) : ∀ {vs : List (κ × V)} {ds : List (κ × D)}, RepKV R vs ds → (vs.any fun kv => p kv.1) = ds.any fun kv => p kv.1
  | _, _, .nil => rfl
  | (k', v') :: vs, (_, d') :: ds, .cons r t => by rw [List.any_cons, List.any_cons, RepKV.any p t]
theorem RepKV.mapV {R : V → D → Prop} {v : V} {d : D} (r : R v d) (k : κ) : ∀ {vs : List (κ × V)} {ds : List (κ × D)}, RepKV R vs ds → RepKV R (vs.map fun kv => if kv.1 = k then (kv.1, v) else kv) (ds.map fun kv => if kv.1 = k then (kv.1, d) else kv)
  | _, _, .nil => .nil
  | (k', v') :: vs, (_, d') :: ds, .cons r' t => by
    rw [List.map_cons, List.map_cons]
    by_cases hk : k' = k
    · simp only [hk, if_true]
      exact .cons r (RepKV.mapV r k t)
    · simp only [hk, if_false]
      exact .cons r' (RepKV.mapV r k t)
theorem RepKV.append {R : V → D → Prop} : ∀ {vs us : List (κ × V)} {ds es : List (κ × D)}, RepKV R vs ds → RepKV R us es → RepKV R (vs ++ us) (ds ++ es)
  | _, _, _, _, .nil, s => s
  | _, _, _, _, .cons r t, s => .cons r (RepKV.append t s)
theorem RepKV.put {R : V → D → Prop} {v : V} {d : D} (r : R v d) (k : κ) {vs : List (κ × V)} {ds : List (κ × D)} (h : RepKV R vs ds) : RepKV R (putK vs k v) (putD ds k d) := by
  unfold putK putD
  rw [h.any fun x => decide (x = k)]
  split
  · exact h.mapV r k
  · exact h.append (.cons r .nil)
theorem RepKV.len {R : V → D → Prop} : ∀ {vs : List (κ × V)} {ds : List (κ × D)}, RepKV R vs ds → vs.length = ds.length
  | _, _, .nil => rfl
  | _ :: _, _ :: _, .cons _ t => by rw [List.length_cons, List.length_cons, RepKV.len t]
end
theorem key_at {A : List Addr} {G : Hp} {v : V} {d : D} {k : Key} (r : Rep K A G v d) (h : keyD d = some k) : v = kV k := by
  cases r <;> first | (cases h; rfl) | cases h
theorem keys_at {A : List Addr} {G : Hp} : ∀ {vs : List V} {ds : List D} {ks : List Key}, RepL K A G vs ds → keysD ds = some ks → vs = ks.map kV
  | [], [], _, _, h => by cases h; rfl
  | v :: vs, d :: ds, ks, .cons r t, h => by
    unfold keysD at h
    split at h
    · rename_i k ks' h1 h2
      cases h
      rw [key_at r h1, keys_at t h2]
      rfl
    · cases h
theorem keyB {w : Wd} {v : V} {d : D} {k : Key} (r : RepB K w v d) (h : keyD d = some k) : v = kV k := by
  rcases r with r | ⟨_, _, _, _, rfl, _⟩
  · exact key_at r h
  · cases h
/-- what a dict of the store has at a key: none, where it is no dict or no key -/
def dGetO (M : Store) (x y : D) : Option (Option D) := match x with
  | .ref k => match M[k]? with
    | some (.dK kvs) => (keyD y).map (lookD kvs)
    | some (.dT kvs) => match y with
      | .tup ds => (keysD ds).map (lookD kvs)
      | _ => none
    | _ => none
  | _ => none
theorem dget_at {w : Wd} (ok : w.Ok K) {vx vy : V} {x y : D} {o : Option D} (rx : RepB K w vx x) (ry : RepB K w vy y) (h : dGetO w.M x y = some o) :
    ∃ a ov, vx = .ref a ∧ DGet w.H a vy ov ∧ (∀ d, o = some d → ∃ v, ov = some v ∧ Rep K w.A w.G v d) ∧ (o = none → ov = none) := by
  unfold dGetO at h
  split at h
  · rename_i k
    obtain ⟨a, rfl, ea⟩ := ref_at rx
    split at h
    · rename_i kvs e2
      obtain ⟨a', ea', vs, hH, rk⟩ := ok.mos k _ e2
      rw [ea] at ea'; cases ea'
      cases q : keyD y with
      | none => rw [q] at h; cases h
      | some key =>
        rw [q] at h
        cases h
        obtain ⟨h1, h2⟩ := rk.val key
        refine ⟨a, valV vs key, rfl, ?_, h1, h2⟩
        rw [keyB ry q]
        exact .inl ⟨vs, key, .inl hH, rfl, rfl⟩
    · rename_i kvs e2
      obtain ⟨a', ea', vs, hH, rk⟩ := ok.mos k _ e2
      rw [ea] at ea'; cases ea'
      split at h
      · rename_i ds
        cases q : keysD ds with
        | none => rw [q] at h; cases h
        | some ks =>
          rw [q] at h
          cases h
          obtain ⟨h1, h2⟩ := rk.val ks
          obtain ⟨b, us, rfl, hb, rl⟩ := tupH_at ok ry
          refine ⟨a, valV vs ks, rfl, .inr ⟨vs, ks, b, .inl hH, rfl, ?_, rfl⟩, h1, h2⟩
          rw [← keys_at rl q]
          exact hb
      · cases h
    · cases h
  · cases h
def dgetD (M : Store) (x y : D) : Option Slot := match dGetO M x y with
  | some (some d) => some (.val d)
  | _ => none
theorem p_dget : Prim2 K (fun x y H Q => ∃ a v, x = .ref a ∧ DGet H a y (some v) ∧ Q v H) dgetD := by
  intro w vx vy x y s Q ok rx ry h k
  unfold dgetD at h
  split at h
  · rename_i d e1
    cases h
    obtain ⟨a, ov, rfl, g, h1, _⟩ := dget_at ok rx ry e1
    obtain ⟨v, rfl, rv⟩ := h1 d rfl
    exact ⟨a, v, rfl, g, k v w (Step.refl ok) rfl rv⟩
  · cases h
theorem x_dget {fa fb : FD} (h : PE X e (tDGet (tR K E fa) (tR K E fb))) : PE X e (tE K E (dOp2 dgetD fa fb)) := x_op2 (r := fun x y H Q => ∃ a v, x = .ref a ∧ DGet H a y (some v) ∧ Q v H) h p_dget
def dinD (M : Store) (y x : D) : Option Slot := (dGetO M x y).map fun o => .val (.bl o.isSome)
def dnotInD (M : Store) (y x : D) : Option Slot := (dGetO M x y).map fun o => .val (.bl (!o.isSome))
theorem isSome_at {o : Option D} {ov : Option V} {R : V → D → Prop} (h1 : ∀ d, o = some d → ∃ v, ov = some v ∧ R v d) (h2 : o = none → ov = none) : ov.isSome = o.isSome := by
  cases o with
  | none => rw [h2 rfl]; rfl
  | some d => obtain ⟨v, e, _⟩ := h1 d rfl; rw [e]; rfl
theorem p_din : Prim2 K (fun y x H Q => ∃ a o, x = .ref a ∧ DGet H a y o ∧ Q (.bl o.isSome) H) dinD := by
  intro w vx vy x y s Q ok rx ry h k
  unfold dinD at h
  cases q : dGetO w.M y x with
  | none => rw [q] at h; cases h
  | some o =>
    rw [q] at h
    cases h
    obtain ⟨a, ov, rfl, g, h1, h2⟩ := dget_at ok ry rx q
    refine ⟨a, ov, rfl, g, ?_⟩
    rw [isSome_at h1 h2]
    exact ans ok k fun _ _ => .bl _
theorem p_dnotIn : Prim2 K (fun y x H Q => ∃ a o, x = .ref a ∧ DGet H a y o ∧ Q (.bl (!o.isSome)) H) dnotInD := by
  intro w vx vy x y s Q ok rx ry h k
  unfold dnotInD at h
  cases q : dGetO w.M y x with
  | none => rw [q] at h; cases h
  | some o =>
    rw [q] at h
    cases h
    obtain ⟨a, ov, rfl, g, h1, h2⟩ := dget_at ok ry rx q
    refine ⟨a, ov, rfl, g, ?_⟩
    rw [isSome_at h1 h2]
    exact ans ok k fun _ _ => .bl _
theorem x_din {fa fb : FD} (h : PE X e (tDIn (tR K E fa) (tR K E fb))) : PE X e (tE K E (dOp2 dinD fa fb)) := x_op2 (r := fun y x H Q => ∃ a o, x = .ref a ∧ DGet H a y o ∧ Q (.bl o.isSome) H) h p_din
theorem x_dnotIn {fa fb : FD} (h : PE X e (tDNotIn (tR K E fa) (tR K E fb))) : PE X e (tE K E (dOp2 dnotInD fa fb)) := x_op2 (r := fun y x H Q => ∃ a o, x = .ref a ∧ DGet H a y o ∧ Q (.bl (!o.isSome)) H) h p_dnotIn
/-- as tests -/
theorem xt_din {fa fb : FD} (h : PT X e (tB (tDIn (tR K E fa) (tR K E fb)))) : PT X e (tT K E (dBo (dOp2 dinD fa fb))) := x_test2 (r := fun y x H Q => ∃ a o, x = .ref a ∧ DGet H a y o ∧ Q (.bl o.isSome) H) h p_din
theorem xt_dnotIn {fa fb : FD} (h : PT X e (tB (tDNotIn (tR K E fa) (tR K E fb)))) : PT X e (tT K E (dBo (dOp2 dnotInD fa fb))) := x_test2 (r := fun y x H Q => ∃ a o, x = .ref a ∧ DGet H a y o ∧ Q (.bl (!o.isSome)) H) h p_dnotIn
/-- d.get(k, x) -/
def isDD (M : Store) (x : D) : Bool := match x with
  | .ref k => match M[k]? with
    | some (.dK _) => true
    | some (.dT _) => true
    | _ => false
  | _ => false
theorem isD_at' {w : Wd} (ok : w.Ok K) {v : V} {x : D} (r : RepB K w v x) (h : isDD w.M x = true) : ∃ a, v = .ref a ∧ IsD w.H a := by
  unfold isDD at h
  split at h
  · rename_i k
    obtain ⟨a, rfl, ea⟩ := ref_at r
    refine ⟨a, rfl, ?_⟩
    split at h
    · rename_i kvs e2
      obtain ⟨a', ea', vs, hH, rk⟩ := ok.mos k _ e2
      rw [ea] at ea'; cases ea'
      exact .inl ⟨vs, .inl hH⟩
    · rename_i kvs e2
      obtain ⟨a', ea', vs, hH, rk⟩ := ok.mos k _ e2
      rw [ea] at ea'; cases ea'
      exact .inr ⟨vs, .inl hH⟩
    · cases h
  · cases h
def dGet2 (fo fk fd : FD) : FD := fun ρ M => (fo ρ M).bind fun x M => if isDD M x then (fk ρ M).bind fun y M => (fd ρ M).bind fun z M => match dGetO M x y with
  | some o => .ok (o.getD z) M
  | none => .bad else .bad
theorem x_dget2 {fo fk fd : FD} (h : PE X e (tDGet2 (tR K E fo) (tR K E fk) (tF K E fd))) : PE X e (tF K E (dGet2 fo fk fd)) := PE.wk h fun σ H Q ⟨ρ, w, e1, ok, sr, a⟩ =>
  ⟨ρ, w, e1, ok, sr, a.bind.imp fun x w1 s1 a1 vx rx => by
    split at a1
    · rename_i hd
      obtain ⟨p, rfl, ip⟩ := isD_at' s1.ok rx hd
      refine ⟨p, rfl, ip, ρ, w1, rfl, s1.ok, sr.step s1, a1.bind.imp fun y w2 s2 a2 vy ry => ⟨ρ, w2, rfl, s2.ok, (sr.step s1).step s2, a2.bind.imp fun z w3 s3 a3 vz rz => ?_⟩⟩
      split at a3
      · rename_i o eo
        obtain ⟨p', ov, e2, g, h1, h2⟩ := dget_at s3.ok ((rx.step s2).step s3) (ry.step s3) eo
        cases e2
        refine ⟨ov, g, ?_⟩
        cases o with
        | none => rw [h2 rfl]; exact a3 w3 (Step.refl s3.ok) rfl _ rz
        | some d => obtain ⟨v, e3, rv⟩ := h1 d rfl; rw [e3]; exact a3 w3 (Step.refl s3.ok) rfl _ rv
      · exact a3.elim
    · exact a1.elim⟩
def dGet1 (fo fk : FD) : FD := fun ρ M => (fo ρ M).bind fun x M => if isDD M x then (fk ρ M).bind fun y M => match dGetO M x y with
  | some o => .ok (o.getD .non) M
  | none => .bad else .bad
theorem x_dget1 {fo fk : FD} (h : PE X e (tDGet1 (tR K E fo) (tR K E fk))) : PE X e (tF K E (dGet1 fo fk)) := PE.wk h fun σ H Q ⟨ρ, w, e1, ok, sr, a⟩ =>
  ⟨ρ, w, e1, ok, sr, a.bind.imp fun x w1 s1 a1 vx rx => by
    split at a1
    · rename_i hd
      obtain ⟨p, rfl, ip⟩ := isD_at' s1.ok rx hd
      refine ⟨p, rfl, ip, ρ, w1, rfl, s1.ok, sr.step s1, a1.bind.imp fun y w2 s2 a2 vy ry => ?_⟩
      split at a2
      · rename_i o eo
        obtain ⟨p', ov, e2, g, h1, h2⟩ := dget_at s2.ok (rx.step s2) ry eo
        cases e2
        refine ⟨ov, g, ?_⟩
        cases o with
        | none => rw [h2 rfl]; exact a2 w2 (Step.refl s2.ok) rfl _ .non
        | some d => obtain ⟨v, e3, rv⟩ := h1 d rfl; rw [e3]; exact a2 w2 (Step.refl s2.ok) rfl _ rv
      · exact a2.elim
    · exact a1.elim⟩
/-- d[k] = v -/
def dPutM (M : Store) (x y z : D) : Option Store := match x with
  | .ref k => match M[k]? with
    | some (.dK kvs) => match keyD y with
      | some key => if kvs.length < sizeLine then some (M.set k (.dK (putD kvs key z))) else none
      | none => none
    | some (.dT kvs) => match y with
      | .tup ds => match keysD ds with
        | some ks => if kvs.length < sizeLine then some (M.set k (.dT (putD kvs ks z))) else none
        | none => none
      | _ => none
    | _ => none
  | _ => none
def sPutD (f fo fi : FD) : FS := fun ρ M => (f ρ M).out fun z M => (fo ρ M).out fun x M => (fi ρ M).out fun y M => match dPutM M x y z with
  | some M' => .next ρ M'
  | none => .bad
theorem dput_at {w : Wd} (ok : w.Ok K) {vx vy vz : V} {x y z : D} {M' : Store} (rx : RepB K w vx x) (ry : RepB K w vy y) (rz : Rep K w.A w.G vz z) (h : dPutM w.M x y z = some M') :
    ∃ a w', vx = .ref a ∧ DPut w.H a vy vz w'.H ∧ Step K w w' ∧ w'.M = M' := by
  unfold dPutM at h
  split at h
  · rename_i k
    obtain ⟨a, rfl, ea⟩ := ref_at rx
    split at h
    · rename_i kvs e2
      obtain ⟨a', ea', vs, hH, rk⟩ := ok.mos k _ e2
      rw [ea] at ea'; cases ea'
      split at h
      · rename_i key q
        split at h
        · rename_i hz
          cases h
          refine ⟨a, ⟨w.A, w.G, w.M.set k (.dK (putD kvs key z)), upd w.H a (.dK (putK vs key vz))⟩, rfl, .inl ⟨vs, key, hH, keyB ry q, by rw [rk.len]; exact hz, rfl⟩, ok.put ea ⟨_, upd_same, rk.put rz key⟩, rfl⟩
        · cases h
      · cases h
    · rename_i kvs e2
      obtain ⟨a', ea', vs, hH, rk⟩ := ok.mos k _ e2
      rw [ea] at ea'; cases ea'
      split at h
      · rename_i ds
        split at h
        · rename_i ks q
          split at h
          · rename_i hz
            cases h
            obtain ⟨b, us, rfl, hb, rl⟩ := tupH_at ok ry
            refine ⟨a, ⟨w.A, w.G, w.M.set k (.dT (putD kvs ks z)), upd w.H a (.dT (putK vs ks vz))⟩, rfl, .inr ⟨vs, ks, b, hH, rfl, by rw [← keys_at rl q]; exact hb, by rw [rk.len]; exact hz, rfl⟩, ok.put ea ⟨_, upd_same, rk.put rz ks⟩, rfl⟩
          · cases h
        · cases h
      · cases h
    · cases h
  · cases h
theorem s_putD {f fo fi : FD} (h : PS X st (sDPut (tR K E fo) (tR K E fi) (tF K E f))) : PS X st (tS K E (sPutD f fo fi)) := PS.wk h fun D σ H ⟨ρ, w, w0, e1, s, sr, of, p⟩ =>
  ⟨ρ, w, e1, s.ok, sr, (out_after s p).imp fun z w1 s1 p1 vz rz => ⟨ρ, w1, rfl, s1.ok, sr.step s1, (out_after (s.trans s1) p1).imp fun x w2 s2 p2 vx rx => ⟨ρ, w2, rfl, s2.ok, (sr.step s1).step s2, (out_after ((s.trans s1).trans s2) p2).imp fun y w3 s3 p3 vy ry => by
    split at p3
    · rename_i M' em
      obtain ⟨a, w4, rfl, dp, s4, e4⟩ := dput_at s3.ok (rx.step s3) ry ((s2.trans s3).rep rz) em
      refine ⟨a, w4.H, rfl, dp, ?_⟩
      exact p3 w4 σ ((((s.trans s1).trans s2).trans s3).trans s4) s4.le e4 ((((sr.step s1).step s2).step s3).step s4) of
    · exact p3.elim⟩⟩⟩
/-- {} with tuple keys -/
def dNewT : FD := fun _ M => .ok (.ref M.length) (M ++ [.dT []])
theorem new_obj {w : Wd} (ok : w.Ok K) {d : Addr} (hd : w.H d = none) {o : HO} {m : MO} (hm : MoR K ⟨w.A, w.G, w.M, upd w.H d o⟩ d m) : Step K w ⟨w.A ++ [d], w.G, w.M ++ [m], upd w.H d o⟩ ∧ (w.A ++ [d])[w.M.length]? = some d := by
  have s0 := ok.fresh0 hd o
  have hG : w.G d = none := ok.sub.free hd
  have ok2 := s0.ok.push (o := m) hG (ok.notA hd) hm
  refine ⟨⟨ok2, List.prefix_append _ _, Same.refl _, fun b o' z1 z2 z3 => ?_⟩, ?_⟩
  · refine ⟨?_, .inl z2, fun hm => (List.mem_append.mp hm).elim z3 fun z => by simp at z; subst z; rw [hd] at z1; cases z1⟩
    show upd w.H d o b = some o'
    rw [upd_ne (ne_of_none z1 hd)]
    exact z1
  · rw [← ok.len, List.getElem?_append_right (Nat.le_refl _), Nat.sub_self]
    rfl
theorem x_dnewT (h : PE X e tDNewT) : PE X e (tF K E dNewT) := PE.wk h fun σ H Q ⟨ρ, w, e1, ok, sr, a⟩ => by
  subst e1
  intro d hd
  obtain ⟨st, hA⟩ := new_obj (o := .dT []) (m := .dT []) ok hd ⟨[], upd_same, .nil⟩
  have a' : ∀ w', Step K w w' → w'.M = w.M ++ [.dT []] → ∀ v, Rep K w'.A w'.G v (.ref w.M.length) → Q v w'.H := a
  exact a' _ st rfl _ (.ref hA)
/-! ### a display with keys that are texts -/
def tPrs (ks : List Str) (fs : List TE) : List (TE × TE) := ks.zipWith (fun k f => (tC (.str k), f)) fs
/-- the values, in order -/
def dVals : List FD → FL
  | [] => dNil
  | f :: fs => dCons f (dVals fs)
def mergeD (ks : List Str) (ds : List D) : List (Key × D) := (ks.zip ds).foldl (fun acc kv => putD acc (Sum.inr kv.1) kv.2) []
def dDisp (ks : List Str) (fs : List FD) : FD := fun ρ M => (dVals fs ρ M).bind fun ds M => if ds.length = ks.length ∧ ks.length ≤ 15 then .ok (.ref M.length) (M ++ [.dK (mergeD ks ds)]) else .bad
theorem pairs_ok {σ : L2.St} {ρ : EnvD} : ∀ (ks : List Str) (fs : List FD) (w w0 : Wd) (Q : List (V × V) → Hp → Prop), ks.length = fs.length → Step K w0 w → SR K w ρ σ →
    After K E w (dVals fs ρ w.M) (fun ds w' => ∀ vs, RepL K w'.A w'.G vs ds → Q (ks.zipWith (fun k v => (V.str k, v)) vs) w'.H) → tPairs (tPrs ks (fs.map (tF K E))) σ w.H Q
  | [], [], w, w0, Q, _, s, sr, a => by
    have a' : ∀ w', Step K w w' → w'.M = w.M → ∀ vs, RepL K w'.A w'.G vs [] → Q ([].zipWith (fun k v => (V.str k, v)) vs) w'.H := a
    exact a' w (Step.refl s.ok) rfl [] .nil
  | k :: ks, f :: fs, w, w0, Q, hl, s, sr, a => by
    refine ⟨ρ, w, rfl, s.ok, sr, ?_⟩
    have a1 : After K E w (dCons f (dVals fs) ρ w.M) _ := a
    refine a1.bind.imp fun d w1 s1 a2 v rv => ?_
    refine pairs_ok ks fs w1 w0 _ (by simpa using hl) (s.trans s1) (sr.step s1) (a2.bind.imp fun ds w2 s2 a3 vs rvs => ?_)
    exact a3 w2 (Step.refl s2.ok) rfl (v :: vs) (.cons (s2.rep rv) rvs)
  | [], _ :: _, _, _, _, hl, _, _, _ => by cases hl
  | _ :: _, [], _, _, _, hl, _, _, _ => by cases hl
theorem merge_rep {R : V → D → Prop} : ∀ (ks : List Str) (vs : List V) (ds : List D) (av : List (Key × V)) (ad : List (Key × D)), (∀ (i : Nat) (v : V), vs[i]? = some v → ∃ d, ds[i]? = some d ∧ R v d) → vs.length = ds.length → RepKV R av ad →
    RepKV R (mergeK av ((ks.zip vs).map fun kv => ((Sum.inr kv.1 : Key), kv.2))) ((ks.zip ds).foldl (fun acc kv => putD acc (Sum.inr kv.1) kv.2) ad)
  | [], _, _, _, _, _, _, h => by simpa [mergeK] using h
  | k :: ks, [], [], av, ad, _, _, h => by simpa [mergeK] using h
  | k :: ks, v :: vs, d :: ds, av, ad, hr, hl, h => by
    obtain ⟨d', e, r⟩ := hr 0 v rfl
    cases e
    have := merge_rep ks vs ds (putK av (Sum.inr k) v) (putD ad (Sum.inr k) d) (fun i x hx => by
      obtain ⟨y, h1, h2⟩ := hr (i + 1) x (by simpa using hx)
      exact ⟨y, by simpa using h1, h2⟩) (by simpa using hl) (h.put r (Sum.inr k))
    simpa [mergeK] using this
  | k :: ks, [], _ :: _, _, _, _, hl, _ => by cases hl
  | k :: ks, _ :: _, [], _, _, _, hl, _ => by cases hl
theorem zip_pairs : ∀ (ks : List Str) (vs : List V), ks.zipWith (fun k v => (V.str k, v)) vs = ((ks.zip vs).map fun kv => ((Sum.inr kv.1 : Key), kv.2)).map fun kv => (kV kv.1, kv.2)
  | [], _ => rfl
  | _ :: _, [] => rfl
  | k :: ks, v :: vs => by rw [List.zipWith_cons_cons, zip_pairs ks vs]; rfl
theorem x_disp {ks : List Str} {fs : List FD} (hl : ks.length = fs.length) (h : PE X e (tDisp (tPrs ks (fs.map (tF K E))))) : PE X e (tF K E (dDisp ks fs)) := PE.wk h fun σ H Q ⟨ρ, w, e1, ok, sr, a⟩ => by
  subst e1
  intro p hp
  have s0 := ok.fresh0 hp (.dK [])
  have hG : w.G p = none := ok.sub.free hp
  have hA := ok.notA hp
  refine pairs_ok ks fs ⟨w.A, w.G, w.M, upd w.H p (.dK [])⟩ w _ hl s0 (sr.step s0) ?_
  have a1 := (show After K E w ((dVals fs ρ w.M).bind _) _ from a).bind
  cases q : dVals fs ρ w.M with
  | bad => rw [q] at a1; exact a1
  | exc c d M => rw [q] at a1; exact fun w' s' e => a1 w' (s0.trans s') e
  | ok ds M =>
    rw [q] at a1
    intro w1 s1 eM vs rvs
    have s01 := s0.trans s1
    obtain ⟨k1, k2, k3⟩ := s1.keepN p (.dK []) upd_same hG hA
    have a2 := (show After K E w (dDisp ks fs ρ w.M) _ from a)
    have ed : dDisp ks fs ρ w.M = if ds.length = ks.length ∧ ks.length ≤ 15 then .ok (.ref M.length) (M ++ [.dK (mergeD ks ds)]) else .bad := by unfold dDisp; rw [q]; rfl
    rw [ed] at a2
    split at a2
    · rename_i hc
      refine ⟨k1, (ks.zip vs).map fun kv => ((Sum.inr kv.1 : Key), kv.2), zip_pairs ks vs, by simp; omega, ?_⟩
      have hrep : RepKV (Rep K w1.A w1.G) (mergeK [] ((ks.zip vs).map fun kv => ((Sum.inr kv.1 : Key), kv.2))) (mergeD ks ds) :=
        merge_rep ks vs ds [] [] (fun i v hv => rvs.get' hv) rvs.length .nil
      have okA := setOwn_ok (o := .dK (mergeK [] ((ks.zip vs).map fun kv => ((Sum.inr kv.1 : Key), kv.2)))) s1.ok k1 k2 k3
      have ok2 := okA.push (o := .dK (mergeD ks ds)) k2 k3 ⟨_, upd_same, hrep⟩
      have a3 : ∀ w', Step K w w' → w'.M = M ++ [.dK (mergeD ks ds)] → ∀ v, Rep K w'.A w'.G v (.ref M.length) → Q v w'.H := a2
      refine a3 ⟨w1.A ++ [p], w1.G, w1.M ++ [.dK (mergeD ks ds)], upd w1.H p (.dK (mergeK [] ((ks.zip vs).map fun kv => ((Sum.inr kv.1 : Key), kv.2))))⟩ ⟨ok2, s01.pre.trans (List.prefix_append _ _), s01.fro, fun b o z1 z2 z3 => ?_⟩ (by rw [eM]) _ (.ref ?_)
      · obtain ⟨c1, c2, c3⟩ := s01.keep b o z1 z2 z3
        refine ⟨?_, c2, fun hm => (List.mem_append.mp hm).elim c3 fun z => by simp at z; subst z; rw [hp] at z1; cases z1⟩
        show upd w1.H p _ b = some o
        rw [upd_ne (ne_of_none z1 hp)]
        exact c1
      · show (w1.A ++ [p])[M.length]? = some p
        have hl := s1.ok.len
        rw [eM] at hl
        rw [← hl, List.getElem?_append_right (Nat.le_refl _), Nat.sub_self]
        rfl
    · exact a2.elim
/-! ### a dict of the top, its keys texts -/
def tabFind (tab : List (Str × D)) (z : Str) : Option D := (tab.find? fun kv => decide (kv.1 = z)).map (·.2)
def dTab (tab : List (Str × D)) (f : FD) : FD := fun ρ M => (f ρ M).bind fun y M => match y with
  | .str z => R.of (tabFind tab z) M
  | _ => .bad
structure TabOk (K : PySem.W.Frag) (w : World) (q : Addr) (tab : List (Str × D)) : Prop where
  at_ : ∀ z d, tabFind tab z = some d → ∃ v, KDct K w q z v ∧ ∀ A G, Rep K A G v d
theorem x_tab {q : Addr} {tab : List (Str × D)} {f : FD} (T : TabOk X.K X.w q tab) (hK : X.K = K) (h : PE X e (tOp (rIxD X.K X.w) (tC (.ref q)) (tR K E f))) : PE X e (tF K E (dTab tab f)) := PE.wk h fun σ H Q ⟨ρ, w, e1, ok, sr, a⟩ => by
  subst e1
  refine ⟨ρ, w, rfl, ok, sr, a.bind.imp fun y w1 s1 a1 vy ry => ?_⟩
  split at a1
  · rename_i z
    obtain ⟨d, ed, k⟩ := a1.of (Step.refl s1.ok) rfl
    obtain ⟨v, kd, rv⟩ := T.at_ z d ed
    exact ⟨q, z, v, rfl, str_at ry, kd, k v (hK ▸ rv _ _)⟩
  · exact a1.elim
def tabIs (K : PySem.W.Frag) (q : Addr) (tab : List (Str × D)) : Bool := tab.all fun kv => match PySem.W.nsIn K q kv.1 with
  | some (some u) => valIs K 9 u kv.2
  | _ => false
theorem tab_ok {w : World} {q : Addr} {tab : List (Str × D)} {es : Array DictEntry} {n : Nat} (hl : K.lookup q = some ⟨.type "dict", none, .dict es n, #[]⟩) (hk : PySem.W.KeysLit w.params es.toList) (ht : tabIs K q tab = true) : TabOk K w q tab := by
  refine ⟨fun z d h => ?_⟩
  unfold tabFind at h
  cases q1 : tab.find? fun kv => decide (kv.1 = z) with
  | none => rw [q1] at h; cases h
  | some kv =>
    rw [q1] at h
    cases h
    have hm := List.mem_of_find?_eq_some q1
    have hz : kv.1 = z := by have := List.find?_some q1; simpa using this
    have h1 := List.all_eq_true.mp ht kv hm
    subst hz
    split at h1
    · rename_i u hu
      obtain ⟨x, rx, _⟩ := valIs_rep (K := K) (A := []) (G := fun _ => none) 9 u kv.2 h1
      refine ⟨x, ⟨es, n, u, hl, hk, hu, rx⟩, fun A G => ?_⟩
      obtain ⟨x', rx', rp⟩ := valIs_rep (K := K) (A := A) (G := G) 9 u kv.2 h1
      rw [rx.inj rx']
      exact rp
    · cases h1
end
end TP
/-! TPm: reckoning with the mirrors. -/
namespace TP
open PySem L2
@[simp] theorem R.bind_ok {α β : Type} (a : α) (M : Store) (f : α → Store → R β) : (R.ok a M).bind f = f a M := rfl
@[simp] theorem R.map_ok {α β : Type} (a : α) (M : Store) (f : α → β) : (R.ok a M).map f = .ok (f a) M := rfl
@[simp] theorem R.out_ok {α : Type} (a : α) (M : Store) (f : α → Store → Out) : (R.ok a M).out f = f a M := rfl
@[simp] theorem R.of_some {α : Type} (a : α) (M : Store) : R.of (some a) M = .ok a M := rfl
@[simp] theorem szL : sizeLine = 16777216 := sizeLine_eq
@[simp] theorem Slot.d_val (d : D) : (Slot.val d).d = d := rfl
@[simp] theorem Slot.d_own (ds : List D) : (Slot.own ds).d = .lst ds := rfl
@[simp] theorem sNil_eq (ρ : EnvD) (M : Store) : sNil ρ M = .next ρ M := rfl
@[simp] theorem dC_eq (d : D) (ρ : EnvD) (M : Store) : dC d ρ M = .ok d M := rfl
@[simp] theorem dNil_eq (ρ : EnvD) (M : Store) : dNil ρ M = .ok [] M := rfl
@[simp] theorem dYes_eq (ρ : EnvD) (M : Store) : dYes ρ M = .ok true M := rfl

/-! ### what the pieces do, for simp -/
section
variable (ρ : EnvD) (M : Store)
@[simp] theorem dVar_eq (i : Nat) : dVar i ρ M = match ρ[i]? with
  | some (.val d) => .ok d M
  | _ => .bad := rfl
@[simp] theorem dVarB_eq (i : Nat) : dVarB i ρ M = match ρ[i]? with
  | some (.val d) => .ok d M
  | some (.own ds) => .ok (.lst ds) M
  | _ => .bad := rfl
@[simp] theorem dEF_eq (f : FE) : dEF f ρ M = (f ρ M).map Slot.d := rfl
@[simp] theorem dFE_eq (f : FD) : dFE f ρ M = (f ρ M).map Slot.val := rfl
@[simp] theorem dOp1_eq (g : Store → D → Option Slot) (f : FD) : dOp1 g f ρ M = (f ρ M).bind fun x M => R.of (g M x) M := rfl
@[simp] theorem dOp2_eq (g : Store → D → D → Option Slot) (fa fb : FD) : dOp2 g fa fb ρ M = (fa ρ M).bind fun x M => (fb ρ M).bind fun y M => R.of (g M x y) M := rfl
@[simp] theorem dPr_eq (g : Store → List D → Option Slot) (fs : FL) : dPr g fs ρ M = (fs ρ M).bind fun ds M => R.of (g M ds) M := rfl
@[simp] theorem dCons_eq (f : FD) (fs : FL) : dCons f fs ρ M = (f ρ M).bind fun d M => (fs ρ M).bind fun ds M => .ok (d :: ds) M := rfl
@[simp] theorem dTup_eq (fs : FL) : dTup fs ρ M = (fs ρ M).bind fun ds M => if ds.length ≤ sizeLine then .ok (.tup ds) M else .bad := rfl
@[simp] theorem dLst_eq (fs : FL) : dLst fs ρ M = (fs ρ M).bind fun ds M => if ds.length ≤ sizeLine then .ok (.own ds) M else .bad := rfl
@[simp] theorem dTru_eq (f : FD) : dTru f ρ M = (f ρ M).bind fun x M => R.of (truD M x) M := rfl
@[simp] theorem dBo_eq (f : FE) : dBo f ρ M = (f ρ M).bind fun x M => R.of (boD x.d) M := rfl
@[simp] theorem dNot_eq (f : FB) : dNot f ρ M = (f ρ M).map fun b => !b := rfl
@[simp] theorem dAnd_eq (f g : FB) : dAnd f g ρ M = (f ρ M).bind fun b M => if b then g ρ M else .ok false M := rfl
@[simp] theorem dOr_eq (f g : FB) : dOr f g ρ M = (f ρ M).bind fun b M => if b then .ok true M else g ρ M := rfl
@[simp] theorem dIf_eq (c : FB) (f g : FE) : dIf c f g ρ M = (c ρ M).bind fun b M => if b then f ρ M else g ρ M := rfl
@[simp] theorem dAndV_eq (f g : FE) : dAndV f g ρ M = (f ρ M).bind fun x M => match x with
  | .val (.bl true) => g ρ M
  | .val (.bl false) => .ok (.val (.bl false)) M
  | _ => .bad := rfl
@[simp] theorem dOrV_eq (f g : FE) : dOrV f g ρ M = (f ρ M).bind fun x M => match x with
  | .val (.bl true) => .ok (.val (.bl true)) M
  | .val (.bl false) => g ρ M
  | _ => .bad := rfl
@[simp] theorem dNotV_eq (f : FE) : dNotV f ρ M = (f ρ M).bind fun x M => match x with
  | .val (.bl b) => .ok (.val (.bl (!b))) M
  | _ => .bad := rfl
@[simp] theorem dMeth_eq (T : String) (g : Store → D → List D → Option Slot) (fo : FD) (fs : FL) : dMeth T g fo fs ρ M = (fo ρ M).bind fun x M => if tyD M x = some T then (fs ρ M).bind fun ds M => R.of (g M x ds) M else .bad := rfl
@[simp] theorem dMeth0_eq (T : String) (g : Store → D → List D → Option Slot) (fo : FD) : dMeth0 T g fo ρ M = (fo ρ M).bind fun x M => if tyD M x = some T then R.of (g M x []) M else .bad := rfl
@[simp] theorem dNo_eq : dNo ρ M = .ok none M := rfl
@[simp] theorem dSo_eq (f : FD) : dSo f ρ M = (f ρ M).bind fun x M => match x with
  | .int i => .ok (some i) M
  | _ => .bad := rfl
@[simp] theorem dSl_eq (g : Store → D → Option Int → Option Int → Option Slot) (f : FD) (lo hi : FO) : dSl g f lo hi ρ M = (f ρ M).bind fun x M => (lo ρ M).bind fun l M => (hi ρ M).bind fun u M => R.of (g M x l u) M := rfl
@[simp] theorem dCall_eq (n : Nat) (m : Fn) (fs : FL) : dCall n m fs ρ M = (fs ρ M).bind fun ds M => if ds.length = n then m ds M else .bad := rfl
@[simp] theorem dIt_eq (f : FD) : dIt f ρ M = (f ρ M).bind fun x M => R.of (itemsD x) M := rfl
@[simp] theorem dRng1_eq (fs : FL) : dRng1 fs ρ M = (fs ρ M).bind fun ds M => R.of (rng1D ds) M := rfl
@[simp] theorem dRng2_eq (fs : FL) : dRng2 fs ρ M = (fs ρ M).bind fun ds M => R.of (rng2D ds) M := rfl
@[simp] theorem dEnum_eq (fs : FL) : dEnum fs ρ M = (fs ρ M).bind fun ds M => match ds with
  | [.lst es] => .ok (enumL es) M
  | [.fro es] => .ok (enumL es) M
  | _ => .bad := rfl
@[simp] theorem dZip_eq (fs : FL) : dZip fs ρ M = (fs ρ M).bind fun ds M => match ds with
  | [.lst xs, .lst ys] => .ok (zipL xs ys) M
  | [.tup xs, .tup ys] => .ok (zipL xs ys) M
  | _ => .bad := rfl
@[simp] theorem dRev_eq (f : FD) : dRev f ρ M = (f ρ M).bind fun d M => match d with
  | .lst xs => .ok xs.reverse M
  | .fro xs => .ok xs.reverse M
  | .tup xs => .ok xs.reverse M
  | _ => .bad := rfl
@[simp] theorem dLc_eq (fi : FL) (b : D → EnvD → Option EnvD) (c : FB) (f : FD) (vs : List Nat) : dLc fi b c f vs ρ M = (fi ρ M).bind fun items M => (lcGo b c f (wipeD ρ vs) items [] M).map Slot.own := rfl
@[simp] theorem dChain_eq (g g' : Store → D → D → Option Slot) (fa fb fc : FD) : dChain g g' fa fb fc ρ M = (fa ρ M).bind fun x M => (fb ρ M).bind fun y M => match g M x y with
  | some (.val (.bl true)) => (fc ρ M).bind fun z M => R.of (g' M y z) M
  | some (.val (.bl false)) => .ok (.val (.bl false)) M
  | _ => .bad := rfl
@[simp] theorem dRef_eq (f : FE) : dRef f ρ M = (f ρ M).bind fun x M => match x with
  | .own ds => .ok (.val (.ref M.length)) (M ++ [.lst ds])
  | _ => .bad := rfl
@[simp] theorem dNewK_eq : dNewK ρ M = .ok (.ref M.length) (M ++ [.dK []]) := rfl
@[simp] theorem bName_eq (i : Nat) (d : D) : bName i d ρ = some (ρ.set i (.val d)) := rfl
@[simp] theorem sSeq_eq (g h : FS) : sSeq g h ρ M = match g ρ M with
  | .next ρ M => h ρ M
  | o => o := rfl
@[simp] theorem sExpr_eq (f : FE) : sExpr f ρ M = (f ρ M).out fun _ M => .next ρ M := rfl
@[simp] theorem sRet_eq (f : FE) : sRet f ρ M = (f ρ M).out fun x M => .ret x M := rfl
@[simp] theorem sRetN_eq : sRetN ρ M = .ret (.val .non) M := rfl
@[simp] theorem sRetV_eq (i : Nat) : sRetV i ρ M = match ρ[i]? with
  | some (.val d) => .ret (.val d) M
  | some (.own ds) => .ret (.own ds) M
  | _ => .bad := rfl
@[simp] theorem sSet_eq (i : Nat) (f : FE) : sSet i f ρ M = (f ρ M).out fun x M => match x with
  | .un => .bad
  | x => .next (ρ.set i x) M := rfl
@[simp] theorem sAsg_eq (b : D → EnvD → Option EnvD) (f : FD) : sAsg b f ρ M = (f ρ M).out fun x M => match b x ρ with
  | some ρ' => .next ρ' M
  | none => .bad := rfl
@[simp] theorem sPar_eq (i j : Nat) (fs : FL) : sPar i j fs ρ M = (fs ρ M).out fun ds M => match ds with
  | [x, y] => .next ((ρ.set i (.val x)).set j (.val y)) M
  | _ => .bad := rfl
@[simp] theorem sIf_eq (c : FB) (g h : FS) : sIf c g h ρ M = (c ρ M).out fun b M => if b then g ρ M else h ρ M := rfl
@[simp] theorem sFor_eq (fi : FL) (b : D → EnvD → Option EnvD) (body : FS) : sFor fi b body ρ M = (fi ρ M).out fun items M => forGo b body items ρ M := rfl
@[simp] theorem sApp_eq (i : Nat) (f : FD) : sApp i f ρ M = match ρ[i]? with
  | some (.own ds) => (f ρ M).out fun d M => if ds.length < sizeLine then .next (ρ.set i (.own (ds ++ [d]))) M else .bad
  | _ => .bad := rfl
@[simp] theorem sExt_eq (i : Nat) (f : FD) : sExt i f ρ M = match ρ[i]? with
  | some (.own ds) => (f ρ M).out fun d M => match lstOf M d with
    | some es => if ds.length + es.length ≤ sizeLine then .next (ρ.set i (.own (ds ++ es))) M else .bad
    | none => .bad
  | _ => .bad := rfl
@[simp] theorem sFz_eq (i : Nat) (g : FS) : sFz i g ρ M = match ρ[i]? with
  | some (.own ds) => g (ρ.set i (.val (.lst ds))) M
  | _ => g ρ M := rfl
@[simp] theorem sAug_eq (i : Nat) (g : Store → D → D → Option Slot) (f : FD) : sAug i g f ρ M = match ρ[i]? with
  | some (.val x) => (f ρ M).out fun y M => match g M x y with
    | some (.val z) => .next (ρ.set i (.val z)) M
    | _ => .bad
  | _ => .bad := rfl
@[simp] theorem sPutR_eq (f fo fi : FD) : sPutR f fo fi ρ M = (f ρ M).out fun x M => (fo ρ M).out fun o M => (fi ρ M).out fun i M => match o, i with
  | .ref k, .int j => match M[k]? with
    | some (.lst ds) => match ixN ds.length j with
      | some n => .next ρ (M.set k (.lst (ds.set n x)))
      | none => .bad
    | _ => .bad
  | _, _ => .bad := rfl
end
/-! ### primitives -/
section
variable (M : Store)
@[simp] theorem addD_int (i j : Int) : addD M (.int i) (.int j) = some (.val (.int (i + j))) := rfl
@[simp] theorem subD_int (i j : Int) : subD M (.int i) (.int j) = some (.val (.int (i - j))) := rfl
@[simp] theorem mulD_int (i j : Int) : mulD M (.int i) (.int j) = if mulOk i j then some (.val (.int (i * j))) else none := rfl
@[simp] theorem fdivD_int (i j : Int) : fdivD M (.int i) (.int j) = if 0 < j ∧ j < 1073741824 then some (.val (.int (i / j))) else if 0 < j ∧ j.natAbs.log2 < 9000 then some (.val (.int (i / j))) else if j ≠ 0 ∧ j.natAbs < 1073741824 then some (.val (.int (i.fdiv j))) else if j ≠ 0 ∧ j.natAbs.log2 < 9000 then some (.val (.int (i.fdiv j))) else none := rfl
@[simp] theorem modD_int (i j : Int) : modD M (.int i) (.int j) = if 0 < j then some (.val (.int (i % j))) else if j ≠ 0 then some (.val (.int (i.fmod j))) else none := rfl
@[simp] theorem powD_int (i j : Int) : powD M (.int i) (.int j) = if 0 ≤ j ∧ j ≤ 1000000 ∧ i.natAbs < 2 ^ 64 then some (.val (.int (i ^ j.toNat))) else none := rfl
@[simp] theorem negD_int (i : Int) : negD M (.int i) = some (.val (.int (-i))) := rfl
@[simp] theorem cmpD_int (p : Int → Int → Bool) (i j : Int) : cmpD p M (.int i) (.int j) = some (.val (.bl (p i j))) := rfl
@[simp] theorem boD_bl (b : Bool) : boD (.bl b) = some b := rfl
@[simp] theorem truD_bl (b : Bool) : truD M (.bl b) = some b := rfl
@[simp] theorem idxD_tup (ds : List D) (i : Int) : idxD M (.tup ds) (.int i) = (atI ds i).map Slot.val := rfl
@[simp] theorem idxD_kt (ds : List D) (i : Int) : idxD M (.kt ds) (.int i) = (atI ds i).map Slot.val := rfl
@[simp] theorem idxD_lst (ds : List D) (i : Int) : idxD M (.lst ds) (.int i) = (atI ds i).map Slot.val := rfl
@[simp] theorem idxD_str (z : Str) (i : Int) : idxD M (.str z) (.int i) = if z.length ≤ sizeLine then (atI z.cps.toList i).map fun c => .val (.str ⟨#[c]⟩) else none := rfl
@[simp] theorem lenD_lst (ds : List D) : lenD M [.lst ds] = some (.val (.int ds.length)) := rfl
@[simp] theorem lenD_fro (ds : List D) : lenD M [.fro ds] = some (.val (.int ds.length)) := rfl
@[simp] theorem lenD_tup (ds : List D) : lenD M [.tup ds] = some (.val (.int ds.length)) := rfl
@[simp] theorem lenD_str (z : Str) : lenD M [.str z] = if z.length ≤ sizeLine then some (.val (.int z.length)) else none := rfl
theorem idxD_ref {k : Nat} {ds : List D} (h : M[k]? = some (.lst ds)) (i : Int) : idxD M (.ref k) (.int i) = (atI ds i).map Slot.val := by
  simp [idxD, seqOf, lstOf, h]
end
@[simp] theorem rng1D_int (j : Int) : rng1D [.int j] = if -(2 ^ 62) ≤ j ∧ j < 2 ^ 62 then some (rngL 0 j.toNat) else none := rfl
@[simp] theorem rng2D_int (i j : Int) : rng2D [.int i, .int j] = if -(2 ^ 62) ≤ i ∧ i < 2 ^ 62 ∧ -(2 ^ 62) ≤ j ∧ j < 2 ^ 62 then some (rngL i (j - i).toNat) else none := rfl
theorem rng1_ok {j : Int} (h0 : -(2 ^ 62) ≤ j) (h1 : j < 2 ^ 62) : rng1D [.int j] = some (rngL 0 j.toNat) := by rw [rng1D_int, if_pos ⟨h0, h1⟩]
theorem rngL_get {lo : Int} {n i : Nat} {d : D} (h : (rngL lo n)[i]? = some d) : i < n ∧ d = .int (lo + i) := by
  have hi : i < n := by have := (List.getElem?_eq_some_iff.mp h).1; rwa [rngL_len] at this
  unfold rngL at h
  rw [List.getElem?_map, List.getElem?_range hi] at h
  cases h
  exact ⟨hi, rfl⟩
section
variable (M : Store)
theorem eqvD_int (i j : Int) : eqvD (.int i) (.int j) = decide (i = j) := by
  rw [Bool.eq_iff_iff]; simp [eqvD]
theorem eqvD_bl (i j : Bool) : eqvD (.bl i) (.bl j) = decide (i = j) := by
  rw [Bool.eq_iff_iff]; simp [eqvD]
theorem eqvD_str (i j : Str) : eqvD (.str i) (.str j) = decide (i = j) := by
  rw [Bool.eq_iff_iff]; simp [eqvD]
@[simp] theorem eqD_int (i j : Int) : eqD M (.int i) (.int j) = some (.val (.bl (decide (i = j)))) := by
  have h : eqD M (.int i) (.int j) = some (.val (.bl (eqvD (.int i) (.int j)))) := rfl
  rw [h, eqvD_int]
@[simp] theorem neD_int (i j : Int) : neD M (.int i) (.int j) = some (.val (.bl (!decide (i = j)))) := by
  have h : neD M (.int i) (.int j) = some (.val (.bl (!eqvD (.int i) (.int j)))) := rfl
  rw [h, eqvD_int]
@[simp] theorem eqD_bl (i j : Bool) : eqD M (.bl i) (.bl j) = some (.val (.bl (decide (i = j)))) := by
  have h : eqD M (.bl i) (.bl j) = some (.val (.bl (eqvD (.bl i) (.bl j)))) := rfl
  rw [h, eqvD_bl]
@[simp] theorem neD_bl (i j : Bool) : neD M (.bl i) (.bl j) = some (.val (.bl (!decide (i = j)))) := by
  have h : neD M (.bl i) (.bl j) = some (.val (.bl (!eqvD (.bl i) (.bl j)))) := rfl
  rw [h, eqvD_bl]
/-- signs as they are -/
def okStr (x : Str) : Bool := x.cps.all (· < 0x110000)
theorem eqS (i j : Str) : eqD M (.str i) (.str j) = some (.val (.bl (decide (i = j)))) := rfl
theorem neS (i j : Str) : neD M (.str i) (.str j) = some (.val (.bl (!decide (i = j)))) := rfl
theorem eqD_str {i j : Str} (hi : okStr i = true) (hj : okStr j = true) : eqD M (.str i) (.str j) = some (.val (.bl (decide (i = j)))) := rfl
theorem neD_str {i j : Str} (hi : okStr i = true) (hj : okStr j = true) : neD M (.str i) (.str j) = some (.val (.bl (!decide (i = j)))) := rfl
theorem strP_eqv {x y : D} {b : Bool} (h : strP x y = some b) : b = eqvD x y := by
  obtain ⟨i, j, rfl, rfl, rfl⟩ := strP_at h
  rw [eqvD_str]
theorem eqD_of {x y : D} (hx : goodD x = true) (hy : goodD y = true) (hd : dpD x ≤ 190) : eqD M x y = some (.val (.bl (eqvD x y))) := by
  unfold eqD
  split
  · rename_i b hb
    rw [strP_eqv hb]
  · rw [der_good M hx, der_good M hy, hx, hy, if_pos (by simp; omega)]
theorem neD_of {x y : D} (hx : goodD x = true) (hy : goodD y = true) (hd : dpD x ≤ 190) : neD M x y = some (.val (.bl (!eqvD x y))) := by
  unfold neD
  split
  · rename_i b hb
    rw [strP_eqv hb]
  · rw [der_good M hx, der_good M hy, hx, hy, if_pos (by simp; omega)]
end
theorem mulOk_l {i j : Int} (h : -(2 ^ 64) < i) (h' : i < 2 ^ 64) : mulOk i j = true := by
  unfold mulOk
  rw [decide_eq_true (show -(2 ^ 64) < i ∧ i < 2 ^ 64 from ⟨h, h'⟩)]
  rfl
theorem mulOk_r {i j : Int} (h : -(2 ^ 64) < j) (h' : j < 2 ^ 64) : mulOk i j = true := by
  unfold mulOk
  rw [decide_eq_true (show -(2 ^ 64) < j ∧ j < 2 ^ 64 from ⟨h, h'⟩), Bool.or_true]
  rfl
/-! ### comprehensions -/
theorem lcGo_fm {b : D → EnvD → Option EnvD} {c : FB} {f : FD} {ρ0 : EnvD} {M : Store} (p : D → Bool) (g : D → D) : ∀ (items acc : List D),
    (∀ d ∈ items, ∃ ρ1, b d ρ0 = some ρ1 ∧ c ρ1 M = .ok (p d) M ∧ (p d = true → f ρ1 M = .ok (g d) M)) → acc.length + items.length ≤ sizeLine → lcGo b c f ρ0 items acc M = .ok (acc ++ (items.filter p).map g) M
  | [], acc, _, _ => by simp [lcGo]
  | d :: ds, acc, h, hl => by
    obtain ⟨ρ1, h1, h2, h3⟩ := h d List.mem_cons_self
    unfold lcGo
    rw [h1]
    simp only
    rw [h2]
    rw [List.length_cons] at hl
    cases hp : p d with
    | false =>
      simp only
      rw [lcGo_fm p g ds acc (fun x hx => h x (List.mem_cons_of_mem _ hx)) (by omega), List.filter_cons_of_neg (by rw [hp]; decide)]
    | true =>
      simp only
      rw [h3 hp]
      simp only
      rw [if_pos (by omega), lcGo_fm p g ds (acc ++ [g d]) (fun x hx => h x (List.mem_cons_of_mem _ hx)) (by rw [List.length_append, List.length_singleton]; omega), List.filter_cons_of_pos hp, List.map_cons, List.append_assoc]
      rfl
theorem lcGo_map {b : D → EnvD → Option EnvD} {f : FD} {ρ0 : EnvD} {M : Store} (g : D → D) (items : List D) (h : ∀ d ∈ items, ∃ ρ1, b d ρ0 = some ρ1 ∧ f ρ1 M = .ok (g d) M) (hl : items.length ≤ sizeLine) : lcGo b dYes f ρ0 items [] M = .ok (items.map g) M := by
  rw [lcGo_fm (fun _ => true) g items [] (fun d hd => by obtain ⟨ρ1, h1, h2⟩ := h d hd; exact ⟨ρ1, h1, rfl, fun _ => h2⟩) (by simpa using hl)]
  rw [List.filter_eq_self.mpr (fun _ _ => rfl), List.nil_append]
/-- by an invariant over the turn, what is made so far, the store -/
theorem lcGo_inv {b : D → EnvD → Option EnvD} {f : FD} {ρ0 : EnvD} (I : Nat → List D → Store → Prop) (items : List D) (hl : items.length ≤ sizeLine)
    (step : ∀ i d acc M, items[i]? = some d → I i acc M → ∃ ρ1, b d ρ0 = some ρ1 ∧ ∃ y M', f ρ1 M = .ok y M' ∧ I (i + 1) (acc ++ [y]) M') :
    ∀ (n i : Nat) (acc : List D) (M : Store), n + i = items.length → acc.length = i → I i acc M → ∃ res M', lcGo b dYes f ρ0 (items.drop i) acc M = .ok res M' ∧ I items.length res M' ∧ res.length = items.length
  | 0, i, acc, M, e, ha, h => by
    have ei : i = items.length := by omega
    subst ei
    rw [List.drop_length]
    exact ⟨acc, M, rfl, h, ha⟩
  | n + 1, i, acc, M, e, ha, h => by
    have hi : i < items.length := by omega
    rw [List.drop_eq_getElem_cons hi]
    obtain ⟨ρ1, h1, y, M', h2, h3⟩ := step i items[i] acc M (List.getElem?_eq_getElem hi) h
    unfold lcGo
    rw [h1]
    simp only [dYes_eq]
    rw [h2]
    simp only
    rw [if_pos (by omega)]
    exact lcGo_inv I items hl step n (i + 1) (acc ++ [y]) M' (by omega) (by rw [List.length_append, ha]; rfl) h3
/-! ### loops -/
/-- a loop that goes on to its end -/
theorem forGo_inv {b : D → EnvD → Option EnvD} {body : FS} (I : Nat → EnvD → Store → Prop) (items : List D)
    (step : ∀ i d ρ M, items[i]? = some d → I i ρ M → ∃ ρ1, b d ρ = some ρ1 ∧ ((∃ ρ2 M2, body ρ1 M = .next ρ2 M2 ∧ I (i + 1) ρ2 M2) ∨ ∃ ρ2 M2, body ρ1 M = .cont ρ2 M2 ∧ I (i + 1) ρ2 M2)) :
    ∀ (n i : Nat) (ρ : EnvD) (M : Store), n + i = items.length → I i ρ M → ∃ ρ' M', forGo b body (items.drop i) ρ M = .next ρ' M' ∧ I items.length ρ' M'
  | 0, i, ρ, M, e, h => by
    have ei : i = items.length := by omega
    subst ei
    rw [List.drop_length]
    exact ⟨ρ, M, rfl, h⟩
  | n + 1, i, ρ, M, e, h => by
    have hi : i < items.length := by omega
    rw [List.drop_eq_getElem_cons hi]
    obtain ⟨ρ1, h1, h2⟩ := step i items[i] ρ M (List.getElem?_eq_getElem hi) h
    unfold forGo
    rw [h1]
    simp only
    rcases h2 with ⟨ρ2, M2, h2, h3⟩ | ⟨ρ2, M2, h2, h3⟩
    · rw [h2]
      exact forGo_inv I items step n (i + 1) ρ2 M2 (by omega) h3
    · rw [h2]
      exact forGo_inv I items step n (i + 1) ρ2 M2 (by omega) h3
theorem forGo_all {b : D → EnvD → Option EnvD} {body : FS} (I : Nat → EnvD → Store → Prop) (items : List D) {ρ : EnvD} {M : Store} (h0 : I 0 ρ M)
    (step : ∀ i d ρ M, items[i]? = some d → I i ρ M → ∃ ρ1, b d ρ = some ρ1 ∧ ∃ ρ2 M2, body ρ1 M = .next ρ2 M2 ∧ I (i + 1) ρ2 M2) : ∃ ρ' M', forGo b body items ρ M = .next ρ' M' ∧ I items.length ρ' M' := by
  have := forGo_inv (b := b) (body := body) I items (fun i d ρ M hd h => by obtain ⟨ρ1, h1, h2⟩ := step i d ρ M hd h; exact ⟨ρ1, h1, .inl h2⟩) items.length 0 ρ M rfl h0
  simpa using this
theorem size_ok {n : Nat} (h : n ≤ 1000000) : n ≤ sizeLine := Nat.le_trans h (by decide)
end TP
/-! TPn: the laws' own numbers. -/
namespace TP
open PySem L2
def cellM : FS := (sSeq (sPutR (dEF (dOp2 addD (dEF (dOp2 idxD (dVarB 1) (dC (.int 0)))) (dC (.int 1)))) (dVarB 1) (dC (.int 0))) (sSeq (sSet 2 (dFE (dEF (dOp2 idxD (dVarB 1) (dC (.int 0)))))) (sSeq (sSet 3 (dFE (dEF (dOp2 addD (dEF (dOp2 mulD (dEF (dOp2 mulD (dC (.int 31)) (dVarB 2))) (dVarB 2))) (dEF (dOp2 mulD (dC (.int 7919)) (dVarB 2))))))) (sSeq (sIf (dAnd (dBo (dOp2 (cmpD fun i j => decide (j < i)) (dEF (dPr lenD (dCons (dVarB 0) dNil))) (dC (.int 0)))) (dAnd (dBo (dOp2 (cmpD fun i j => decide (j ≤ i)) (dEF (dOp2 idxD (dVarB 0) (dEF (dOp2 modD (dVarB 2) (dEF (dPr lenD (dCons (dVarB 0) dNil))))))) (dEF (dOp2 powD (dC (.int 10)) (dC (.int 18)))))) (dBo (dOp2 (cmpD fun i j => decide (i < j)) (dEF (dOp2 fdivD (dVarB 2) (dEF (dPr lenD (dCons (dVarB 0) dNil))))) (dC (.int 60)))))) (sSeq (sSet 4 (dFE (dEF (dOp2 idxD (dVarB 0) (dEF (dOp2 modD (dVarB 2) (dEF (dPr lenD (dCons (dVarB 0) dNil))))))))) (sSeq (sFor (dRng1 (dCons (dEF (dOp2 fdivD (dVarB 2) (dEF (dPr lenD (dCons (dVarB 0) dNil))))) dNil)) (bName 5) (sSeq (sSet 4 (dFE (dEF (dOp2 fdivD (dVarB 4) (dC (.int 306783379)))))) sNil)) (sSeq (sIf (dBo (dOp2 (cmpD fun i j => decide (j < i)) (dVarB 4) (dC (.int 0)))) (sSeq (sRet (dOp2 modD (dVarB 4) (dC (.int 306783379)))) sNil) sNil) sNil))) sNil) (sSeq (sIf (dBo (dOp2 (cmpD fun i j => decide (j < i)) (dEF (dPr lenD (dCons (dVarB 0) dNil))) (dC (.int 0)))) (sSeq (sSet 3 (dFE (dEF (dOp2 addD (dVarB 3) (dEF (dOp2 mulD (dEF (dOp2 modD (dEF (dOp2 idxD (dVarB 0) (dEF (dOp2 modD (dVarB 2) (dEF (dPr lenD (dCons (dVarB 0) dNil))))))) (dC (.int 2147483629)))) (dEF (dOp2 addD (dC (.int 1)) (dEF (dOp2 fdivD (dVarB 2) (dEF (dPr lenD (dCons (dVarB 0) dNil))))))))))))) sNil) sNil) (sSeq (sRet (dOp2 fdivD (dEF (dOp2 modD (dEF (dOp2 mulD (dEF (dOp2 modD (dEF (dOp2 mulD (dVarB 3) (dC (.int 48271)))) (dC (.int 2147483647)))) (dC (.int 69621)))) (dC (.int 2147483629)))) (dC (.int 7)))) sNil))))))
theorem atI_ints {ns : List Int} {i : Int} (h0 : 0 ≤ i) (h1 : i < ns.length) : ∃ v, atI (ns.map D.int) i = some (.int v) := by
  have hi : i.toNat < ns.length := by omega
  have e : ((i.toNat : Nat) : Int) = i := by omega
  generalize i.toNat = j at hi e
  subst e
  refine ⟨ns[j], ?_⟩
  exact atI_nat (by rw [List.getElem?_map, List.getElem?_eq_getElem hi]; rfl)
set_option maxHeartbeats 2000000 in
theorem cell_genB (c : D) (ns : List Int) (hlen : ∀ M, lenD M [c] = some (.val (.int ns.length))) (hidx : ∀ M i, idxD M c (.int i) = (atI (ns.map D.int) i).map Slot.val) (j : Nat) (k : Int) (M : Store) (hns : ns.length ≤ 63) (hj : M[j]? = some (.lst [.int k])) (h0 : -1 ≤ k) (h1 : k < 2 ^ 40) :
    ∃ r : Int, (0 ≤ r ∧ r < 306783379) ∧ runF 6 cellM [c, .ref j] M = .ok (.val (.int r)) (M.set j (.lst [.int (k + 1)])) := by
  have hjl : j < M.length := (List.getElem?_eq_some_iff.mp hj).1
  have hM : (M.set j (.lst [.int (k + 1)]))[j]? = some (.lst [.int (k + 1)]) := List.getElem?_set_self hjl
  have a0 : ∀ d : D, atI [d] 0 = some d := fun d => rfl
  have i0 : ixN 1 0 = some 0 := rfl
  have m1 : mulOk 31 (k + 1) = true := mulOk_l (by decide) (by decide)
  have m2 : mulOk (31 * (k + 1)) (k + 1) = true := mulOk_r (by omega) (by omega)
  have m3 : mulOk 7919 (k + 1) = true := mulOk_l (by decide) (by decide)
  have m4 : ∀ x, mulOk x 48271 = true := fun x => mulOk_r (by decide) (by decide)
  have m5 : ∀ x, mulOk x 69621 = true := fun x => mulOk_r (by decide) (by decide)
  have fin : ∀ b : Int, 0 ≤ b * 48271 % 2147483647 * 69621 % 2147483629 / 7 ∧ b * 48271 % 2147483647 * 69621 % 2147483629 / 7 < 306783379 := fun b => by omega
  unfold runF cellM startD
  cases ns with
  | nil =>
    simp [hlen, hidx, idxD_ref _ hj, idxD_ref _ hM, hj, a0, i0, m1, m2, m3, m4, m5]
    exact fin _
  | cons n ns =>
    have hl : 0 < (n :: ns).length := by simp
    generalize hL : ((n :: ns).length : Nat) = L at hl hns
    generalize hA : n :: ns = all at hL hlen hidx
    have hp1 : 0 ≤ (k + 1) % (L : Int) := Int.emod_nonneg _ (by omega)
    have hp2 : (k + 1) % (L : Int) < L := Int.emod_lt_of_pos _ (by omega)
    obtain ⟨v, hv⟩ := atI_ints (ns := all) hp1 (by omega)
    have m6 : mulOk (v % 2147483629) (1 + (k + 1) / (L : Int)) = true := mulOk_l (by omega) (by omega)
    have hdiv : (L : Int) < 1073741824 := by omega
    have hq0 : 0 ≤ (k + 1) / (L : Int) := Int.ediv_nonneg (by omega) (by omega)
    have hq1 : (k + 1) / (L : Int) ≤ k + 1 := Int.ediv_le_self _ (by omega)
    simp only [List.replicate, List.map_cons, List.map_nil, List.length_cons, List.length_nil]
    by_cases hv2 : 1000000000000000000 ≤ v ∧ (k + 1) / (L : Int) < 60
    · -- its own digits
      have hr : -4611686018427387904 ≤ (k + 1) / (L : Int) ∧ (k + 1) / (L : Int) < 4611686018427387904 := ⟨by omega, by omega⟩
      obtain ⟨ρ', M', e1, ⟨x, y, e2⟩, e3⟩ := forGo_all (b := bName 5) (body := (sSeq (sSet 4 (dFE (dEF (dOp2 fdivD (dVarB 4) (dC (D.int 306783379)))))) sNil))
        (fun _ ρ N => (∃ (x : Int) (y : Slot), ρ = [Slot.val c, Slot.val (D.ref j), Slot.val (D.int (k + 1)), Slot.val (D.int (31 * (k + 1) * (k + 1) + 7919 * (k + 1))), Slot.val (D.int x), y]) ∧ N = M.set j (.lst [.int (k + 1)]))
        (rngL 0 ((k + 1) / (L : Int)).toNat) (ρ := [Slot.val c, Slot.val (D.ref j), Slot.val (D.int (k + 1)), Slot.val (D.int (31 * (k + 1) * (k + 1) + 7919 * (k + 1))), Slot.val (D.int v), .un]) (M := M.set j (.lst [.int (k + 1)])) ⟨⟨v, .un, rfl⟩, rfl⟩
        (fun i d ρ N hd ⟨⟨x, y, e⟩, eN⟩ => by
          subst e eN
          refine ⟨_, rfl, _, _, by simp; rfl, ⟨x / 306783379, .val d, by simp⟩, rfl⟩)
      subst e2 e3
      by_cases hx : 0 < x
      · refine ⟨x % 306783379, by omega, ?_⟩
        simp [hlen, hidx, idxD_ref _ hj, idxD_ref _ hM, hj, a0, i0, m1, m2, m3, m4, m5, m6, hL, hv, hdiv, hl, hv2.1, hv2.2, hr, e1, hx]
      · simp [hlen, hidx, idxD_ref _ hj, idxD_ref _ hM, hj, a0, i0, m1, m2, m3, m4, m5, m6, hL, hv, hdiv, hl, hv2.1, hv2.2, hr, e1, hx]
        exact fin _
    · have hv3 : (if 1000000000000000000 ≤ v then decide ((k + 1) / (L : Int) < 60) else false) = false := by
        split
        · exact decide_eq_false fun z => hv2 ⟨by assumption, z⟩
        · rfl
      by_cases hv4 : 1000000000000000000 ≤ v
      · have hv5 : ¬ (k + 1) / (L : Int) < 60 := fun z => hv2 ⟨hv4, z⟩
        simp [hlen, hidx, idxD_ref _ hj, idxD_ref _ hM, hj, a0, i0, m1, m2, m3, m4, m5, m6, hL, hv, hdiv, hl, hv4, hv5]
        exact fin _
      · simp [hlen, hidx, idxD_ref _ hj, idxD_ref _ hM, hj, a0, i0, m1, m2, m3, m4, m5, m6, hL, hv, hdiv, hl, hv4]
        exact fin _

theorem cell_gen (c : D) (ns : List Int) (hlen : ∀ M, lenD M [c] = some (.val (.int ns.length))) (hidx : ∀ M i, idxD M c (.int i) = (atI (ns.map D.int) i).map Slot.val) (j : Nat) (k : Int) (M : Store) (hns : ns.length ≤ 63) (hj : M[j]? = some (.lst [.int k])) (h0 : -1 ≤ k) (h1 : k < 2 ^ 40) :
    ∃ r : Int, 0 ≤ r ∧ runF 6 cellM [c, .ref j] M = .ok (.val (.int r)) (M.set j (.lst [.int (k + 1)])) := by
  obtain ⟨r, h, e⟩ := cell_genB c ns hlen hidx j k M hns hj h0 h1
  exact ⟨r, h.1, e⟩

theorem cell_fro (ns : List Int) (j : Nat) (k : Int) (M : Store) (hns : ns.length ≤ 63) (hj : M[j]? = some (.lst [.int k])) (h0 : -1 ≤ k) (h1 : k < 2 ^ 40) :
    ∃ r : Int, 0 ≤ r ∧ runF 6 cellM [.fro (ns.map .int), .ref j] M = .ok (.val (.int r)) (M.set j (.lst [.int (k + 1)])) :=
  cell_gen _ ns (fun M => by show some (Slot.val (D.int (List.map D.int ns).length)) = _; rw [List.length_map]) (fun M i => rfl) j k M hns hj h0 h1
theorem cell_ok (ns : List Int) (j : Nat) (k : Int) (M : Store) (hns : ns.length ≤ 63) (hj : M[j]? = some (.lst [.int k])) (h0 : -1 ≤ k) (h1 : k < 2 ^ 40) :
    ∃ r : Int, 0 ≤ r ∧ runF 6 cellM [.lst (ns.map .int), .ref j] M = .ok (.val (.int r)) (M.set j (.lst [.int (k + 1)])) :=
  cell_gen _ ns (fun M => by show some (Slot.val (D.int (List.map D.int ns).length)) = _; rw [List.length_map]) (fun M i => rfl) j k M hns hj h0 h1
theorem cell_okB (ns : List Int) (j : Nat) (k : Int) (M : Store) (hns : ns.length ≤ 63) (hj : M[j]? = some (.lst [.int k])) (h0 : -1 ≤ k) (h1 : k < 2 ^ 40) :
    ∃ r : Int, (0 ≤ r ∧ r < 306783379) ∧ runF 6 cellM [.lst (ns.map .int), .ref j] M = .ok (.val (.int r)) (M.set j (.lst [.int (k + 1)])) :=
  cell_genB _ ns (fun M => by show some (Slot.val (D.int (List.map D.int ns).length)) = _; rw [List.length_map]) (fun M i => rfl) j k M hns hj h0 h1
end TP
/-! TPo: more for reckoning: dicts, the laws' numbers out of any row. -/
namespace TP
open PySem L2
section
variable (ρ : EnvD) (M : Store)
@[simp] theorem dTab_eq (tab : List (Str × D)) (f : FD) : dTab tab f ρ M = (f ρ M).bind fun y M => match y with
  | .str z => R.of (tabFind tab z) M
  | _ => .bad := rfl
@[simp] theorem dNewT_eq : dNewT ρ M = .ok (.ref M.length) (M ++ [.dT []]) := rfl
@[simp] theorem sPutD_eq (f fo fi : FD) : sPutD f fo fi ρ M = (f ρ M).out fun z M => (fo ρ M).out fun x M => (fi ρ M).out fun y M => match dPutM M x y z with
  | some M' => .next ρ M'
  | none => .bad := rfl
@[simp] theorem dDisp_eq (ks : List Str) (fs : List FD) : dDisp ks fs ρ M = (dVals fs ρ M).bind fun ds M => if ds.length = ks.length ∧ ks.length ≤ 15 then .ok (.ref M.length) (M ++ [.dK (mergeD ks ds)]) else .bad := rfl
end
end TP
/-! TPk: promises of defs where no repr is under way (guards), calls by them, the law's end. -/
namespace TP
open PySem L2
/-- a def's promise, wherever no repr is under way -/
structure GOk (P : Program) (wo : World) (K : PySem.W.Frag) (mg : Str → Option Value) (base : Heap) (CX : CXT) (k : Nat) (f : Addr) (fd : FuncData) (ps : List Str) (sp : Sp) : Prop where
  len : ∀ vs H Q EX, sp vs H Q EX → vs.length = ps.length
  go : ∀ (A : Around) (outer : List Env) (s : Shared) (H : Hp) (ar : Args) (us : List Value) (vs : List V) (Q : VK) (EX : XK),
    Room k A → A.guards = some [] → Env0 P wo K mg base A outer s H → BindsTo s fd ar (ps.zip us) → Vals vs us → sp vs H Q EX →
    codeAny (model P wo) A (.call (.ref f) ar) (CR CX outer P wo H s Q EX) s
section
variable {X : Cx} {CX : CXT} {k : Nat} {f C : Addr} {fd : FuncData} {ps : List Str} {sp : Sp} {EX : XK} {x m : Str} {p pos apos : Pos} {e o : Expr} {es : List Expr} {ta : TE} {t : TA}
theorem g_run {pins : List (Addr × Obj)} {σ : St} {H : Hp} {s : Shared} {Q : VK} {us : List Value} {vs : List V} (F : GOk X.prog X.w X.K X.mg X.base CX k f fd ps sp) (hr : Room k X.A) (hq : X.A.guards = some [])
    (hb : Binds X.K fd ps []) (hx : Passes CX X EX) (I : Inv X pins σ H s) (r : Vals vs us) (h : sp vs H Q EX) : wpAny (model X.prog X.w) X.A (call (.ref f) us) (EP X pins σ Q) X.xe s := by
  have hl : (us ++ []).length = ps.length := by
    rw [List.append_nil, ← r.length]
    exact F.len _ _ _ _ h
  have hb' := hb s us I.kIn hl
  rw [List.append_nil] at hb'
  refine wpAny_call (codeAny_mono (F.go X.A X.stack s H ⟨us, []⟩ us vs Q EX hr hq I.env0 hb' r h) fun z s' hz => ?_)
  match z, hz with
  | .error er, hz => exact hx pins σ H s er s' I hz
  | .ok (.ret u), hz => exact I.after hz
  | .ok .next, hz => exact False.elim hz
  | .ok .brk, hz => exact False.elim hz
  | .ok .cont, hz => exact False.elim hz
/-- f(e, ..) -/
theorem g_call (F : GOk X.prog X.w X.K X.mg X.base CX k f fd ps sp) (hr : Room k X.A) (hq : X.A.guards = some []) (hg : Gl X x) (hm : X.mg x = some (.ref f)) (hk : PySem.W.keepIn X.K (.ref f) = true) (hb : Binds X.K fd ps [])
    (hx : Passes CX X EX) (ha : PA X (e :: es) t) (hdb : (x == ("__debug__" : Str)) = false := by decide) (he : starEach (e :: es) X.env = (false, eval e X.env) :: starEach es X.env := by rfl)
    (hpl : (backTo pos (starEach es X.env)).any (·.1) = false := by rfl) : PE X (.Call (.Name x p) (e :: es) [] pos) (tCall sp [] EX t) :=
  ⟨fun pins s σ H Q I h => wpAny_Call_Name_kw (ld_glob I hg hm (PySem.W.callWith_K (h₀ := X.base) I.ok.mod.kin hk
    (thn (ha.run pos pins s σ H _ I h) fun us s1 ⟨vs, H1, I1, r, q⟩ => ⟨I1.kIn, g_run F hr hq hb hx I1 r (by have q' : sp (vs ++ []) H1 Q EX := q; rw [List.append_nil] at q'; exact q')⟩) he hpl) hdb)⟩
/-- f() -/
theorem g_call0 (F : GOk X.prog X.w X.K X.mg X.base CX k f fd ps sp) (hr : Room k X.A) (hq : X.A.guards = some []) (hg : Gl X x) (hm : X.mg x = some (.ref f)) (hk : PySem.W.keepIn X.K (.ref f) = true) (hb : Binds X.K fd ps [])
    (hx : Passes CX X EX) (hdb : (x == ("__debug__" : Str)) = false := by decide) : PE X (.Call (.Name x p) [] [] pos) (tCall sp [] EX tNil) :=
  ⟨fun pins s σ H Q I h => wpAny_Call_Name_kw (ld_glob I hg hm (PySem.W.callWith_K0 I.kIn hk (g_run (us := []) F hr hq hb hx I .nil h)) hdb)⟩
/-- o.m(e, ..) -/
theorem g_meth {pl : Sem Bool} (he : PE X o ta) (c : Cls X.K C) (hm : Meth X.K C m f) (F : GOk X.prog X.w X.K X.mg X.base CX k f fd ps sp) (hr : Room k X.A) (hq : X.A.guards = some []) (hb : Binds X.K fd ps []) (hx : Passes CX X EX)
    (ha : PA X (e :: es) t) (hst : starEach (e :: es) X.env = (false, eval e X.env) :: starEach es X.env := by rfl) (hpl : (backTo pos (starEach es X.env)).any (·.1) = false := by rfl)
    (ht : eval (.Call (.Attribute o m apos) (e :: es) [] pos) X.env = (do
      let ov ← eval o X.env
      standAt apos.atName
      let (fv, first) ← holding [ov] (getMethod ov m pl)
      callWith pos fv first (backTo pos (starEach (e :: es) X.env)) (backToKw pos (keywordEach [] X.env))) := by rfl) :
    PE X (.Call (.Attribute o m apos) (e :: es) [] pos) (tMeth C m sp [] EX ta t) := by
  constructor
  intro pins s σ H Q I h
  refine PySem.W.methodCall_KW (pl := pl) (thn (he.run pins s σ H _ I h) ?_) ht
  rintro u s1 ⟨_, H1, I1, rx, a, dx, fs, rfl, ea, l, q⟩
  obtain rfl : u = Value.ref a := rx
  refine getmeth_ok I1 ea c hm l (PySem.W.callWith_K (first := [.ref a]) (h₀ := X.base) I.ok.mod.kin hm.kp (thn (ha.run pos pins s1 σ H1 _ I1 q) ?_) hst hpl)
  rintro us s2 ⟨vs, H2, I2, r, q2⟩
  have q2' : sp (V.ref a :: (vs ++ [])) H2 Q EX := q2
  rw [List.append_nil] at q2'
  exact ⟨I2.kIn, g_run (us := .ref a :: us) (vs := .ref a :: vs) F hr hq hb hx I2 (.cons rfl r) q2'⟩
/-- o.m() -/
theorem g_meth0 {pl : Sem Bool} (he : PE X o ta) (c : Cls X.K C) (hm : Meth X.K C m f) (F : GOk X.prog X.w X.K X.mg X.base CX k f fd ps sp) (hr : Room k X.A) (hq : X.A.guards = some []) (hb : Binds X.K fd ps []) (hx : Passes CX X EX)
    (ht : eval (.Call (.Attribute o m apos) [] [] pos) X.env = (do
      let ov ← eval o X.env
      standAt apos.atName
      let (fv, first) ← holding [ov] (getMethod ov m pl)
      callWith pos fv first (backTo pos (starEach [] X.env)) (backToKw pos (keywordEach [] X.env))) := by rfl) :
    PE X (.Call (.Attribute o m apos) [] [] pos) (tMeth C m sp [] EX ta tNil) := by
  constructor
  intro pins s σ H Q I h
  refine PySem.W.methodCall_KW (pl := pl) (thn (he.run pins s σ H _ I h) ?_) ht
  rintro u s1 ⟨_, H1, I1, rx, a, dx, fs, rfl, ea, l, q⟩
  obtain rfl : u = Value.ref a := rx
  exact getmeth_ok I1 ea c hm l (PySem.W.callWith_K0 (first := [.ref a]) I1.kIn hm.kp (g_run (us := [.ref a]) (vs := [.ref a]) F hr hq hb hx I1 (.cons rfl .nil) q))
theorem make_guards {A : Around} {us : List Value} {kw : List (Str × Value)} (h : A.guards = some []) : (A.under (.builtin "type.__call__" ⟨.ref C :: us, kw⟩)).guards = some [] := by
  first | exact h | simp [Around.under, Code.guards, Code.isGuard, pushGuards, guardIds, h]
theorem g_mk {pins : List (Addr × Obj)} {σ : St} {H : Hp} {s : Shared} {Q : VK} {us : List Value} {vs : List V} (M : Mk X.K C f) (F : GOk X.prog X.w X.K X.mg X.base CX k f fd ps sp) (hr : Room (k + 1) X.A) (hq : X.A.guards = some [])
    (hb : Binds X.K fd ps []) (hx : Passes CX X EX) (I : Inv X pins σ H s) (r : Vals vs us)
    (h : ∀ y dx, H y = none → H dx = none → dx ≠ y → sp (.ref y :: vs) (upd (upd H dx (.own y)) y (.ins C dx [])) (fun v H2 => v = .non ∧ Q (.ref y) H2) EX) :
    wpAny (model X.prog X.w) X.A (call (.ref C) us) (EP X pins σ Q) X.xe s := by
  generalize hz : s.heap.objs.size = z at *
  have f0 : H z = none := I.hok.fresh (by omega)
  have f1 : H (z + 1) = none := I.hok.fresh (by omega)
  have h1 := h (z + 1) z f1 f0 (Nat.ne_of_lt (Nat.lt_succ_self z))
  have I2 := Inv.made (C := C) I
  rw [hz] at I2
  have r2 : Vals (V.ref (z + 1) :: vs) (Value.ref (z + 1) :: us) := .cons rfl r
  have hl : ((Value.ref (z + 1) :: us) ++ []).length = ps.length := by
    rw [List.append_nil, ← r2.length]
    exact F.len _ _ _ _ h1
  have hb' := hb _ (Value.ref (z + 1) :: us) I2.kIn hl
  rw [List.append_nil] at hb'
  refine wpAny_call (make_map (f := f) I.kIn M.makes M.init (beq_iff_eq.mp M.fn) ?_)
  rw [hz]
  refine codeAny_mono (F.go _ X.stack _ _ ⟨Value.ref (z + 1) :: us, []⟩ (Value.ref (z + 1) :: us) _ _ EX (hr.make C us []) (make_guards hq) (I2.env0.make C us []) hb' r2 h1) fun w s' hw => ?_
  match w, hw with
  | .error er, hw => exact hx pins σ _ _ er s' I2 hw
  | .ok .next, hw => exact False.elim hw
  | .ok .brk, hw => exact False.elim hw
  | .ok .cont, hw => exact False.elim hw
  | .ok (.ret u), hw =>
    obtain ⟨v, H', I3, rv, ev, q3⟩ := I2.after hw
    subst ev
    exact ⟨rv, V.ref (z + 1), H', I3, rfl, q3⟩
/-- C(e, ..) -/
theorem g_make (M : Mk X.K C f) (F : GOk X.prog X.w X.K X.mg X.base CX k f fd ps sp) (hr : Room (k + 1) X.A) (hq : X.A.guards = some []) (hg : Gl X x) (hm : X.mg x = some (.ref C)) (hb : Binds X.K fd ps []) (hx : Passes CX X EX)
    (ha : PA X (e :: es) t) (hdb : (x == ("__debug__" : Str)) = false := by decide) (he : starEach (e :: es) X.env = (false, eval e X.env) :: starEach es X.env := by rfl)
    (hpl : (backTo pos (starEach es X.env)).any (·.1) = false := by rfl) : PE X (.Call (.Name x p) (e :: es) [] pos) (tMake C sp [] EX t) :=
  ⟨fun pins s σ H Q I h => wpAny_Call_Name_kw (ld_glob I hg hm (PySem.W.callWith_K (h₀ := X.base) I.ok.mod.kin M.kp
    (thn (ha.run pos pins s σ H _ I h) fun us s1 ⟨vs, H1, I1, r, q⟩ => ⟨I1.kIn, g_mk M F hr hq hb hx I1 r fun y dx h1 h2 h3 => by have := q y dx h1 h2 h3; rw [List.append_nil] at this; exact this⟩) he hpl) hdb)⟩
end
section
open PySem.Spec PyProof.Rows
variable {K : PySem.W.Frag}
/-- a def by its body, wherever no repr is under way -/
theorem g_of {CX : CXT} {P : Program} {wo : World} {mg : Str → Option Value} {base : Heap} {x qual : Str} {st : Stmt} {f : Addr} {fd : FuncData} {N ps : List Str} {k : Nat} {sp : Sp} (F : Fun K x qual st f fd) (S : FnScope N ps (defScope st))
    (len : ∀ vs H Q EX, sp vs H Q EX → vs.length = ps.length)
    (hbody : ∀ (cdv : Value) (A : Around) (outer : List Env) (s : Shared) (H : Hp) (vs : List V) (Q : VK) (EX : XK), Room k (A.deeper (envOfC qual (defScope st) s.heap.objs.size f cdv)) → (A.deeper (envOfC qual (defScope st) s.heap.objs.size f cdv)).guards = some [] → sp vs H Q EX →
      ∃ t, PSs (cxOf CX P wo K mg base N qual (defScope st) f cdv A outer s H EX) (defBody st) t ∧ t { nx := fun _ H' => Q .non H', rt := Q } (L2.start N vs) H) : GOk P wo K mg base CX (k + 1) f fd ps sp := by
  obtain ⟨oc, od, kV, doc, pm, an, cdv, ct, osl, rfl, lk, hcd⟩ := F.ex
  refine ⟨len, ?_⟩
  intro A outer s H ar us vs Q EX hr hq e0 hb r hsp
  have hl := len _ _ _ _ hsp
  have kin : K.In s.heap := e0.mod.kin.keeps fun b o z => (e0.bs b o z).1
  have nl : s.heap.NoLimit := e0.mod.nolimit.keeps fun b o z => (e0.bs b o z).1
  have kinds : ∀ y ∈ ps.zip us, (defScope st).names.lookup y.1 = some .local
      ∨ ((defScope st).names.lookup y.1 = some .cell ∧ ((cellsFrom (s.heap.objs.size + 1) (defScope st).names []).lookup y.1).isSome = true) := by
    rintro ⟨n, v⟩ hy
    exact (S.par n (List.of_mem_zip hy).1).imp id fun z => ⟨z, PySem.W.cellsFrom_some _ _ _ (.inl z)⟩
  refine codeAny_call_function hr.depth (kin _ _ lk) rfl S.co S.gen rfl (PySem.W.codeRec_of kin hcd) (hb _ _ _ _ ?_)
  refine wpAny_newFunctionEnv_cells S.kind kinds ?_
  rintro env rfl s1 xc
  refine ⟨nl.keeps xc.toInCall.keep, codeAny_func ?_⟩
  obtain ⟨t, ht, hg⟩ := hbody cdv A outer s H vs Q EX (hr.deeper _) hq hsp
  refine wpAny_mono (ht.run [] s1 (L2.start N vs) H _ (inv_start S hr.hd e0 hl r xc) hg) (fun fl s' hs => ?_) fun er s' hs => hs
  match fl, hs with
  | .ret u, ⟨v, σ', H', J, rv, q⟩ => exact ⟨v, H', J.os, J.bare, J.base, J.hok, rv, q⟩
  | .next, ⟨σ', H', J, q⟩ => exact ⟨V.non, H', J.os, J.bare, J.base, J.hok, rfl, q⟩
  | .brk, ⟨_, _, _, q⟩ => exact False.elim q
  | .cont, ⟨_, _, _, q⟩ => exact False.elim q
/-- a def that lets no exception out -/
theorem g_fn {P : Program} {wo : World} {mg : Str → Option Value} {base : Heap} {x qual : Str} {st : Stmt} {f : Addr} {fd : FuncData} {N ps : List Str} {k : Nat} {g : FS} (F : Fun K x qual st f fd) (S : FnScope N ps (defScope st))
    (hbody : ∀ (cdv : Value) (A : Around) (outer : List Env) (s : Shared) (H : Hp) (EX : XK), Room k (A.deeper (envOfC qual (defScope st) s.heap.objs.size f cdv)) → (A.deeper (envOfC qual (defScope st) s.heap.objs.size f cdv)).guards = some [] →
      PSs (cxOf CX0 P wo K mg base N qual (defScope st) f cdv A outer s H EX).nox (defBody st) (tS K E00 g)) : GOk P wo K mg base CX0 (k + 1) f fd ps (spD K W0 ps.length (runF N.length g)) := by
  refine g_of F S (fun vs H Q EX h => h.1) (fun cdv A outer s H vs Q EX hr hq h => ?_)
  refine ⟨_, (hbody cdv A outer s H EX hr hq).nox, ?_⟩
  obtain ⟨hl, ds, w, rfl, ok, rl, a⟩ := h
  refine ⟨startD N.length ds, w, w, rfl, Step.refl ok, SR.start rl, OF.start w _ _ _, ?_⟩
  unfold runF at a
  cases q : g (startD N.length ds) w.M with
  | next ρ M => rw [q] at a; exact fun w' σ s' _ eM _ _ => a w' s' eM .non .non
  | ret y M => rw [q] at a; exact fun w' v s' eM rv => a w' s' eM v rv
  | exc c d M => rw [q] at a; exact a
  | brk ρ M => rw [q] at a; exact a.elim
  | cont ρ M => rw [q] at a; exact a.elim
  | bad => rw [q] at a; exact a.elim
theorem g_zero {P : Program} {wo : World} {mg : Str → Option Value} {base : Heap} {f : Addr} {fd : FuncData} {ps : List Str} {n : Nat} (hn : n = ps.length := by rfl) : GOk P wo K mg base CX0 0 f fd ps (spD K W0 n (fun _ _ => .bad)) :=
  ⟨fun vs H Q EX h => h.1.trans hn, fun A outer s H args us vs Q EX _ _ _ _ _ h => by
    obtain ⟨_, ds, w, _, _, _, a⟩ := h
    exact a.elim⟩
/-- the law's def at the heap behind the top -/
theorem g_law {P : Program} {wo : World} {mg mb : Str → Option Value} {CX : CXT} {k : Nat} {fa a : Addr} {fd : FuncData} {x : Str} {sp : Sp} {s₁ : Shared} {vs : List Value} {ns : List Int}
    (KX : K.In s₁.heap) (hns : s₁.heap.Ns mainGlobals mg) (hb : s₁.heap.Ns builtinsNs mb) (hbb : ∀ y : Str, y ≠ "__name__" → mb y = bootBuiltins y) (hlim : s₁.heap.NoLimit) (hg : s₁.gens = #[])
    (ha : s₁.heap.get? a = some { cls := .type "list", data := .seq vs.toArray }) (hi : IntsAre vs ns) (hl : ns.length ≤ sizeLine) (hr : Room k callerA)
    (F : ∀ base : Heap, K.In base → base.Ns mainGlobals mg → GOk P wo K mg base CX k fa fd [x] sp) (hbind : ∀ (s : Shared) (u : Value), BindsTo s fd ⟨[u], []⟩ [(x, u)])
    (hsp : ∀ H : Hp, Only H → SqL K H a (ns.map V.int) → sp [.ref a] H (fun v _ => v = .bl true) fun _ _ _ => False)
    (hCX : ∀ H er s', CX [] H s₁ (fun _ _ _ => False) er s' → False) :
    codeAny (model P wo) callerA (.call (.ref fa) ⟨[.ref a], []⟩) (fun z s' => z = .ok (.ret (.bool true)) ∧ OldK s₁.heap s'.heap ∧ s'.os = s₁.os ∧ AllBare s'.gens) s₁ := by
  have key : ∀ H : Hp, Only H → SqL K H a (ns.map V.int) → HOk P wo H s₁.heap → (∀ b, H b ≠ none → b = a) → (H a ≠ none → K.lookup a = none) →
      codeAny (model P wo) callerA (.call (.ref fa) ⟨[.ref a], []⟩) (fun z s' => z = .ok (.ret (.bool true)) ∧ OldK s₁.heap s'.heap ∧ s'.os = s₁.os ∧ AllBare s'.gens) s₁ := by
    intro H hO hS hok hA hK
    have free : ∀ {b : Addr}, b ≠ a → H b = none := fun {b} hb => by
      by_cases q : H b = none
      · exact q
      · exact absurd (hA b q) hb
    have keepNs : ∀ {b : Addr} {m : Str → Option Value}, s₁.heap.Ns b m → (hidT s₁.heap H).Ns b m := by
      rintro b m ⟨o, es, ep, h1, h2, h3⟩
      refine ⟨o, es, ep, hidT_get h1 (free fun hz => ?_), h2, h3⟩
      subst hz
      rw [ha] at h1
      cases h1
      cases h2
    have hKb : K.In (hidT s₁.heap H) := by
      intro b o hbo
      refine hidT_get (KX b o hbo) ?_
      by_cases q : H b = none
      · exact q
      · have hz := hA b q
        subst hz
        rw [hK q] at hbo
        cases hbo
    have M0 : Mod K mg (hidT s₁.heap H) := by
      obtain ⟨mc, l1, l2⟩ := hlim
      exact ⟨hKb, keepNs hns, ⟨mb, keepNs hb, hbb⟩, mc, keepNs l1, l2⟩
    have e0 : Env0 P wo K mg (hidT s₁.heap H) callerA [] s₁ H :=
      { frames := rfl, mod := M0, bs := fun b o z => of_hidT z, bsz := Nat.le_of_eq (hidT_size _ _), funs := trivial,
        frf := fun b z => (List.not_mem_nil (show b ∈ ([] : List Addr) from z)).elim, hok := hok, bare := .of_eq hg }
    refine codeAny_mono ((F _ hKb (keepNs hns)).go callerA [] s₁ H ⟨[.ref a], []⟩ [.ref a] [.ref a] _ _ hr rfl e0 (hbind s₁ (.ref a)) (.cons rfl .nil) (hsp H hO hS)) fun z s' h => ?_
    match z, h with
    | .error er, h => exact (hCX H er s' h).elim
    | .ok .next, h => exact False.elim h
    | .ok .brk, h => exact False.elim h
    | .ok .cont, h => exact False.elim h
    | .ok (.ret u), ⟨v, H', os, bare, un, hok', rv, (q : v = .bl true)⟩ =>
      subst q
      obtain rfl : u = Value.bool true := rv
      refine ⟨rfl, OldK.of_keep fun b o hbo => ?_, os, bare⟩
      rcases hO b with hn | ⟨ob, xs, hs⟩
      · exact un.keep b o hbo hn (fun z => (List.not_mem_nil (show b ∈ ([] : List Addr) from z)).elim) (by simp)
      · have h1 := (hok b _ hs).1
        have h2 := (hok' b _ (un.frzs b ob _ hs)).1
        rw [hbo] at h1
        cases h1
        exact h2
  have rv : Vals (ns.map V.int) vs := vals_ints hi
  by_cases hk : K.lookup a = none
  · have at_a : ∀ b, (if b = a then some (HO.frz { cls := .type "list", data := .seq vs.toArray } (.lst (ns.map V.int))) else none) ≠ none → b = a := fun b hb => by
      by_cases z : b = a
      · exact z
      · exact absurd (if_neg z) hb
    refine key (fun b => if b = a then some (.frz { cls := .type "list", data := .seq vs.toArray } (.lst (ns.map V.int))) else none) (fun b => ?_) (.inl (.inr ⟨_, if_pos rfl⟩)) (fun b u hu => ?_) at_a fun _ => hk
    · by_cases z : b = a
      · exact .inr ⟨_, _, if_pos z⟩
      · exact .inl (if_neg z)
    · have z := at_a b (fun hz => by have hu' := hz.symm.trans hu; cases hu')
      subst z
      have hu' := (if_pos rfl).symm.trans hu
      cases hu'
      exact ⟨ha, by rw [List.length_map]; exact hl, vs, _, rv, ha⟩
  · obtain ⟨o, ho⟩ := Option.ne_none_iff_exists'.mp hk
    have h1 := KX a o ho
    rw [ha] at h1
    cases h1
    refine key (fun _ => none) (fun _ => .inl rfl) (.inr ⟨_, vs.toArray, _, ho, rfl, rfl, rfl, by rw [List.size_toArray, hi.length]; exact hl, by simpa using rv⟩) (fun b u hu => ?_) (fun b z => absurd rfl z) fun z => absurd rfl z
    exact absurd hu (fun z => by cases z)
end
open PySem.Spec PyProof.Rows in
/-- the end of a law -/
theorem g_walk {l : PySem.W.OpenLaw} {n k : Nat} {q : Program} {loose : List Str} {XP : (Str → Option Value) → Heap → Prop} {YP : World → Heap → Prop} {d : DefRec} {K : Params → PySem.W.Frag} {CX : World → CXT} {sp : World → Sp} {x : Str}
    (hn : l.most = some n) (hn2 : n ≤ sizeLine) (hdf : d.params.defaults = []) (hr : Room k callerA) (hY : ∀ (w : World) (h : Heap), YP w h → (K w.params).In h)
    (F : ∀ (w : World) (mg : Str → Option Value) (fa : Addr) (h : Heap), (K w.params).In h → h.Ns mainGlobals mg → mg d.name = some (.ref fa) →
      ∃ fd : FuncData, (∀ (s : Shared) (u : Value), BindsTo s fd ⟨[u], []⟩ [(x, u)]) ∧ ∀ base : Heap, (K w.params).In base → base.Ns mainGlobals mg → GOk l.prog w (K w.params) mg base (CX w) k fa fd [x] (sp w))
    (hsp : ∀ (w : World) (H : Hp) (a : Addr) (ns : List Int), ns.length ≤ n → Only H → SqL (K w.params) H a (ns.map V.int) → sp w [.ref a] H (fun v _ => v = .bl true) fun _ _ _ => False)
    (hCX : ∀ (w : World) (H : Hp) (s : Shared) (e : Value) (s' : Shared), CX w [] H s (fun _ _ _ => False) e s' → False) :
    PySem.W.WalkO q loose XP YP l.row.toRowW d [] (fun f vs => PySem.call f vs) := by
  refine Att.attach_call hn hdf ?_
  intro w s₀ s₁ mg mb fa o pm cd doc a vs ns G Y ho hd hcd hmg hobj hints hlen hgens
  have kin := hY w _ Y
  obtain ⟨fd, hbd, hF⟩ := F w mg fa _ kin G.T.g hmg
  exact g_law kin G.T.g G.T.b G.T.builtins G.T.nolimit hgens hobj hints (Nat.le_trans hlen hn2) hr hF hbd (fun H hO hS => hsp w H a ns hlen hO hS) (fun H er s' => hCX w H s₁ er s')
end TP
/-! TPl: repr. -/
namespace TP
open PySem L2
section
variable {K : PySem.W.Frag} {E : Wish} {X : Cx} {e : Expr}
def rRepr (K : PySem.W.Frag) : List V → Hp → VK → Prop := fun xs H Q => ∃ x d, xs = [x] ∧ Dp K H x d ∧ d.canLay0 = true ∧ d.showable = true ∧ d.depth ≤ 190 ∧ d.shown.length ≤ sizeLine ∧ Q (.str d.shown) H
theorem call_repr (hu : X.A.units + 200 < cLine) (hq : X.A.guards = some []) : CallR X (.builtin "repr") (rRepr X.K) := by
  intro pins s σ H xs us Q I r h
  obtain ⟨x, d, rfl, hd, hl, hs, hdp, hz, q⟩ := h
  obtain ⟨u, rfl, ru⟩ := vals1 r
  obtain ⟨as, rd⟩ := Dp.reads I d x u hd ru
  have fin : ∀ h' t tk, (∀ b o, s.heap.get? b = some o → h'.get? b = some o) → EP X pins σ Q (.str d.shown t) { s with heap := h', toks := tk } := fun h' t tk hk => ⟨.str _, H, I.kept hk, ⟨_, rfl⟩, q⟩
  cases hd with
  | non => cases ru; exact PySem.P.repr_of_none (fin s.heap _ _ fun _ _ z => z)
  | bl b => cases ru; exact PySem.P.repr_of_bool (fin s.heap _ _ fun _ _ z => z)
  | int i =>
    obtain ⟨t, rfl⟩ := ru
    exact PySem.P.repr_of_int (by simpa [PyData.showable] using hs) (fin s.heap _ _ fun _ _ z => z)
  | str y =>
    obtain ⟨t, rfl⟩ := ru
    exact PySem.P.repr_of_str (fin s.heap _ _ fun _ _ z => z) (by simpa [PyData.shown] using hz)
  | lst h1 h2 =>
    cases ru
    exact repr_of_reads' rd hs (PyData.noDict_hsm (PyData.hasDict_of_canLay _ hl)) hq (by omega) (fun _ _ z => z) (fun h' t tk hk => fin h' t tk hk) hz
  | tup h1 h2 =>
    cases ru
    exact repr_of_reads' rd hs (PyData.noDict_hsm (PyData.hasDict_of_canLay _ hl)) hq (by omega) (fun _ _ z => z) (fun h' t tk hk => fin h' t tk hk) hz
/-- may it be shown -/
def shwD (y : D) : Bool := goodD y && (toPy y).showable && decide (dpD y ≤ 190) && decide ((toPy y).shown.length ≤ sizeLine)
def reprD (M : Store) (ds : List D) : Option Slot := match ds with
  | [x] => if shwD (derD M x) then some (.val (.str (toPy (derD M x)).shown)) else none
  | _ => none
theorem p_repr : PrimN K (rRepr K) reprD := by
  intro w vs ds s Q ok rl h k
  unfold reprD at h
  split at h
  · split at h
    · rename_i x hs
      cases h
      obtain ⟨v, rfl, rv⟩ := rl.one
      simp only [shwD, Bool.and_eq_true, decide_eq_true_eq] at hs
      obtain ⟨⟨⟨h1, h2⟩, h3⟩, h4⟩ := hs
      exact ⟨v, _, rfl, rv.dp ok h1, lay_py _ h1, h2, by rw [dp_py _ h1]; exact h3, h4, ans ok k fun _ _ => .str _⟩
    · cases h
  · cases h
end
theorem bt_repr : bootBuiltins "repr" = some (.builtin "repr") := by decide +kernel
theorem bt_sorted : bootBuiltins "sorted" = some (.builtin "sorted") := by decide +kernel
end TP
/-! TPq: instances: fields, methods, new ones; lists of the store that are changed through an expression. -/
namespace TP
open PySem L2
section
variable {K : PySem.W.Frag} {E : Wish} {X : Cx} {e : Expr} {st : Stmt}
theorem kv_look {R : V → D → Prop} (f : Str) : ∀ {vs : List (Str × V)} {fs : List (Str × D)}, RepKV R vs fs → (∀ d, fs.lookup f = some d → ∃ v, vs.lookup f = some v ∧ R v d) ∧ (fs.lookup f = none → vs.lookup f = none)
  | _, _, .nil => ⟨fun d h => by simp at h, fun _ => rfl⟩
  | (k, v) :: vs, (_, d) :: fs, .cons r t => by
    obtain ⟨h1, h2⟩ := kv_look f t
    rw [List.lookup_cons, List.lookup_cons]
    cases f == k with
    | true => exact ⟨fun d' h => by cases h; exact ⟨v, rfl, r⟩, fun h => by cases h⟩
    | false => exact ⟨h1, h2⟩
theorem look_mem {f : Str} {d : D} : ∀ {fs : List (Str × D)}, fs.lookup f = some d → ∃ y ∈ fs, y.1 = f
  | [], h => by simp at h
  | y :: fs, h => by
    rw [List.lookup_cons] at h
    cases hb : f == y.1 with
    | true => exact ⟨y, List.mem_cons_self, (beq_iff_eq.mp hb).symm⟩
    | false =>
      rw [hb] at h
      obtain ⟨z, hz, e⟩ := look_mem h
      exact ⟨z, List.mem_cons_of_mem _ hz, e⟩
def putFd (f : Str) (d : D) : List (Str × D) → List (Str × D)
  | [] => [(f, d)]
  | (g, x) :: r => if g = f then (g, d) :: r else (g, x) :: putFd f d r
theorem kv_put {R : V → D → Prop} {f : Str} {v : V} {d : D} (r : R v d) : ∀ {vs : List (Str × V)} {fs : List (Str × D)}, RepKV R vs fs → RepKV R (putF f v vs) (putFd f d fs)
  | _, _, .nil => .cons r .nil
  | (k, v') :: vs, (_, d') :: fs, .cons q t => by
    unfold putF putFd
    by_cases h : k = f
    · rw [if_pos h, if_pos h]; exact .cons r t
    · rw [if_neg h, if_neg h]; exact .cons q (kv_put r t)
theorem putFd_mem {f : Str} {d : D} : ∀ {fs : List (Str × D)} {x : Str × D}, x ∈ putFd f d fs → x.1 = f ∨ x ∈ fs ∨ ∃ y ∈ fs, y.1 = x.1
  | [], x, h => by
    rw [putFd, List.mem_singleton] at h
    subst h
    exact .inl rfl
  | (g, y) :: r, x, h => by
    unfold putFd at h
    split at h
    · rename_i hg
      rcases List.mem_cons.mp h with rfl | h
      · exact .inl hg
      · exact .inr (.inl (List.mem_cons_of_mem _ h))
    · rcases List.mem_cons.mp h with rfl | h
      · exact .inr (.inl List.mem_cons_self)
      · rcases putFd_mem h with h | h | ⟨z, hz, e⟩
        · exact .inl h
        · exact .inr (.inl (List.mem_cons_of_mem _ h))
        · exact .inr (.inr ⟨z, List.mem_cons_of_mem _ hz, e⟩)
theorem kv_len {R : V → D → Prop} : ∀ {vs : List (Str × V)} {fs : List (Str × D)}, RepKV R vs fs → vs.length = fs.length
  | _, _, .nil => rfl
  | _, _, .cons _ t => by rw [List.length_cons, List.length_cons, kv_len t]
/-! ### e.f -/
def dFld (f : Str) (fo : FD) : FD := fun ρ M => (fo ρ M).bind fun x M => match x with
  | .ref k => match M[k]? with
    | some (.ins _ fs) => R.of (fs.lookup f) M
    | _ => .bad
  | _ => .bad
theorem x_fld {f : Str} {fo : FD} (h : PE X e (tFld K (tR K E fo) f)) : PE X e (tF K E (dFld f fo)) := PE.wk h fun σ H Q ⟨ρ, w, e1, ok, sr, a⟩ =>
  ⟨ρ, w, e1, ok, sr, a.bind.imp fun x w1 s1 a1 vx rx => by
    split at a1
    · rename_i k
      split at a1
      · rename_i c fs e2
        obtain ⟨d, hd, q⟩ := a1.of (Step.refl s1.ok) rfl
        obtain ⟨p, rfl, ea⟩ := ref_at rx
        obtain ⟨p', ea', io, vs, dx, hH, rk⟩ := s1.ok.mos k _ e2
        rw [ea] at ea'
        cases ea'
        obtain ⟨v, hv, rv⟩ := (kv_look f rk).1 d hd
        obtain ⟨y, hy, e3⟩ := look_mem hd
        have na := io.2 y hy
        rw [e3] at na
        exact ⟨p, _, dx, vs, v, rfl, hH, io.1, na, hv, q v rv⟩
      · exact a1.elim
    · exact a1.elim⟩
/-! ### e.f = value -/
def sFldS (c f : Str) (fv fo : FD) : FS := fun ρ M => (fv ρ M).out fun y M => (fo ρ M).out fun x M => match x with
  | .ref k => match M[k]? with
    | some (.ins c' fs) => if c' = c ∧ fs.length < 1000 then .next ρ (M.set k (.ins c' (putFd f y fs))) else .bad
    | _ => .bad
  | _ => .bad
theorem s_fldS {c f : Str} {fv fo : FD} (hn : NoAttr K (clsAt K c) f) (h : PS X st (sFld K (tR K E fo) (tF K E fv) f)) : PS X st (tS K E (sFldS c f fv fo)) := PS.wk h fun D σ H ⟨ρ, w, w0, e1, s, sr, of, p⟩ =>
  ⟨ρ, w, e1, s.ok, sr, (out_after s p).imp fun y w1 s1 p1 vy ry => ⟨ρ, w1, rfl, s1.ok, sr.step s1, (out_after (s.trans s1) p1).imp fun x w2 s2 p2 vx rx => by
    split at p2
    · rename_i k
      split at p2
      · rename_i c' fs e2
        split at p2
        · rename_i hc
          obtain ⟨hc1, hc2⟩ := hc
          subst hc1
          obtain ⟨q, rfl, ea⟩ := ref_at rx
          obtain ⟨q', ea', io, vs, dx, hH, rk⟩ := s2.ok.mos k _ e2
          rw [ea] at ea'
          cases ea'
          refine ⟨q, _, dx, vs, rfl, hH, io.1, hn, by rw [kv_len rk]; exact hc2, ?_⟩
          have io2 : InsOk K c' (putFd f y fs) := ⟨io.1, fun z hz => by
            rcases putFd_mem hz with h | h | ⟨u, hu, e⟩
            · rw [h]; exact hn
            · exact io.2 z h
            · rw [← e]; exact io.2 u hu⟩
          have st3 := s2.ok.put (o := .ins c' (putFd f y fs)) (ho := .ins (clsAt K c') dx (putF f vy vs)) ea ⟨io2, _, dx, upd_same, kv_put (s2.rep ry) rk⟩
          have sall := (s.trans s1).trans s2
          exact p2 _ σ (sall.trans st3) st3.le rfl (((sr.step s1).step s2).step st3) of
        · exact p2.elim
      · exact p2.elim
    · exact p2.elim⟩⟩
/-! ### o.m(..), by the class of o -/
def dMethC (n : Nat) (m : Str) (tab : List (Str × Nat)) (Φ : Nat → Fn) (fo : FD) (fs : FL) : FE := fun ρ M => (fo ρ M).bind fun x M => match x with
  | .ref k => match M[k]? with
    | some (.ins c fds) => match fds.lookup m, tab.lookup c with
      | none, some i => (fs ρ M).bind fun ds M => if ds.length + 1 = n then Φ i (.ref k :: ds) M else .bad
      | _, _ => .bad
    | _ => .bad
  | _ => .bad
theorem x_methC {We : XK → Wish} {n : Nat} {m : Str} {tab : List (Str × Nat)} {Φ : Nat → Fn} {EX : XK} {fo : FD} {fs : FL} (hE : We EX = E) (h0 : ∃ c i, tab.lookup c = some i)
    (h : ∀ c i, tab.lookup c = some i → PE X e (tMeth (clsAt K c) m (spD K We n (Φ i)) [] EX (tR K E fo) (tAF K E fs))) : PE X e (tE K E (dMethC n m tab Φ fo fs)) := by
  constructor
  intro pins s σ H Q I ⟨ρ, w, e1, ok, sr, a⟩
  unfold dMethC at a
  cases hfo : fo ρ w.M with
  | bad => rw [hfo] at a; exact a.elim
  | exc c d M1 =>
    rw [hfo] at a
    obtain ⟨c0, i0, hc0⟩ := h0
    refine (h c0 i0 hc0).run pins s σ H Q I ⟨ρ, w, e1, ok, sr, ?_⟩
    rw [hfo]
    exact a
  | ok x M1 =>
    rw [hfo] at a
    have a' := a
    simp only [R.bind_ok] at a'
    split at a'
    · rename_i k
      split at a'
      · rename_i c fds e2
        split at a'
        · rename_i hl1 hl2
          rename_i i
          refine (h c i hl2).run pins s σ H Q I ⟨ρ, w, e1, ok, sr, ?_⟩
          rw [hfo]
          intro w1 s1 eM vx rx
          obtain ⟨p, rfl, ea⟩ := ref_at rx
          rw [← eM] at e2 a'
          obtain ⟨p', ea', io, vs, dx, hH, rk⟩ := s1.ok.mos k _ e2
          rw [ea] at ea'
          cases ea'
          refine ⟨p, dx, vs, rfl, hH, (kv_look m rk).2 hl1, ρ, w1, rfl, s1.ok, sr.step s1, ?_⟩
          refine (a'.later s1).bind.imp fun ds w2 s2 a2 us ru => ?_
          show spD K We n (Φ i) (V.ref p :: (us ++ [])) w2.H Q EX
          rw [List.append_nil]
          split at a2
          · rename_i hn
            refine ⟨by rw [List.length_cons, ru.length]; exact hn, .ref k :: ds, w2, rfl, s2.ok, .cons (s2.rep (.ref ea)) ru, ?_⟩
            rw [hE]
            exact a2.imp fun sl w3 s3 q v rv => q v (rv.back (s1.trans s2))
          · exact a2.elim
        · exact a'.elim
      · exact a'.elim
    · exact a'.elim
/-! ### C(..) -/
def dMake (c : Str) (n : Nat) (m : Fn) (fs : FL) : FE := fun ρ M => (fs ρ M).bind fun ds M => if ds.length + 1 = n then (m (.ref M.length :: ds) (M ++ [.ins c []])).bind fun s M' => match s with
  | .val .non => .ok (.val (.ref M.length)) M'
  | _ => .bad else .bad
theorem x_make {We : XK → Wish} {c : Str} {n : Nat} {m : Fn} {EX : XK} {fs : FL} (hE : We EX = E) (hc : Cls K (clsAt K c)) (h : PE X e (tMake (clsAt K c) (spD K We n m) [] EX (tAF K E fs))) : PE X e (tE K E (dMake c n m fs)) := PE.wk h fun σ H Q ⟨ρ, w, e1, ok, sr, a⟩ =>
  ⟨ρ, w, e1, ok, sr, a.bind.imp fun ds w1 s1 a1 us ru => by
    intro y dx hy hdx hne
    split at a1
    · rename_i hn
      have f0 := s1.ok.fresh0 hdx (.own y)
      have hy2 : upd w1.H dx (.own y) y = none := by rw [upd_ne (fun z => hne z.symm)]; exact hy
      have f1 := f0.ok.fresh0 (p := y) hy2 (.ins (clsAt K c) dx [])
      have hG : w1.G y = none := s1.ok.sub.free hy
      have okp := f1.ok.push (o := .ins c []) hG (s1.ok.notA hy) ⟨⟨hc, fun x hx => by cases hx⟩, [], dx, upd_same, .nil⟩
      have st : Step K w1 ⟨w1.A ++ [y], w1.G, w1.M ++ [.ins c []], upd (upd w1.H dx (.own y)) y (.ins (clsAt K c) dx [])⟩ := by
        refine ⟨okp, List.prefix_append _ _, Same.refl _, fun b o z1 z2 z3 => ?_⟩
        obtain ⟨k1, k2, k3⟩ := (f0.trans f1).keep b o z1 z2 z3
        exact ⟨k1, k2, fun hm => (List.mem_append.mp hm).elim z3 fun z => by simp at z; subst z; rw [hy] at z1; cases z1⟩
      have hlen : (w1.A ++ [y])[w1.M.length]? = some y := by
        rw [← s1.ok.len, List.getElem?_append_right (Nat.le_refl _), Nat.sub_self]; rfl
      show spD K We n m (V.ref y :: (us ++ [])) _ _ EX
      rw [List.append_nil]
      refine ⟨by rw [List.length_cons, ru.length]; exact hn, .ref w1.M.length :: ds, _, rfl, st.ok, .cons (.ref hlen) (st.repL ru), ?_⟩
      rw [hE]
      refine (a1.later st).bind.imp fun sl w3 s3 a3 v rv => ?_
      split at a3
      · cases rv
        have q := a3 w3 (Step.refl s3.ok) rfl (.ref y) (.ref (pre_get s3.pre hlen))
        exact ⟨rfl, q⟩
      · exact a3.elim
    · exact a1.elim⟩
/-! ### lists of the store -/
def sAppR (fo f : FD) : FS := fun ρ M => (fo ρ M).out fun x M => match x with
  | .ref k => match M[k]? with
    | some (.lst _) => (f ρ M).out fun y M => match M[k]? with
      | some (.lst ds) => if ds.length < sizeLine then .next ρ (M.set k (.lst (ds ++ [y]))) else .bad
      | _ => .bad
    | _ => .bad
  | _ => .bad
theorem s_appR {fo f : FD} (h : PS X st (tDrop (tBM K "list" rAppend (tR K E fo) (tCons (tF K E f) tNil)))) : PS X st (tS K E (sAppR fo f)) := PS.wk h fun D σ H ⟨ρ, w, w0, e1, s, sr, of, p⟩ =>
  ⟨ρ, w, e1, s.ok, sr, (out_after s p).imp fun x w1 s1 p1 vx rx => by
    split at p1
    · rename_i k
      split at p1
      · rename_i ds0 e0
        obtain ⟨q, rfl, ea⟩ := ref_at rx
        obtain ⟨q', ea', vs0, hH0, _⟩ := s1.ok.mos k _ e0
        rw [ea] at ea'
        cases ea'
        refine ⟨.inl ⟨rfl, vs0, .inl (.inl hH0)⟩, ρ, w1, rfl, s1.ok, sr.step s1, (out_after (s.trans s1) p1).imp fun y w2 s2 p2 vy ry => ?_⟩
        split at p2
        · rename_i ds e2
          split at p2
          · rename_i hz
            have ea2 : w2.A[k]? = some q := pre_get s2.pre ea
            obtain ⟨q', ea', vs, hH, rl⟩ := s2.ok.mos k _ e2
            rw [ea2] at ea'
            cases ea'
            refine ⟨q, vs, vy, rfl, rfl, hH, by rw [rl.length]; exact hz, ?_⟩
            have st3 := s2.ok.put (o := .lst (ds ++ [y])) (ho := .lst (vs ++ [vy])) ea2 ⟨_, upd_same, rl.append (.one ry)⟩
            exact p2 _ σ (((s.trans s1).trans s2).trans st3) st3.le rfl (((sr.step s1).step s2).step st3) of
          · exact p2.elim
        · exact p2.elim
      · exact p1.elim
    · exact p1.elim⟩
def dPopR (fo : FD) : FD := fun ρ M => (fo ρ M).bind fun x M => match x with
  | .ref k => match M[k]? with
    | some (.lst ds) => match ds.getLast? with
      | some y => .ok y (M.set k (.lst ds.dropLast))
      | none => .bad
    | _ => .bad
  | _ => .bad
theorem x_popR {fo : FD} (h : PE X e (tBM0 K "list" rPop (tR K E fo))) : PE X e (tF K E (dPopR fo)) := PE.wk h fun σ H Q ⟨ρ, w, e1, ok, sr, a⟩ =>
  ⟨ρ, w, e1, ok, sr, a.bind.imp fun x w1 s1 a1 vx rx => by
    split at a1
    · rename_i k
      split at a1
      · rename_i ds e2
        split at a1
        · rename_i y hy
          obtain ⟨q, rfl, ea⟩ := ref_at rx
          obtain ⟨q', ea', vs, hH, rl⟩ := s1.ok.mos k _ e2
          rw [ea] at ea'
          cases ea'
          rw [List.getLast?_eq_getElem?] at hy
          obtain ⟨v, hv, rv⟩ := rl.get hy
          have st3 := s1.ok.put (o := .lst ds.dropLast) (ho := .lst vs.dropLast) ea ⟨_, upd_same, rl.dropLast⟩
          exact ⟨.inl ⟨rfl, vs, .inl (.inl hH)⟩, q, vs, v, rfl, rfl, hH, by rw [rl.length]; exact hv, a1 _ st3 rfl v (st3.rep rv)⟩
        · exact a1.elim
      · exact a1.elim
    · exact a1.elim⟩
def dClearR (fo : FD) : FD := fun ρ M => (fo ρ M).bind fun x M => match x with
  | .ref k => match M[k]? with
    | some (.lst _) => .ok .non (M.set k (.lst []))
    | _ => .bad
  | _ => .bad
theorem x_clearR {fo : FD} (h : PE X e (tBM0 K "list" rClear (tR K E fo))) : PE X e (tF K E (dClearR fo)) := PE.wk h fun σ H Q ⟨ρ, w, e1, ok, sr, a⟩ =>
  ⟨ρ, w, e1, ok, sr, a.bind.imp fun x w1 s1 a1 vx rx => by
    split at a1
    · rename_i k
      split at a1
      · rename_i ds e2
        obtain ⟨q, rfl, ea⟩ := ref_at rx
        obtain ⟨q', ea', vs, hH, rl⟩ := s1.ok.mos k _ e2
        rw [ea] at ea'
        cases ea'
        have st3 := s1.ok.put (o := .lst []) (ho := .lst []) ea ⟨_, upd_same, .nil⟩
        exact ⟨.inl ⟨rfl, vs, .inl (.inl hH)⟩, q, vs, rfl, rfl, hH, a1 _ st3 rfl .non .non⟩
      · exact a1.elim
    · exact a1.elim⟩
/-! ### what is not looked at -/
def dBadE : FE := fun _ _ => .bad
def dBadF : FD := fun _ _ => .bad
theorem x_badE : PE X e (tE K E dBadE) := ⟨fun pins s σ H Q I ⟨ρ, w, e1, ok, sr, a⟩ => a.elim⟩
theorem x_badF : PE X e (tF K E dBadF) := ⟨fun pins s σ H Q I ⟨ρ, w, e1, ok, sr, a⟩ => a.elim⟩
def sBad : FS := fun _ _ => .bad
theorem s_bad : PS X st (tS K E sBad) := ⟨fun pins s σ H D I ⟨ρ, w, w0, e1, ok, sr, of, p⟩ => p.elim⟩
end
end TP
/-! TPt: dict(zip(a, b)) over any two iterators, at the library's level. -/
namespace TP
open PySem
section
variable {prog : Program} {w : World} {A : Around} {E : Value → Shared → Prop} {s : Shared} {z TI TO T i1 i2 : Addr} {fp1 fp2 : List Addr} {n1 n2 i : Nat} {P1 P2 : Nat → Value → Prop} {St1 St2 : Nat → Heap → Prop} {f : Bool} {oT : Obj}
/-- the next pair, the one ahead still held -/
theorem zipH_item {Q : Value → Shared → Prop} (S : ZipSep2 z TI TO i1 i2 fp1 fp2) (D1 : Draws prog w A i1 fp1 n1 P1 St1) (D2 : Draws prog w A i2 fp2 n2 P2 St2)
    (hz : IsZipHeld s.heap z TI TO T f) (hT : s.heap.get? T = some oT) (hTI : IsTupOf2 s.heap TI (.ref i1) (.ref i2)) (st1 : St1 i s.heap) (st2 : St2 i s.heap) (l1 : i < n1) (l2 : i < n2)
    (hQ : ∀ x y h' tk, P1 i x → P2 i y → IsZipHeld h' z TI TO T true → St1 (i + 1) h' → St2 (i + 1) h' → IsTupOf2 h' s.heap.objs.size x y → h'.objs.size = s.heap.objs.size + 1 →
      (∀ c o, c ≠ z → c ≠ i1 → c ≠ i2 → s.heap.get? c = some o → h'.get? c = some o) → Q (.ref s.heap.objs.size) { s with heap := h', toks := tk }) :
    wpAny (model prog w) A (Builtin.«zip.__next__» ⟨[.ref z], []⟩) (fun fin s' => ∃ v, fin = .done (.ret v) ∧ Q v s') E s := by
  obtain ⟨h0, gs, dr, t0, os⟩ := s
  show wpAny _ _ (field (.ref z) 2 >>= _) _ _ _
  refine wpAny_bind (wpAny_field hz rfl (x := .bool false) rfl ?_)
  show wpAny _ _ (field (.ref z) 3 >>= _) _ _ _
  refine wpAny_bind (wpAny_field hz rfl (x := .ref TI) rfl (wpAny_bind (wpAny_seqItems hTI rfl ?_)))
  show wpAny _ _ (Builtin.SmallTypes.ownedTupleIsFree (.ref z) >>= _) _ _ _
  refine wpAny_bind (wpAny_tupleHeld_zip hz hT ?_)
  intro ha za sa
  replace sa : Heap.SameBut z h0 ha := sa
  simp only [Bool.false_eq_true, if_false]
  refine wpAny_bind ?_
  rw [← Array.forIn_toList]
  simp only [List.forIn_cons, List.forIn_nil]
  refine wpAny_bind (wpAny_bind (wpAny_holding ?_))
  show wpAny _ _ (Builtin.SmallTypes.nextOf (.ref i1) >>= _) _ _ ⟨ha, gs, dr, t0, os⟩
  refine wpAny_bind (D1.item i _ _ _ l1 (D1.over st1 sa S.zf1) ?_)
  intro x hb t1 px sn1 sb
  replace sb : Heap.SameBut i1 ha hb := sb
  refine wpAny_pure (wpAny_pure (wpAny_bind (wpAny_bind (wpAny_holding ?_))))
  show wpAny _ _ (Builtin.SmallTypes.nextOf (.ref i2) >>= _) _ _ ⟨hb, gs, dr, t1, os⟩
  refine wpAny_bind (D2.item i _ _ _ l2 (D2.over (D2.over st2 sa S.zf2) sb S.sep1_2) ?_)
  intro y hc t2 py sn2 sc
  replace sc : Heap.SameBut i2 hb hc := sc
  refine wpAny_pure (wpAny_pure (wpAny_pure ?_))
  show wpAny _ _ (newTuple [x, y] >>= _) _ _ ⟨hc, gs, dr, t2, os⟩
  refine wpAny_bind (wpAny_newTuple (wpAny_pure ⟨_, rfl, ?_⟩))
  have size : hc.objs.size = h0.objs.size := by rw [sc.1, sb.1, sa.1]
  have i1z : i1 ≠ z := fun q => S.zf1 (q ▸ S.mem1)
  have i2z : i2 ≠ z := fun q => S.zf2 (q ▸ S.mem2)
  have zc : IsZipHeld hc z TI TO T true := sc.extBut _ _ i2z.symm (sb.extBut _ _ i1z.symm za)
  have keep : ∀ c o, c ≠ z → c ≠ i1 → c ≠ i2 → h0.get? c = some o → hc.get? c = some o := fun c o c1 c2 c3 e => sc.extBut _ _ c3 (sb.extBut _ _ c2 (sa.extBut _ _ c1 e))
  show Q (.ref hc.objs.size) ⟨hc.push { cls := .type "tuple", data := .seq #[x, y] }, gs, dr, t2, os⟩
  have tp : IsTupOf2 (hc.push { cls := .type "tuple", data := .seq #[x, y] }) hc.objs.size x y := Heap.get?_push_size _ rfl
  have sz : (hc.push { cls := .type "tuple", data := .seq #[x, y] }).objs.size = hc.objs.size + 1 := Heap.size_push ..
  rw [size] at tp sz ⊢
  exact hQ x y _ t2 px py (Heap.get?_push_of_some _ zc) (D1.frame _ _ _ (D1.over sn1 sc S.sep2_1) fun b _ o e => Heap.get?_push_of_some _ e) (D2.frame _ _ _ sn2 fun b _ o e => Heap.get?_push_of_some _ e) tp sz
    fun c o c1 c2 c3 e => Heap.get?_push_of_some _ (keep c o c1 c2 c3 e)
theorem zipH_end {Q : Fin → Shared → Prop} (S : ZipSep2 z TI TO i1 i2 fp1 fp2) (D1 : Draws prog w A i1 fp1 n1 P1 St1) (D2 : Draws prog w A i2 fp2 n2 P2 St2)
    (hz : IsZipHeld s.heap z TI TO T f) (hT : s.heap.get? T = some oT) (hTI : IsTupOf2 s.heap TI (.ref i1) (.ref i2)) (st1 : St1 i s.heap) (st2 : St2 i s.heap) (l1 : i ≤ n1) (l2 : i ≤ n2) (hend : i = n1 ∨ i = n2)
    (hE : ∀ h' tk e, (∀ c o, c ≠ z → c ≠ i1 → c ≠ i2 → s.heap.get? c = some o → h'.get? c = some o) → (∃ o, h'.get? e = some o ∧ o.cls = .type "StopIteration") → E (.ref e) { s with heap := h', toks := tk }) :
    wpAny (model prog w) A (Builtin.«zip.__next__» ⟨[.ref z], []⟩) Q E s := by
  obtain ⟨h0, gs, dr, t0, os⟩ := s
  show wpAny _ _ (field (.ref z) 2 >>= _) _ _ _
  refine wpAny_bind (wpAny_field hz rfl (x := .bool false) rfl ?_)
  show wpAny _ _ (field (.ref z) 3 >>= _) _ _ _
  refine wpAny_bind (wpAny_field hz rfl (x := .ref TI) rfl (wpAny_bind (wpAny_seqItems hTI rfl ?_)))
  show wpAny _ _ (Builtin.SmallTypes.ownedTupleIsFree (.ref z) >>= _) _ _ _
  refine wpAny_bind (wpAny_tupleHeld_zip hz hT ?_)
  intro ha za sa
  replace sa : Heap.SameBut z h0 ha := sa
  simp only [Bool.false_eq_true, if_false]
  refine wpAny_bind ?_
  rw [← Array.forIn_toList]
  simp only [List.forIn_cons, List.forIn_nil]
  refine wpAny_bind (wpAny_bind (wpAny_holding ?_))
  show wpAny _ _ (Builtin.SmallTypes.nextOf (.ref i1) >>= _) _ _ ⟨ha, gs, dr, t0, os⟩
  by_cases k1 : i < n1
  · refine wpAny_bind (D1.item i _ _ _ k1 (D1.over st1 sa S.zf1) ?_)
    intro x hb t1 px sn1 sb
    replace sb : Heap.SameBut i1 ha hb := sb
    refine wpAny_pure (wpAny_pure (wpAny_bind (wpAny_bind (wpAny_holding ?_))))
    show wpAny _ _ (Builtin.SmallTypes.nextOf (.ref i2) >>= _) _ _ ⟨hb, gs, dr, t1, os⟩
    have e2 : i = n2 := by omega
    refine wpAny_bind (D2.done ⟨hb, gs, dr, t1, os⟩ _ _ (by rw [← e2]; exact D2.over (D2.over st2 sa S.zf2) sb S.sep1_2) ?_)
    intro hc e sc he
    exact hE hc t1 e (fun c o c1 c2 c3 q => sc _ _ c3 (sb.extBut _ _ c2 (sa.extBut _ _ c1 q))) he
  · have e1 : i = n1 := by omega
    refine wpAny_bind (D1.done ⟨ha, gs, dr, t0, os⟩ _ _ (by rw [← e1]; exact D1.over st1 sa S.zf1) ?_)
    intro hb e sb he
    exact hE hb t0 e (fun c o c1 c2 _ q => sb _ _ c2 (sa.extBut _ _ c1 q)) he
theorem next_zipH_item {Q : Option Value → Shared → Prop} (S : ZipSep2 z TI TO i1 i2 fp1 fp2) (D1 : Draws prog w A.in1 i1 fp1 n1 P1 St1) (D2 : Draws prog w A.in1 i2 fp2 n2 P2 St2)
    (hz : IsZipHeld s.heap z TI TO T f) (hT : s.heap.get? T = some oT) (hTI : IsTupOf2 s.heap TI (.ref i1) (.ref i2)) (st1 : St1 i s.heap) (st2 : St2 i s.heap) (l1 : i < n1) (l2 : i < n2)
    (hQ : ∀ x y h' tk, P1 i x → P2 i y → IsZipHeld h' z TI TO T true → St1 (i + 1) h' → St2 (i + 1) h' → IsTupOf2 h' s.heap.objs.size x y → h'.objs.size = s.heap.objs.size + 1 →
      (∀ c o, c ≠ z → c ≠ i1 → c ≠ i2 → s.heap.get? c = some o → h'.get? c = some o) → Q (some (.ref s.heap.objs.size)) { s with heap := h', toks := tk }) :
    wpAny (model prog w) A (pyNext (.ref z)) Q E s := by
  have ty : s.TypeIs (.ref z) "zip" := ⟨_, hz, rfl⟩
  unfold pyNext
  exact wpAny_bind (wpAny_attempt (wpAny_callSpecial?_slot (name := Str.ofString "__next__") ty F.slot_zip_next
    (wpAny_call_entry F.slot_zip_next ty F.entry_zip_next
      (zipH_item S D1 D2 hz hT hTI st1 st2 l1 l2 fun x y h' tk a b c d e g k m => wpAny_pure (hQ x y h' tk a b c d e g k m)) (F.args_zip_next_1 _))))
theorem next_zipH_end {Q : Option Value → Shared → Prop} (S : ZipSep2 z TI TO i1 i2 fp1 fp2) (D1 : Draws prog w A.in1 i1 fp1 n1 P1 St1) (D2 : Draws prog w A.in1 i2 fp2 n2 P2 St2)
    (hz : IsZipHeld s.heap z TI TO T f) (hT : s.heap.get? T = some oT) (hTI : IsTupOf2 s.heap TI (.ref i1) (.ref i2)) (st1 : St1 i s.heap) (st2 : St2 i s.heap) (l1 : i ≤ n1) (l2 : i ≤ n2) (hend : i = n1 ∨ i = n2)
    (hQ : ∀ h' tk, (∀ c o, c ≠ z → c ≠ i1 → c ≠ i2 → s.heap.get? c = some o → h'.get? c = some o) → Q none { s with heap := h', toks := tk }) : wpAny (model prog w) A (pyNext (.ref z)) Q E s := by
  have ty : s.TypeIs (.ref z) "zip" := ⟨_, hz, rfl⟩
  unfold pyNext
  refine wpAny_bind (wpAny_attempt (wpAny_callSpecial?_slot (name := Str.ofString "__next__") ty F.slot_zip_next
    (wpAny_call_entry F.slot_zip_next ty F.entry_zip_next (zipH_end S D1 D2 hz hT hTI st1 st2 l1 l2 hend ?_) (F.args_zip_next_1 _))))
  rintro h' tk e hk ⟨o, ho, hc⟩
  exact wpAny_bind (wpAny_isInstance (T := "StopIteration") (b := true) ⟨o, ho, hc⟩ isSubtype_stop (wpAny_pure (hQ _ _ hk)))
end
theorem ZipSep2.z1 {z TI TO i1 i2 : Addr} {fp1 fp2 : List Addr} (S : ZipSep2 z TI TO i1 i2 fp1 fp2) : i1 ≠ z ∧ i2 ≠ z ∧ TO ≠ i1 ∧ TO ≠ i2 :=
  ⟨fun q => S.zf1 (q ▸ S.mem1), fun q => S.zf2 (q ▸ S.mem2), fun q => S.Tf1 (q ▸ S.mem1), fun q => S.Tf2 (q ▸ S.mem2)⟩
/-- a zip of two iterators as the argument of dict() -/
theorem zipArg {prog : Program} {w : World} {z TI TO i1 i2 : Addr} {fp1 fp2 : List Addr} {n1 n2 : Nat} {P1 P2 : Nat → Value → Prop} {St1 St2 : Nat → Heap → Prop} (S : ZipSep2 z TI TO i1 i2 fp1 fp2)
    (D1 : ∀ A : Around, A.handled = none → Draws prog w A i1 fp1 n1 P1 St1) (D2 : ∀ A : Around, A.handled = none → Draws prog w A i2 fp2 n2 P2 St2)
    (L1 : ∀ i h, St1 i h → ∀ b ∈ fp1, ∃ o, h.get? b = some o) (L2 : ∀ i h, St2 i h → ∀ b ∈ fp2, ∃ o, h.get? b = some o) :
    PairArg prog w "zip" z (z :: TI :: TO :: (fp1 ++ fp2)) [z, TO, i1, i2] (min n1 n2) (fun i k v => P1 i k ∧ P2 i v)
      (fun h => IsZip h z TI TO .none ∧ IsTupOf2 h TI (.ref i1) (.ref i2) ∧ (∃ a b, IsTupOf2 h TO a b) ∧ St1 0 h ∧ St2 0 h) where
  type := fun s ok => ⟨_, ok.1, rfl⟩
  notDict := by decide
  keep := fun h h' ⟨a, b, ⟨c, d, e⟩, f, g⟩ hk => ⟨hk _ _ a, hk _ _ b, ⟨c, d, hk _ _ e⟩, (D1 {} rfl).frame _ _ _ f fun b _ o e => hk b o e, (D2 {} rfl).frame _ _ _ g fun b _ o e => hk b o e⟩
  there := fun h ⟨a, b, ⟨c, d, e⟩, f, g⟩ x hx => by
    rcases List.mem_cons.mp hx with rfl | hx
    · exact ⟨_, a⟩
    rcases List.mem_cons.mp hx with rfl | hx
    · exact ⟨_, b⟩
    rcases List.mem_cons.mp hx with rfl | hx
    · exact ⟨_, e⟩
    rcases List.mem_append.mp hx with hx | hx
    · exact L1 _ _ f x hx
    · exact L2 _ _ g x hx
  sub := fun b hb => by
    simp only [List.mem_cons, List.not_mem_nil, or_false] at hb
    rcases hb with rfl | rfl | rfl | rfl
    · exact List.mem_cons_self
    · exact List.mem_cons_of_mem _ (List.mem_cons_of_mem _ List.mem_cons_self)
    · exact List.mem_cons_of_mem _ (List.mem_cons_of_mem _ (List.mem_cons_of_mem _ (List.mem_append_left _ S.mem1)))
    · exact List.mem_cons_of_mem _ (List.mem_cons_of_mem _ (List.mem_cons_of_mem _ (List.mem_append_right _ S.mem2)))
  noKeys := fun A s Q E hA ok h => getAttrOr_miss_zip ok.1 rfl rfl rfl zip_no_keys (by decide +kernel) hA h
  iter := fun A s d Q E hA ok hd hdf h => by
    obtain ⟨hz, hTI, ⟨a, b, hTO⟩, h1, h2⟩ := ok
    have dz : d ≠ z := fun q => hdf (q ▸ List.mem_cons_self)
    have dTI : d ≠ TI := fun q => hdf (q ▸ List.mem_cons_of_mem _ List.mem_cons_self)
    have dTO : d ≠ TO := fun q => hdf (q ▸ List.mem_cons_of_mem _ (List.mem_cons_of_mem _ List.mem_cons_self))
    have d1 : d ∉ fp1 := fun q => hdf (List.mem_cons_of_mem _ (List.mem_cons_of_mem _ (List.mem_cons_of_mem _ (List.mem_append_left _ q))))
    have d2 : d ∉ fp2 := fun q => hdf (List.mem_cons_of_mem _ (List.mem_cons_of_mem _ (List.mem_cons_of_mem _ (List.mem_append_right _ q))))
    obtain ⟨s1z, s2z, sT1, sT2⟩ := ZipSep2.z1 S
    have hA1 : A.in1.handled = none := hA
    refine wpAny_pyIter_zip hz (h z [z, TO, i1, i2] (fun i h => IsTupOf2 h TI (.ref i1) (.ref i2) ∧ St1 i h ∧ St2 i h ∧
      ((IsZip h z TI TO .none ∧ ∃ a b, IsTupOf2 h TO a b) ∨ ∃ T f oT, IsZipHeld h z TI TO T f ∧ h.get? T = some oT ∧ T ≠ z ∧ T ≠ i1 ∧ T ≠ i2 ∧ T ≠ d)) s.heap s.toks ?_
      ⟨hTI, h1, h2, .inl ⟨hz, a, b, hTO⟩⟩ (fun _ _ e => e) fun b hb => .inl hb)
    refine { off := fun hm => ?_, frame := fun i ha hb st hk => ?_, item := fun i s1 Q1 E1 hi st hds hQ => ?_, done := fun s1 Q1 E1 st hQ => ?_ }
    · simp only [List.mem_cons, List.not_mem_nil, or_false] at hm
      rcases hm with e | e | e | e
      · exact dz e
      · exact dTO e
      · exact d1 (e ▸ S.mem1)
      · exact d2 (e ▸ S.mem2)
    · obtain ⟨q1, q2, q3, q4⟩ := st
      refine ⟨hk _ _ (Ne.symm dTI) q1, (D1 A hA).frame _ _ _ q2 fun b hb o e => hk b o (fun z => d1 (z ▸ hb)) e, (D2 A hA).frame _ _ _ q3 fun b hb o e => hk b o (fun z => d2 (z ▸ hb)) e, ?_⟩
      rcases q4 with ⟨q4, a, b, q5⟩ | ⟨T, f, oT, q4, q5, r1, r2, r3, r4⟩
      · exact .inl ⟨hk _ _ (Ne.symm dz) q4, a, b, hk _ _ (Ne.symm dTO) q5⟩
      · exact .inr ⟨T, f, oT, hk _ _ (Ne.symm dz) q4, hk _ _ r4 q5, r1, r2, r3, r4⟩
    · obtain ⟨q1, q2, q3, q4⟩ := st
      have k1 : i < n1 := Nat.lt_of_lt_of_le hi (Nat.min_le_left ..)
      have k2 : i < n2 := Nat.lt_of_lt_of_le hi (Nat.min_le_right ..)
      have new : ∀ {c o}, s1.heap.get? c = some o → s1.heap.objs.size ≠ c := fun e => Nat.ne_of_gt (Heap.lt_size e)
      obtain ⟨o1, g1⟩ := L1 _ _ q2 i1 S.mem1
      obtain ⟨o2, g2⟩ := L2 _ _ q3 i2 S.mem2
      rcases q4 with ⟨q4, a, b, q5⟩ | ⟨T, f, oT, q4, q5, r1, r2, r3, r4⟩
      · refine wpAny_pyNext_zipD2_item S (D1 _ hA1) (D2 _ hA1) q4 q1 q5 q2 q3 k1 k2 fun x y h' tk px py a1 a2 a3 a4 a5 a6 hk => ?_
        exact hQ s1.heap.objs.size x y h' tk ⟨px, py⟩ (.inl ⟨_, a5, rfl, _, rfl⟩)
          ⟨hk _ _ S.TIz S.TITO S.TIi1 S.TIi2 q1, a3, a4, .inr ⟨s1.heap.objs.size, false, _, a1, a5, new q4, new g1, new g2, Nat.ne_of_gt hds⟩⟩
          fun c o hc e => hk c o (fun x => hc (by simp [x])) (fun x => hc (by simp [x])) (fun x => hc (by simp [x])) (fun x => hc (by simp [x])) e
      · refine next_zipH_item S (D1 _ hA1) (D2 _ hA1) q4 q5 q1 q2 q3 k1 k2 fun x y h' tk px py a1 a3 a4 a5 a6 hk => ?_
        exact hQ s1.heap.objs.size x y h' tk ⟨px, py⟩ (.inl ⟨_, a5, rfl, _, rfl⟩)
          ⟨hk _ _ S.TIz S.TIi1 S.TIi2 q1, a3, a4, .inr ⟨T, true, oT, a1, hk _ _ r1 r2 r3 q5, r1, r2, r3, r4⟩⟩
          fun c o hc e => hk c o (fun x => hc (by simp [x])) (fun x => hc (by simp [x])) (fun x => hc (by simp [x])) e
    · obtain ⟨q1, q2, q3, q4⟩ := st
      have hend : min n1 n2 = n1 ∨ min n1 n2 = n2 := by omega
      rcases q4 with ⟨q4, a, b, q5⟩ | ⟨T, f, oT, q4, q5, r1, r2, r3, r4⟩
      · exact wpAny_pyNext_zipD2_end S (D1 _ hA1) (D2 _ hA1) q4 q1 q5 q2 q3 (Nat.min_le_left ..) (Nat.min_le_right ..) hend fun h' tk hk => hQ h' tk fun c o hc e => hk c o (fun x => hc (by simp [x])) (fun x => hc (by simp [x])) (fun x => hc (by simp [x])) (fun x => hc (by simp [x])) e
      · exact next_zipH_end S (D1 _ hA1) (D2 _ hA1) q4 q5 q1 q2 q3 (Nat.min_le_left ..) (Nat.min_le_right ..) hend fun h' tk hk => hQ h' tk fun c o hc e => hk c o (fun x => hc (by simp [x])) (fun x => hc (by simp [x])) (fun x => hc (by simp [x])) e
end TP
/-! TPu: new dicts: dict(d), dict(pairs), dict(zip(a, b)). -/
namespace TP
open PySem L2
section
variable {X : Cx}
/-! ### dict(zip(a, b)) of two tuples -/
def tDictZip (K : PySem.W.Frag) (t : TA) : TE := fun σ H Q => t σ H fun vs H1 => ∃ (a b : Addr) (ks : List Key) (ys : List V), vs = [.ref a, .ref b] ∧ SqT K H1 a (ks.map kV) ∧ SqT K H1 b ys ∧ ∀ p, H1 p = none → Q (.ref p) (upd H1 p (.dK (mergeK [] (ks.zip ys))))
theorem kv_zip : ∀ (ks : List Key) {ys : List V} {us : List Value}, Vals ys us → KV (ks.zip ys) (ks.zip us)
  | [], _, _, _ => .nil
  | _ :: _, _, _, .nil => .nil
  | k :: ks, _, _, .cons h t => .cons ⟨rfl, h⟩ (kv_zip ks t)
open PySem.Spec PyProof.Rows in
theorem pe_dictzip {e1 e2 : Expr} {t : TA} {p1 p2 pos1 pos2 : Pos} (ha : PA X [e1, e2] t) (hc : X.calm = true) (hgd : Gl X "dict") (hmd : X.mg "dict" = none) (hgz : Gl X "zip") (hmz : X.mg "zip" = none)
    (he1 : starEach [e1, e2] X.env = (false, eval e1 X.env) :: starEach [e2] X.env := by rfl) (hp1 : (backTo pos2 (starEach [e2] X.env)).any (·.1) = false := by rfl)
    (he2 : starEach [.Call (.Name "zip" p2) [e1, e2] [] pos2] X.env = (false, eval (.Call (.Name "zip" p2) [e1, e2] [] pos2) X.env) :: starEach [] X.env := by rfl) :
    PE X (.Call (.Name "dict" p1) [.Call (.Name "zip" p2) [e1, e2] [] pos2] [] pos1) (tDictZip X.K t) := by
  have bd : bootBuiltins "dict" = some (.type "dict") := by decide +kernel
  have bz : bootBuiltins "zip" = some (.type "zip") := by decide +kernel
  constructor
  intro pins s σ H Q I h
  refine wpAny_Call_Name_kw (ld_blt I hgd hmd bd (callWith_type1 ?_ he2 (by rfl)))
  rw [he2]
  show wpAny _ _ (spliced ((false, eval (.Call (.Name "zip" p2) [e1, e2] [] pos2) X.env) :: backTo pos1 (starEach [] X.env))) _ _ s
  refine Calls.spliced_cons (wpAny_Call_Name_kw (ld_blt I hgz hmz bz (callWith_type1 (thn (ha.run pos2 pins s σ H _ I h) ?_) he1 hp1)))
  rintro us s1 ⟨vs, H1, I1, r, a, b, ks, ys, rfl, ta, tb, q⟩
  obtain ⟨u1, u2, rfl, r1, r2⟩ := vals2 r
  obtain rfl : u1 = Value.ref a := r1
  obtain rfl : u2 = Value.ref b := r2
  obtain ⟨its1, rv1, h1, l1⟩ := I1.tuple ta
  obtain ⟨its2, rv2, h2, l2⟩ := I1.tuple tb
  generalize hN : s1.heap.objs.size = N
  refine zip_begins2 (begins_tuple a its1.toArray) (begins_tuple b its2.toArray) h1 h2 ?_
  intro h' hz hTI hTO g1 g2 hsz hk
  rw [hN] at hz hTI hTO g1 g2 hsz ⊢
  have la : a < N := by rw [← hN]; exact Heap.lt_size h1.choose_spec.1
  have lb : b < N := by rw [← hN]; exact Heap.lt_size h2.choose_spec.1
  refine Calls.spliced_nil ?_
  have hh : X.A.handled = none := I1.ok.hd hc
  have S := zip_sep2 (N := N) (fp1 := [a]) (fp2 := [b]) (fun c hc => by rw [List.mem_singleton] at hc; subst hc; exact la) (fun c hc => by rw [List.mem_singleton] at hc; subst hc; exact lb)
  have P := zipArg (prog := X.prog) (w := X.w) S (fun A hA => Draws.tuple hA N a (Nat.ne_of_lt la) its1.toArray) (fun A hA => Draws.tuple hA (N + 1) b (Nat.ne_of_lt (Nat.lt_succ_of_lt lb)) its2.toArray)
    (fun i h st c hc => by
      obtain ⟨⟨o, ho, _⟩, ⟨o2, ho2, _⟩⟩ := st
      simp only [List.mem_cons, List.not_mem_nil, or_false] at hc
      rcases hc with rfl | rfl
      · exact ⟨o, ho⟩
      · exact ⟨o2, ho2⟩)
    (fun i h st c hc => by
      obtain ⟨⟨o, ho, _⟩, ⟨o2, ho2, _⟩⟩ := st
      simp only [List.mem_cons, List.not_mem_nil, or_false] at hc
      rcases hc with rfl | rfl
      · exact ⟨o, ho⟩
      · exact ⟨o2, ho2⟩)
  have rel : KV (ks.zip ys) (ks.zip its2) := kv_zip ks rv2
  have lk : its1.length = ks.length := by rw [← rv1.length, List.length_map]
  refine call_dict_pairs (knd := mixKind X.prog X.w) (kvs := ks.zip its2) P hh ⟨hz, hTI, ⟨_, _, hTO⟩, ⟨⟨_, g1, rfl, rfl⟩, h1.keeps hk⟩, ⟨⟨_, g2, rfl, rfl⟩, h2.keeps hk⟩⟩ ⟨?_, ?_⟩ ?_ ?_
  · rw [List.length_zip, List.size_toArray, List.size_toArray, lk]
  · rintro i key v ⟨k1, k2⟩
    rw [List.getElem?_toArray] at k1 k2
    have hi : i < its1.length := (List.getElem?_eq_some_iff.mp k1).1
    have hik : i < ks.length := by omega
    obtain ⟨u, hu, ru⟩ := rv1.get (i := i) (x := kV ks[i]) (by rw [List.getElem?_map, List.getElem?_eq_getElem hik]; rfl)
    rw [k1] at hu
    cases hu
    exact ⟨ks[i], by rw [List.getElem?_zip_eq_some]; exact ⟨List.getElem?_eq_getElem hik, k2⟩, kV_is ru⟩
  · rw [List.size_toArray, List.size_toArray]
    have := rv2.length
    omega
  · intro h'' tk hd hk2
    have hbig : sysModules < N := by rw [← hN]; exact I1.big
    have hb : N + 5 ≠ sysModules := Nat.ne_of_gt (Nat.lt_of_lt_of_le hbig (Nat.le_add_right N 5))
    have hm : ((N + 5 : Addr) == sysModules) = false := beq_eq_false_iff_ne.mpr hb
    rw [hsz] at hd ⊢
    have hlen : (mergeK [] (ks.zip ys)).length ≤ sizeLine := by
      refine Nat.le_trans (length_mergeK (ks.zip ys) []) ?_
      rw [List.length_nil, Nat.zero_add, List.length_zip]
      have := rv2.length
      omega
    have keep : ∀ c u, s1.heap.get? c = some u → h''.get? c = some u := fun c u e => by
      have lc : c < N := by rw [← hN]; exact Heap.lt_size e
      refine hk2 c u (fun hm => ?_) (hk c u e)
      simp only [List.mem_cons, List.not_mem_nil, or_false] at hm
      rcases hm with x | x | x | x
      · exact Nat.ne_of_lt (Nat.lt_of_lt_of_le lc (Nat.le_add_right N 4)) x
      · exact Nat.ne_of_lt (Nat.lt_of_lt_of_le lc (Nat.le_add_right N 3)) x
      · exact Nat.ne_of_lt lc x
      · exact Nat.ne_of_lt (Nat.lt_of_lt_of_le lc (Nat.le_add_right N 1)) x
    refine ⟨.ref (N + 5), upd H1 (N + 5) (.dK (mergeK [] (ks.zip ys))), ?_, rfl, q _ (I1.hok.fresh (by rw [hN]; exact Nat.le_add_right N 5))⟩
    exact I1.laid (t' := tk) keep (by rw [hN]; exact Nat.le_add_right N 5) (show ObjOk X.prog X.w _ _ _ (.dK (mergeK [] (ks.zip ys))) from ⟨hlen, hm, merged [] (ks.zip its2), KV.merge rel .nil, hd⟩)
/-! ### dict(pairs), keys that are tuples -/
def mergeT (kvs : List (List Key × V)) (qs : List (List Key × Addr × V)) : List (List Key × V) := qs.foldl (fun acc q => putK acc q.1 q.2.2) kvs
def rDictT (K : PySem.W.Frag) : List V → Hp → VK → Prop := fun xs H Q => ∃ (a : Addr) (ps : List Addr) (qs : List (List Key × Addr × V)), xs = [.ref a] ∧ SqL K H a (ps.map V.ref) ∧
  Paired (fun p q => SqT K H p [.ref q.2.1, q.2.2] ∧ H q.2.1 = some (.tup (q.1.map kV))) ps qs ∧ ∀ p, H p = none → Q (.ref p) (upd H p (.dT (mergeT [] qs)))
theorem pairsT_of {pins : List (Addr × Obj)} {σ : L2.St} {H : Hp} {s : Shared} (I : L2.Inv X pins σ H s) : ∀ {ps : List Addr} {qs : List (List Key × Addr × V)}, Paired (fun p (q : List Key × Addr × V) => SqT X.K H p [.ref q.2.1, q.2.2] ∧ H q.2.1 = some (.tup (q.1.map kV))) ps qs →
    ∃ rs : List (List Key × Addr × Value), Paired (fun (q : List Key × Addr × V) (r : List Key × Addr × Value) => q.1 = r.1 ∧ q.2.1 = r.2.1 ∧ RelV q.2.2 r.2.2) qs rs ∧ rs.length = ps.length ∧
      ∀ (j : Nat) (r : List Key × Addr × Value), rs[j]? = some r → ∃ b, ps[j]? = some b ∧ PyProof.Rows.IsTup s.heap b #[.ref r.2.1, r.2.2] ∧ H r.2.1 = some (.tup (r.1.map kV))
  | _, _, .nil => ⟨[], .nil, rfl, fun j r e => by simp at e⟩
  | _, _, .cons (a := p) (b := q) h t => by
    obtain ⟨rs, r1, r2, r3⟩ := pairsT_of I t
    obtain ⟨its, rv, ht, _⟩ := I.tuple h.1
    obtain ⟨u, y, ei, ru, ry⟩ := vals2 rv
    subst ei
    obtain rfl : u = Value.ref q.2.1 := ru
    refine ⟨(q.1, q.2.1, y) :: rs, .cons ⟨rfl, rfl, ry⟩ r1, by rw [List.length_cons, List.length_cons, r2], fun j r e => ?_⟩
    cases j with
    | zero =>
      have e' : (q.1, q.2.1, y) = r := Option.some.inj e
      subst e'
      exact ⟨p, rfl, ht, h.2⟩
    | succ j =>
      obtain ⟨b, e1, e2, e3⟩ := r3 j r (by simpa using e)
      exact ⟨b, by simpa using e1, e2, e3⟩
theorem kt_fold {H : Hp} : ∀ {qs : List (List Key × Addr × V)} {rs : List (List Key × Addr × Value)} {kvs : List (List Key × V)} {xs : List (List Key × Addr × Value)},
    Paired (fun (q : List Key × Addr × V) (r : List Key × Addr × Value) => q.1 = r.1 ∧ q.2.1 = r.2.1 ∧ RelV q.2.2 r.2.2) qs rs → (∀ q ∈ qs, H q.2.1 = some (.tup (q.1.map kV))) → KT H kvs xs → KT H (mergeT kvs qs) (storedAllH xs rs)
  | _, _, kvs, xs, .nil, _, h => h
  | _, _, kvs, xs, .cons (a := q) (b := r) h t, hq, hk => by
    obtain ⟨k', b', y'⟩ := r
    obtain ⟨k, b, y⟩ := q
    obtain ⟨e1, e2, e3⟩ := h
    have e1 : k = k' := e1
    have e2 : b = b' := e2
    subst e1 e2
    have e3 : RelV y y' := e3
    have hb : H b = some (.tup (k.map kV)) := hq (k, b, y) List.mem_cons_self
    show KT H (mergeT (putK kvs k y) _) (storedAllH (storedH xs k b y') _)
    exact kt_fold (kvs := putK kvs k y) (xs := storedH xs k b y') t (fun q hm => hq q (List.mem_cons_of_mem _ hm)) (hk.put k hb e3)
theorem mergeT_len : ∀ (qs : List (List Key × Addr × V)) (kvs : List (List Key × V)), (mergeT kvs qs).length ≤ kvs.length + qs.length
  | [], kvs => Nat.le_refl _
  | q :: qs, kvs => by
    have h1 := mergeT_len qs (putK kvs q.1 q.2.2)
    have h2 : (putK kvs q.1 q.2.2).length ≤ kvs.length + 1 := by
      unfold putK
      split
      · rw [List.length_map]; omega
      · rw [List.length_append]; exact Nat.le_refl _
    rw [List.length_cons]
    show (mergeT (putK kvs q.1 q.2.2) qs).length ≤ _
    omega
open PySem.Spec PyProof.Rows in
theorem call_dictT (hcalm : X.calm = true) (hu : X.A.units + 200 < cLine) : CallR X (.type "dict") (rDictT X.K) := by
  intro pins s σ H xs us Q I r h
  obtain ⟨a, ps, qs, rfl, hq, hp, q⟩ := h
  obtain ⟨u, rfl, rx⟩ := vals1 r
  obtain rfl : u = Value.ref a := rx
  obtain ⟨its, rv, pl, hz⟩ := I.list hq
  have ei := refs_at rv
  subst ei
  rw [List.length_map] at hz
  obtain ⟨rs, rel, hl, hr⟩ := pairsT_of I hp
  obtain ⟨o, n, ho, hc, hd, hdat⟩ := pl
  have P := PairArg.list (prog := X.prog) (w := X.w) a (ps.map Value.ref).toArray (fun j => ps.getD j 0) (rs.map fun x => (Value.ref x.2.1, x.2.2))
  have key : ∀ x ∈ rs, H x.2.1 = some (.tup (x.1.map kV)) := fun x hx => by
    obtain ⟨j, hj⟩ := List.getElem?_of_mem hx
    obtain ⟨b, _, _, e⟩ := hr j x hj
    exact e
  refine call_dict_pairsH (knd := tupleKind (mixKind X.prog X.w)) (ps := rs) P (I.ok.hd hcalm) (by show X.A.in1.in1.units < cLine; show X.A.units + 1 + 1 < cLine; omega) ⟨⟨o, n, ho, hc, hd, hdat⟩, by simp [hl], fun j k v hj => ?_⟩ ⟨by rw [List.length_map], fun j k v hj => ?_⟩ (fun h' hk x hx => ?_) (by rw [List.length_map, hl]; exact hz) fun h' tk hd' hk => ?_
  · rw [List.getElem?_map] at hj
    cases hx : rs[j]? with
    | none => rw [hx] at hj; cases hj
    | some x =>
      rw [hx] at hj
      cases hj
      obtain ⟨b, e1, e2, _⟩ := hr j x hx
      refine ⟨by simp [e1], .inl ?_⟩
      show s.heap.IsTuple (ps.getD j 0) _
      rw [show ps.getD j 0 = b by simp [e1]]
      exact e2
  · have hj' : (rs.map fun x => (Value.ref x.2.1, x.2.2))[j]? = some (k, v) := hj
    rw [List.getElem?_map] at hj'
    cases hx : rs[j]? with
    | none => rw [hx] at hj'; cases hj'
    | some x =>
      rw [hx] at hj'
      cases hj'
      exact ⟨x.1, x.2.1, rfl, rfl⟩
  · obtain ⟨ob, iv, nv, hob, r⟩ := (show IsTupleKey (mixKind X.prog X.w) s.heap x.1 x.2.1 from key_of I.hok (key x hx))
    exact ⟨ob, iv, nv, hk _ _ (Nat.ne_of_lt (Heap.lt_size hob)) (by simp) hob, r⟩
  · have hm : (s.heap.objs.size == sysModules) = false := beq_eq_false_iff_ne.mpr (Nat.ne_of_gt I.big)
    have lq : qs.length = ps.length := by
      have : ∀ {α β : Type} {R : α → β → Prop} {l : List α} {m : List β}, Paired R l m → l.length = m.length := fun {α β R l m} h => by
        induction h with
        | nil => rfl
        | cons _ _ ih => rw [List.length_cons, List.length_cons, ih]
      exact (this hp).symm
    have hlen : (mergeT [] qs).length ≤ sizeLine := by
      refine Nat.le_trans (mergeT_len qs []) ?_
      rw [List.length_nil, Nat.zero_add, lq]
      exact hz
    have hqk : ∀ x ∈ qs, H x.2.1 = some (.tup (x.1.map kV)) := by
      have : ∀ {ps : List Addr} {qs : List (List Key × Addr × V)}, Paired (fun p (q : List Key × Addr × V) => SqT X.K H p [.ref q.2.1, q.2.2] ∧ H q.2.1 = some (.tup (q.1.map kV))) ps qs → ∀ x ∈ qs, H x.2.1 = some (.tup (x.1.map kV)) := fun {ps qs} h => by
        induction h with
        | nil => intro x hx; cases hx
        | cons h1 _ ih =>
          intro x hx
          rcases List.mem_cons.mp hx with rfl | hx
          · exact h1.2
          · exact ih x hx
      exact this hp
    have fr : H s.heap.objs.size = none := I.hok.fresh (Nat.le_refl _)
    have kt : KT (upd H s.heap.objs.size (.dT (mergeT [] qs))) (mergeT [] qs) (storedAllH [] rs) := (kt_fold rel hqk .nil).keeps fun b ys e => by rw [upd_ne (ne_of_none e fr)]; exact e
    obtain ⟨o', es, ep, d1, d2, d3, d4, _, d6⟩ := hd'
    exact ⟨.ref s.heap.objs.size, upd H s.heap.objs.size (.dT (mergeT [] qs)), I.laid (t' := tk) (fun b u e => hk b u (by simp) e) (Nat.le_refl _) (show ObjOk X.prog X.w _ _ _ (.dT (mergeT [] qs)) from ⟨hlen, hm, storedAllH [] rs, kt, o', es, ep, d1, d2, d3, d4, d6⟩), rfl, q _ fr⟩
end
section
variable {K : PySem.W.Frag} {E : Wish} {X : Cx} {e : Expr}
/-! ### a new thing of the store, by what is handed in -/
def PrimD (K : PySem.W.Frag) (r : List V → Hp → VK → Prop) (g : Store → D → Option MO) : Prop := ∀ (w : Wd) (vx : V) (x : D) (o : MO) (Q : VK), w.Ok K → RepB K w vx x → g w.M x = some o →
  (∀ p ho, w.H p = none → MoR K ⟨w.A, w.G, w.M, upd w.H p ho⟩ p o → Q (.ref p) (upd w.H p ho)) → r [vx] w.H Q
def dNewD (g : Store → D → Option MO) (fo : FD) : FD := fun ρ M => (fo ρ M).bind fun x M => match g M x with
  | some o => .ok (.ref M.length) (M ++ [o])
  | none => .bad
theorem x_newD {r : List V → Hp → VK → Prop} {g : Store → D → Option MO} {fo : FD} (h : PE X e (tCB r (tAR K E (dCons fo dNil)))) (p : PrimD K r g) : PE X e (tF K E (dNewD g fo)) := PE.wk h fun σ H Q ⟨ρ, w, e1, ok, sr, a⟩ => by
  refine ⟨ρ, w, e1, ok, sr, ?_⟩
  unfold dNewD at a
  cases hfo : fo ρ w.M with
  | bad => rw [hfo] at a; exact a.elim
  | exc c d M1 =>
    rw [hfo] at a
    unfold dCons
    rw [hfo]
    exact a
  | ok x M1 =>
    rw [hfo] at a
    unfold dCons
    rw [hfo]
    intro w1 s1 eM vs rvs
    cases rvs with
    | cons rv t =>
      cases t
      have a' := a
      simp only [R.bind_ok] at a'
      split at a'
      · rename_i o ho
        refine p w1 _ x o Q s1.ok rv (by rw [eM]; exact ho) fun q hob hq hm => ?_
        obtain ⟨st, hA⟩ := new_obj (o := hob) (m := o) s1.ok hq hm
        have a2 : ∀ w', Step K w w' → w'.M = M1 ++ [o] → ∀ v, Rep K w'.A w'.G v (.ref M1.length) → Q v w'.H := a'
        refine a2 _ (s1.trans st) (by rw [eM]) _ ?_
        rw [← eM]
        exact .ref hA
      · exact a'.elim
/-! ### dict(d) -/
def rDictD : List V → Hp → VK → Prop := fun xs H Q => ∃ (a : Addr) (kvs : List (Key × V)), xs = [.ref a] ∧ Rd H a (.dK kvs) ∧ ∀ p, H p = none → Q (.ref p) (upd H p (.dK kvs))
def copyD (M : Store) (x : D) : Option MO := match x with
  | .ref k => match M[k]? with
    | some (.dK kvs) => some (.dK kvs)
    | _ => none
  | _ => none
theorem p_copyD : PrimD K rDictD copyD := by
  intro w vx x o Q ok rx h k
  unfold copyD at h
  split at h
  · rename_i j
    split at h
    · rename_i kvs e2
      cases h
      obtain ⟨p, rfl, ea⟩ := ref_at rx
      obtain ⟨p', ea', vs, hH, rk⟩ := ok.mos j _ e2
      rw [ea] at ea'
      cases ea'
      exact ⟨p, vs, rfl, .inl hH, fun q hq => k q _ hq ⟨vs, upd_same, rk⟩⟩
    · cases h
  · cases h
/-! ### dict(pairs) -/
def mergeP {κ : Type} [DecidableEq κ] (acc kvs : List (κ × D)) : List (κ × D) := kvs.foldl (fun acc kv => putD acc kv.1 kv.2) acc
def pairsK : List D → Option (List (Key × D))
  | [] => some []
  | .tup [k, v] :: ds => match keyD k, pairsK ds with
    | some k, some r => some ((k, v) :: r)
    | _, _ => none
  | _ => none
def pairsT : List D → Option (List (List Key × D))
  | [] => some []
  | .tup [.tup k, v] :: ds => match keysD k, pairsT ds with
    | some k, some r => some ((k, v) :: r)
    | _, _ => none
  | _ => none
def rDictP (K : PySem.W.Frag) : List V → Hp → VK → Prop := fun xs H Q => ∃ (a : Addr) (ps : List Addr) (kvs : List (Key × V)), xs = [.ref a] ∧ SqL K H a (ps.map V.ref) ∧ Paired (fun p kv => SqT K H p [kV kv.1, kv.2]) ps kvs ∧
  ∀ p, H p = none → Q (.ref p) (upd H p (.dK (mergeK [] kvs)))
theorem pairsK_at {A : List Addr} {G H : Hp} (sub : Same G H) : ∀ {vs : List V} {ds : List D} {kvs : List (Key × D)}, RepL K A G vs ds → pairsK ds = some kvs →
    ∃ (ps : List Addr) (kv : List (Key × V)), vs = ps.map V.ref ∧ Paired (fun p kv => SqT K H p [kV kv.1, kv.2]) ps kv ∧ RepKV (Rep K A G) kv kvs
  | [], [], _, _, h => by
    unfold pairsK at h
    cases h
    exact ⟨[], [], rfl, .nil, .nil⟩
  | v :: vs, d :: ds, kvs, .cons r t, h => by
    unfold pairsK at h
    split at h
    · rename_i heq; cases heq
    · rename_i k d2 ds2 heq
      cases heq
      split at h
      · rename_i key rest hk hr
        cases h
        obtain ⟨ps, kv, rfl, hp, hrk⟩ := pairsK_at sub t hr
        cases r with
        | @tup a us _ hs rl =>
          cases rl with
          | cons r1 t1 =>
            cases t1 with
            | cons r2 t2 =>
              cases t2
              have e := key_at r1 hk
              subst e
              exact ⟨a :: ps, (key, _) :: kv, rfl, .cons (.inl (.inl (sub _ _ hs))) hp, .cons r2 hrk⟩
      · cases h
    · cases h
theorem pairsT_at {A : List Addr} {G H : Hp} (sub : Same G H) : ∀ {vs : List V} {ds : List D} {kvs : List (List Key × D)}, RepL K A G vs ds → pairsT ds = some kvs →
    ∃ (ps : List Addr) (qs : List (List Key × Addr × V)), vs = ps.map V.ref ∧ Paired (fun p (q : List Key × Addr × V) => SqT K H p [.ref q.2.1, q.2.2] ∧ H q.2.1 = some (.tup (q.1.map kV))) ps qs ∧ RepKV (Rep K A G) (qs.map fun q => (q.1, q.2.2)) kvs
  | [], [], _, _, h => by
    unfold pairsT at h
    cases h
    exact ⟨[], [], rfl, .nil, .nil⟩
  | v :: vs, d :: ds, kvs, .cons r t, h => by
    unfold pairsT at h
    split at h
    · rename_i heq; cases heq
    · rename_i k d2 ds2 heq
      cases heq
      split at h
      · rename_i key rest hk hr
        cases h
        obtain ⟨ps, qs, rfl, hp, hrk⟩ := pairsT_at sub t hr
        cases r with
        | @tup a us _ hs rl =>
          cases rl with
          | cons r1 t1 =>
            cases t1 with
            | cons r2 t2 =>
              cases t2
              cases r1 with
              | @tup b ks _ hb rb =>
                have e := keys_at rb hk
                subst e
                exact ⟨a :: ps, (key, b, _) :: qs, rfl, .cons ⟨.inl (.inl (sub _ _ hs)), sub _ _ hb⟩ hp, .cons r2 hrk⟩
      · cases h
    · cases h
theorem merge_kv {κ : Type} [DecidableEq κ] {R : V → D → Prop} : ∀ {kv : List (κ × V)} {kd : List (κ × D)} {av : List (κ × V)} {ad : List (κ × D)}, RepKV R kv kd → RepKV R av ad → RepKV R (kv.foldl (fun acc x => putK acc x.1 x.2) av) (mergeP ad kd)
  | _, _, av, ad, .nil, h => h
  | (k, v) :: kv, (_, d) :: kd, av, ad, .cons r t, h => by
    show RepKV R (kv.foldl (fun acc x => putK acc x.1 x.2) (putK av k v)) (mergeP (putD ad k d) kd)
    exact merge_kv t (h.put r k)
def pairKD (M : Store) (x : D) : Option MO := match lstOf M x with
  | some ds => (pairsK ds).map fun kvs => .dK (mergeP [] kvs)
  | none => none
theorem p_pairKD : PrimD K (rDictP K) pairKD := by
  intro w vx x o Q ok rx h k
  unfold pairKD at h
  split at h
  · rename_i ds e1
    cases hp : pairsK ds with
    | none => rw [hp] at h; cases h
    | some kvs =>
      rw [hp] at h
      cases h
      obtain ⟨p, vs, rfl, hs, rl⟩ := lst_at ok rx e1
      obtain ⟨ps, kv, rfl, h1, h2⟩ := pairsK_at ok.sub rl hp
      exact ⟨p, ps, kv, rfl, .inl (.inl hs), h1, fun q hq => k q _ hq ⟨_, upd_same, merge_kv h2 .nil⟩⟩
  · cases h
def pairTD (M : Store) (x : D) : Option MO := match lstOf M x with
  | some ds => (pairsT ds).map fun kvs => .dT (mergeP [] kvs)
  | none => none
theorem mergeT_eq (qs : List (List Key × Addr × V)) : ∀ acc, mergeT acc qs = (qs.map fun q => (q.1, q.2.2)).foldl (fun acc x => putK acc x.1 x.2) acc := by
  induction qs with
  | nil => intro acc; rfl
  | cons q qs ih => intro acc; exact ih _
theorem p_pairTD : PrimD K (rDictT K) pairTD := by
  intro w vx x o Q ok rx h k
  unfold pairTD at h
  split at h
  · rename_i ds e1
    cases hp : pairsT ds with
    | none => rw [hp] at h; cases h
    | some kvs =>
      rw [hp] at h
      cases h
      obtain ⟨p, vs, rfl, hs, rl⟩ := lst_at ok rx e1
      obtain ⟨ps, qs, rfl, h1, h2⟩ := pairsT_at ok.sub rl hp
      refine ⟨p, ps, qs, rfl, .inl (.inl hs), h1, fun q hq => k q _ hq ⟨_, upd_same, ?_⟩⟩
      rw [mergeT_eq]
      exact merge_kv h2 .nil
  · cases h
/-! ### dict(zip(a, b)) -/
def dDictZ (fs : FL) : FD := fun ρ M => (fs ρ M).bind fun ds M => match ds with
  | [.tup xs, .tup ys] => match keysD xs with
    | some ks => .ok (.ref M.length) (M ++ [.dK (mergeP [] (ks.zip ys))])
    | none => .bad
  | _ => .bad
theorem zip_kv {R : V → D → Prop} : ∀ (ks : List Key) {vs : List V} {ds : List D}, (∀ (i : Nat) (v : V), vs[i]? = some v → ∃ d, ds[i]? = some d ∧ R v d) → vs.length = ds.length → RepKV R (ks.zip vs) (ks.zip ds)
  | [], _, _, _, _ => .nil
  | _ :: _, [], [], _, _ => .nil
  | k :: ks, v :: vs, d :: ds, h, hl => by
    obtain ⟨d', e, r⟩ := h 0 v rfl
    cases e
    exact .cons r (zip_kv ks (fun i x hx => by
      obtain ⟨y, h1, h2⟩ := h (i + 1) x (by simpa using hx)
      exact ⟨y, by simpa using h1, h2⟩) (by simpa using hl))
  | _ :: _, [], _ :: _, _, hl => by cases hl
  | _ :: _, _ :: _, [], _, hl => by cases hl
theorem x_dictZ {fs : FL} (h : PE X e (tDictZip K (tAF K E fs))) : PE X e (tF K E (dDictZ fs)) := PE.wk h fun σ H Q ⟨ρ, w, e1, ok, sr, a⟩ =>
  ⟨ρ, w, e1, ok, sr, a.bind.imp fun ds w1 s1 a1 vs rvs => by
    split at a1
    · rename_i xs ys
      split at a1
      · rename_i ks hk
        cases rvs with
        | cons r1 t1 =>
          cases t1 with
          | cons r2 t2 =>
            cases t2
            cases r1 with
            | @tup p us _ hs rl =>
              cases r2 with
              | @tup q ws _ hs2 rl2 =>
                have e := keys_at rl hk
                subst e
                refine ⟨p, q, ks, ws, rfl, .inl (.inl (s1.ok.sub _ _ hs)), .inl (.inl (s1.ok.sub _ _ hs2)), fun n hn => ?_⟩
                obtain ⟨st, hA⟩ := new_obj (o := .dK (mergeK [] (ks.zip ws))) (m := .dK (mergeP [] (ks.zip ys))) s1.ok hn ⟨_, upd_same, merge_kv (zip_kv ks (fun i v hv => rl2.get' hv) rl2.length) .nil⟩
                have a2 : ∀ w', Step K w1 w' → w'.M = w1.M ++ [.dK (mergeP [] (ks.zip ys))] → ∀ v, Rep K w'.A w'.G v (.ref w1.M.length) → Q v w'.H := a1
                exact a2 _ st rfl _ (.ref hA)
      · exact a1.elim
    · exact a1.elim⟩
end
end TP
/-! TPv: what the printed proofs of classes use besides. -/
namespace TP
open PySem L2
/-- a, b = a list -/
def bLst (is : List Nat) : D → EnvD → Option EnvD := fun d ρ => match d with
  | .lst ds => bNames is ds ρ
  | _ => none
theorem x_glst {X : Cx} {K : PySem.W.Frag} {tg : Expr} {is : List Nat} {n : Nat} (hn : n = is.length) (h : PG X tg (gLst K n (gNames is))) : PG X tg (tG K (bLst is) is) := PG.wk h fun v σ H Q ⟨ρ, w, d, ρ', e1, ok, sr, r, eb, k⟩ => by
  subst e1
  unfold bLst at eb
  split at eb
  · cases r with
    | lst hs rl =>
      refine ⟨_, _, rfl, .inl (.inl (ok.sub _ _ hs)), by rw [rl.length, ← bNames_len eb, hn], ?_⟩
      exact gNames_ok ok is _ _ ρ ρ' σ sr rl eb k
  · cases eb
/-- a, b = x, []: the second is a list of its own -/
def sParO (i j : Nat) (f : FD) (g : FE) : FS := fun ρ M => (f ρ M).out fun x M => (g ρ M).out fun y M => match y with
  | .val d => .next ((ρ.set i (.val x)).set j (.val d)) M
  | .own ds => .next ((ρ.set i (.val x)).set j (.own ds)) M
  | .un => .bad
theorem s_parO {X : Cx} {K : PySem.W.Frag} {E : Wish} {st : Stmt} {i j : Nat} {f : FD} {g : FE} (h : PS X st (tPar i j (tCons (tF K E f) (tCons (tE K E g) tNil)))) : PS X st (tS K E (sParO i j f g)) := PS.wk h fun D σ H ⟨ρ, w, w0, e1, s, sr, of, p⟩ =>
  ⟨ρ, w, e1, s.ok, sr, (out_after s p).imp fun x w1 s1 p1 v rv => ⟨ρ, w1, rfl, s1.ok, sr.step s1, (out_after (s.trans s1) p1).imp fun y w2 s2 p2 u ru => by
    refine ⟨_, _, rfl, ?_⟩
    cases y with
    | un => exact p2.elim
    | val d =>
      have sr2 : SR K w2 ((ρ.set i (.val x)).set j (.val d)) ((σ.set i (some v)).set j (some u)) := (((sr.step s1).set i rv).step s2).set j ru
      exact p2 w2 _ ((s.trans s1).trans s2) (Le.refl _) rfl sr2 (of.sub ((OwnSub.set ρ σ i (fun _ z => by cases z) _).trans (OwnSub.set _ _ j (fun _ z => by cases z) _)))
    | own ds => exact p2 w2 _ ((s.trans s1).trans s2) (Le.refl _) rfl (((sr.step s1).set i rv).setOwn s2 j ru) ((of.sub (OwnSub.set ρ σ i (fun _ z => by cases z) _)).setOwn (s.trans s1) j ru)⟩⟩
/-- the n-th statement of a class -/
def clsS (s : Stmt) (n : Nat) : Stmt := match s with
  | .ClassDef (body := b) .. => b.getD n (.Pass ⟨0, 0, 0, 0⟩)
  | _ => .Pass ⟨0, 0, 0, 0⟩
theorem clsAt_of {K : PySem.W.Frag} {c : Str} {C : Addr} (h : PySem.W.nsIn K mainGlobals c = some (some (.ref C))) : clsAt K c = C := by
  unfold clsAt
  rw [h]
theorem cls_mk {K : PySem.W.Frag} {c : Str} {C : Addr} (h : PySem.W.nsIn K mainGlobals c = some (some (.ref C))) (h1 : PySem.W.plainGet K C Str.empty = true) (h2 : PySem.W.hasDictIn K C = true) (h3 : PySem.W.plainOver K C = true) (h4 : PySem.W.findIn K (.ref C) "__setattr__" = some (some (.builtin "object.__setattr__"))) : Cls K (clsAt K c) := by
  rw [clsAt_of h]
  exact ⟨h1, h2, h3, h4⟩
theorem mk_mk {K : PySem.W.Frag} {c : Str} {C f : Addr} (h : PySem.W.nsIn K mainGlobals c = some (some (.ref C))) (h1 : PySem.W.makesIn K C = true) (h2 : PySem.W.findIn K (.ref C) "__init__" = some (some (.ref f))) (h3 : PySem.W.isFn K (.ref f) = true) (h4 : PySem.W.keepIn K (.ref C) = true) : Mk K (clsAt K c) f := by
  rw [clsAt_of h]
  exact ⟨h1, h2, h3, h4⟩
theorem meth_mk {K : PySem.W.Frag} {c m : Str} {C f : Addr} (h : PySem.W.nsIn K mainGlobals c = some (some (.ref C))) (h1 : PySem.W.findIn K (.ref C) m = some (some (.ref f))) (h2 : PySem.W.isFn K (.ref f) = true) (h3 : PySem.W.keepIn K (.ref f) = true) : Meth K (clsAt K c) m f := by
  rw [clsAt_of h]
  exact ⟨h1, h2, h3⟩
theorem na_mk {K : PySem.W.Frag} {c m : Str} {C : Addr} (h : PySem.W.nsIn K mainGlobals c = some (some (.ref C))) (h1 : PySem.W.findIn K (.ref C) m = some none) : NoAttr K (clsAt K c) m := by
  rw [clsAt_of h]
  exact h1
theorem tab_nil {P : Str → Nat → Prop} : ∀ c i, ([] : List (Str × Nat)).lookup c = some i → P c i := fun c i h => by simp at h
theorem tab_cons {P : Str → Nat → Prop} {c0 : Str} {i0 : Nat} {tab : List (Str × Nat)} (h0 : P c0 i0) (h : ∀ c i, tab.lookup c = some i → P c i) : ∀ c i, ((c0, i0) :: tab).lookup c = some i → P c i := fun c i e => by
  rw [List.lookup_cons] at e
  cases hb : c == c0 with
  | true =>
    rw [hb] at e
    cases e
    rw [beq_iff_eq.mp hb]
    exact h0
  | false =>
    rw [hb] at e
    exact h c i e
section
variable {K : PySem.W.Frag} {E : Wish} {X : Cx} {e : Expr} {st : Stmt}
theorem x_methC0 {We : XK → Wish} {n : Nat} {m : Str} {tab : List (Str × Nat)} {Φ : Nat → Fn} {EX : XK} {fo : FD} (hE : We EX = E) (h0 : ∃ c i, tab.lookup c = some i)
    (h : ∀ c i, tab.lookup c = some i → PE X e (tMeth (clsAt K c) m (spD K We n (Φ i)) [] EX (tR K E fo) tNil)) : PE X e (tE K E (dMethC n m tab Φ fo dNil)) := by
  constructor
  intro pins s σ H Q I ⟨ρ, w, e1, ok, sr, a⟩
  unfold dMethC at a
  cases hfo : fo ρ w.M with
  | bad => rw [hfo] at a; exact a.elim
  | exc c d M1 =>
    rw [hfo] at a
    obtain ⟨c0, i0, hc0⟩ := h0
    refine (h c0 i0 hc0).run pins s σ H Q I ⟨ρ, w, e1, ok, sr, ?_⟩
    rw [hfo]
    exact a
  | ok x M1 =>
    rw [hfo] at a
    have a' := a
    simp only [R.bind_ok] at a'
    split at a'
    · rename_i k
      split at a'
      · rename_i c fds e2
        split at a'
        · rename_i hl1 hl2
          rename_i i
          refine (h c i hl2).run pins s σ H Q I ⟨ρ, w, e1, ok, sr, ?_⟩
          rw [hfo]
          intro w1 s1 eM vx rx
          obtain ⟨p, rfl, ea⟩ := ref_at rx
          rw [← eM] at e2 a'
          obtain ⟨p', ea', io, vs, dx, hH, rk⟩ := s1.ok.mos k _ e2
          rw [ea] at ea'
          cases ea'
          refine ⟨p, dx, vs, rfl, hH, (kv_look m rk).2 hl1, ?_⟩
          show spD K We n (Φ i) [V.ref p] w1.H Q EX
          have a2 : After K E w1 (if 0 + 1 = n then Φ i [.ref k] w1.M else .bad) (fun sl w' => ∀ v, RepX K w w' v sl → Q v w'.H) := (a'.later s1).bind w1 (Step.refl s1.ok) rfl
          split at a2
          · rename_i hn
            refine ⟨hn, [.ref k], w1, rfl, s1.ok, .one (.ref ea), ?_⟩
            rw [hE]
            exact a2.imp fun sl w3 s3 q v rv => q v (rv.back s1)
          · exact a2.elim
        · exact a'.elim
      · exact a'.elim
    · exact a'.elim
/-! ### == and != with [] -/
def rEqL : R2 := fun x y H Q => ∃ l m xs, x = .ref l ∧ y = .ref m ∧ H l = some (.lst xs) ∧ H m = some (.lst []) ∧ Q (.bl xs.isEmpty) H
def rNeL : R2 := fun x y H Q => ∃ l m xs, x = .ref l ∧ y = .ref m ∧ H l = some (.lst xs) ∧ H m = some (.lst []) ∧ Q (.bl (!xs.isEmpty)) H
open SeqAt in
theorem op_neL (hu : X.A.units + 200 < cLine) : OpR X (compareOp .NotEq) rNeL := by
  intro pins s σ H x y v u Q I rx ry h
  obtain ⟨l, m, xs, rfl, rfl, hl, hm, q⟩ := h
  obtain rfl : v = Value.ref l := rx
  obtain rfl : u = Value.ref m := ry
  obtain ⟨its, rv, pl, _⟩ := I.list (xs := xs) (.inl (.inl hl))
  obtain ⟨its2, rv2, pm, _⟩ := I.list (xs := []) (.inl (.inl hm))
  cases rv2
  have hu1 : X.A.units < cLine := by omega
  cases rv with
  | nil =>
    have := RcNeAt.lists (A := X.A) (s := s) (e := fun _ => true) pl.isList pm.isList rfl hu1 (fun j h1 _ => absurd h1 (by simp))
    exact this X.prog X.w X.xe _ ⟨.bl false, H, I, rfl, q⟩
  | cons h1 t1 =>
    have := RcNeAt.lists_lengths (A := X.A) (s := s) pl.isList pm.isList (by simp) hu1
    exact this X.prog X.w X.xe _ ⟨.bl true, H, I, rfl, q⟩
open SeqAt in
theorem op_eqL (hu : X.A.units + 200 < cLine) : OpR X (compareOp .Eq) rEqL := by
  intro pins s σ H x y v u Q I rx ry h
  obtain ⟨l, m, xs, rfl, rfl, hl, hm, q⟩ := h
  obtain rfl : v = Value.ref l := rx
  obtain rfl : u = Value.ref m := ry
  obtain ⟨its, rv, pl, _⟩ := I.list (xs := xs) (.inl (.inl hl))
  obtain ⟨its2, rv2, pm, _⟩ := I.list (xs := []) (.inl (.inl hm))
  cases rv2
  have hu1 : X.A.units < cLine := by omega
  cases rv with
  | nil =>
    have := RcAt.lists (A := X.A) (s := s) (e := fun _ => true) pl.isList pm.isList rfl hu1 (fun j h1 _ => absurd h1 (by simp))
    exact this X.prog X.w X.xe _ ⟨.bl true, H, I, rfl, q⟩
  | cons h1 t1 =>
    have := RcAt.lists_lengths (A := X.A) (s := s) pl.isList pm.isList (by simp) hu1
    exact this X.prog X.w X.xe _ ⟨.bl false, H, I, rfl, q⟩
def eqLD (M : Store) (x y : D) : Option Slot := match lstOf M x, lstOf M y with
  | some xs, some [] => some (.val (.bl xs.isEmpty))
  | _, _ => none
def neLD (M : Store) (x y : D) : Option Slot := match lstOf M x, lstOf M y with
  | some xs, some [] => some (.val (.bl (!xs.isEmpty)))
  | _, _ => none
theorem isEmpty_at {A : List Addr} {G : Hp} {vs : List V} {ds : List D} (r : RepL K A G vs ds) : vs.isEmpty = ds.isEmpty := by cases r <;> rfl
theorem p_eqL : Prim2 K rEqL eqLD := by
  intro w vx vy x y s Q ok rx ry h k
  unfold eqLD at h
  split at h
  · rename_i xs e1 e2
    cases h
    obtain ⟨p, vs, rfl, hs, rl⟩ := lst_at ok rx e1
    obtain ⟨p2, vs2, rfl, hs2, rl2⟩ := lst_at ok ry e2
    cases rl2
    refine ⟨p, p2, vs, rfl, rfl, hs, hs2, ?_⟩
    rw [isEmpty_at rl]
    exact ans ok k fun _ _ => .bl _
  · cases h
theorem p_neL : Prim2 K rNeL neLD := by
  intro w vx vy x y s Q ok rx ry h k
  unfold neLD at h
  split at h
  · rename_i xs e1 e2
    cases h
    obtain ⟨p, vs, rfl, hs, rl⟩ := lst_at ok rx e1
    obtain ⟨p2, vs2, rfl, hs2, rl2⟩ := lst_at ok ry e2
    cases rl2
    refine ⟨p, p2, vs, rfl, rfl, hs, hs2, ?_⟩
    rw [isEmpty_at rl]
    exact ans ok k fun _ _ => .bl _
  · cases h
end
/-- how often a while may turn -/
@[irreducible] def Lw : Nat := 1000000000000
/-! ### sorted of ints -/
def insI (x : Int) : List Int → List Int
  | [] => [x]
  | y :: ys => if x ≤ y then x :: y :: ys else y :: insI x ys
def sortI : List Int → List Int
  | [] => []
  | x :: xs => insI x (sortI xs)
theorem insI_perm (x : Int) : ∀ ys : List Int, (insI x ys).Perm (x :: ys)
  | [] => .refl _
  | y :: ys => by
    unfold insI
    split
    · exact .refl _
    · exact ((insI_perm x ys).cons y).trans (.swap x y ys)
theorem sortI_perm : ∀ xs : List Int, (sortI xs).Perm xs
  | [] => .refl _
  | x :: xs => (insI_perm x _).trans ((sortI_perm xs).cons x)
theorem insI_sorted (x : Int) : ∀ {ys : List Int}, ys.Pairwise (· ≤ ·) → (insI x ys).Pairwise (· ≤ ·)
  | [], _ => by unfold insI; exact List.pairwise_singleton _ _
  | y :: ys, h => by
    unfold insI
    rw [List.pairwise_cons] at h
    split
    · rename_i hx
      refine List.pairwise_cons.mpr ⟨fun z hz => ?_, List.pairwise_cons.mpr h⟩
      rcases List.mem_cons.mp hz with rfl | hz
      · exact hx
      · have := h.1 z hz; omega
    · rename_i hx
      refine List.pairwise_cons.mpr ⟨fun z hz => ?_, insI_sorted x h.2⟩
      rcases List.mem_cons.mp ((insI_perm x ys).mem_iff.mp hz) with rfl | hz
      · omega
      · exact h.1 z hz
theorem sortI_sorted : ∀ xs : List Int, (sortI xs).Pairwise (· ≤ ·)
  | [] => .nil
  | x :: xs => insI_sorted x (sortI_sorted xs)
theorem sorted_unique : ∀ {xs ys : List Int}, xs.Perm ys → xs.Pairwise (· ≤ ·) → ys.Pairwise (· ≤ ·) → xs = ys
  | [], ys, p, _, _ => (List.nil_perm.mp p).symm
  | x :: xs, [], p, _, _ => by have := p.length_eq; simp at this
  | x :: xs, y :: ys, p, hx, hy => by
    rw [List.pairwise_cons] at hx hy
    have e : x = y := by
      have h1 : x ∈ y :: ys := p.mem_iff.mp List.mem_cons_self
      have h2 : y ∈ x :: xs := p.mem_iff.mpr List.mem_cons_self
      rcases List.mem_cons.mp h1 with h1 | h1
      · exact h1
      · rcases List.mem_cons.mp h2 with h2 | h2
        · exact h2.symm
        · have := hx.1 y h2
          have := hy.1 x h1
          omega
    subst e
    rw [sorted_unique (List.Perm.cons_inv p) hx.2 hy.2]
section
variable {K : PySem.W.Frag}
def sortD (M : Store) (ds : List D) : Option Slot := match ds with
  | [x] => match seqOf M x with
    | some es => match intsOf es with
      | some ns => if ns.length < 64 then some (.own ((sortI ns).map .int)) else none
      | none => none
    | none => none
  | _ => none
theorem intsOf_eq : ∀ {ds : List D} {ns : List Int}, intsOf ds = some ns → ds = ns.map .int
  | [], _, h => by cases h; rfl
  | d :: ds, ns, h => by
    cases d with
    | int i =>
      have h' : (intsOf ds).map (i :: ·) = some ns := h
      cases hq : intsOf ds with
      | none => rw [hq] at h'; cases h'
      | some ms =>
        rw [hq] at h'
        cases h'
        rw [List.map_cons, intsOf_eq hq]
    | _ => cases h
theorem vals_int {A : List Addr} {G : Hp} : ∀ {vs : List V} {ns : List Int}, RepL K A G vs (ns.map D.int) → vs = ns.map V.int
  | [], [], _ => rfl
  | v :: vs, n :: ns, .cons r t => by
    cases r
    rw [List.map_cons, vals_int t]
theorem p_sort : PrimN K (rSorted K) sortD := by
  intro w vs ds s Q ok rl h k
  unfold sortD at h
  split at h
  · rename_i x
    split at h
    · rename_i es e1
      split at h
      · rename_i ns e2
        split at h
        · rename_i hz
          cases h
          obtain ⟨v, rfl, rv⟩ := rl.one
          obtain ⟨p, us, rfl, hs, r⟩ := seq_at ok rv e1
          rw [intsOf_eq e2] at r
          have := vals_int r
          subst this
          refine ⟨p, ns, rfl, hs, hz, fun ns' q hp hsort hq => ?_⟩
          have e3 : ns' = sortI ns := sorted_unique (hp.trans (sortI_perm ns).symm) hsort (sortI_sorted ns)
          subst e3
          exact k _ _ (ok.fresh0 hq _) rfl (own_new (Step.refl ok) hq (repL_ints _))
        · cases h
      · cases h
    · cases h
  · cases h
end
/-! ### for simp -/
section
variable (ρ : EnvD) (M : Store)
@[simp] theorem sParO_eq (i j : Nat) (f : FD) (g : FE) : sParO i j f g ρ M = (f ρ M).out fun x M => (g ρ M).out fun y M => match y with
  | .val d => .next ((ρ.set i (.val x)).set j (.val d)) M
  | .own ds => .next ((ρ.set i (.val x)).set j (.own ds)) M
  | .un => .bad := rfl
@[simp] theorem dFld_eq (f : Str) (fo : FD) : dFld f fo ρ M = (fo ρ M).bind fun x M => match x with
  | .ref k => match M[k]? with
    | some (.ins _ fs) => R.of (fs.lookup f) M
    | _ => .bad
  | _ => .bad := rfl
@[simp] theorem sFldS_eq (c f : Str) (fv fo : FD) : sFldS c f fv fo ρ M = (fv ρ M).out fun y M => (fo ρ M).out fun x M => match x with
  | .ref k => match M[k]? with
    | some (.ins c' fs) => if c' = c ∧ fs.length < 1000 then .next ρ (M.set k (.ins c' (putFd f y fs))) else .bad
    | _ => .bad
  | _ => .bad := rfl
@[simp] theorem dMethC_eq (n : Nat) (m : Str) (tab : List (Str × Nat)) (Φ : Nat → Fn) (fo : FD) (fs : FL) : dMethC n m tab Φ fo fs ρ M = (fo ρ M).bind fun x M => match x with
  | .ref k => match M[k]? with
    | some (.ins c fds) => match fds.lookup m, tab.lookup c with
      | none, some i => (fs ρ M).bind fun ds M => if ds.length + 1 = n then Φ i (.ref k :: ds) M else .bad
      | _, _ => .bad
    | _ => .bad
  | _ => .bad := rfl
@[simp] theorem dMake_eq (c : Str) (n : Nat) (m : Fn) (fs : FL) : dMake c n m fs ρ M = (fs ρ M).bind fun ds M => if ds.length + 1 = n then (m (.ref M.length :: ds) (M ++ [.ins c []])).bind fun s M' => match s with
  | .val .non => .ok (.val (.ref M.length)) M'
  | _ => .bad else .bad := rfl
@[simp] theorem sAppR_eq (fo f : FD) : sAppR fo f ρ M = (fo ρ M).out fun x M => match x with
  | .ref k => match M[k]? with
    | some (.lst _) => (f ρ M).out fun y M => match M[k]? with
      | some (.lst ds) => if ds.length < sizeLine then .next ρ (M.set k (.lst (ds ++ [y]))) else .bad
      | _ => .bad
    | _ => .bad
  | _ => .bad := rfl
@[simp] theorem dPopR_eq (fo : FD) : dPopR fo ρ M = (fo ρ M).bind fun x M => match x with
  | .ref k => match M[k]? with
    | some (.lst ds) => match ds.getLast? with
      | some y => .ok y (M.set k (.lst ds.dropLast))
      | none => .bad
    | _ => .bad
  | _ => .bad := rfl
@[simp] theorem dClearR_eq (fo : FD) : dClearR fo ρ M = (fo ρ M).bind fun x M => match x with
  | .ref k => match M[k]? with
    | some (.lst _) => .ok .non (M.set k (.lst []))
    | _ => .bad
  | _ => .bad := rfl
@[simp] theorem dNewD_eq (g : Store → D → Option MO) (fo : FD) : dNewD g fo ρ M = (fo ρ M).bind fun x M => match g M x with
  | some o => .ok (.ref M.length) (M ++ [o])
  | none => .bad := rfl
@[simp] theorem dDictZ_eq (fs : FL) : dDictZ fs ρ M = (fs ρ M).bind fun ds M => match ds with
  | [.tup xs, .tup ys] => match keysD xs with
    | some ks => .ok (.ref M.length) (M ++ [.dK (mergeP [] (ks.zip ys))])
    | none => .bad
  | _ => .bad := rfl
end
end TP
/-! TPr: dict(zip(t, reversed(l))). -/
namespace TP
open PySem
section
variable {prog : Program} {w : World} {A : Around} {E : Value → Shared → Prop} {s : Shared}
theorem nextOf_rev_item {it l : Addr} {i : Nat} {items : Array Value} {x : Value} {Q : Value → Shared → Prop} (hit : s.heap.IsRevIter it l (i : Int)) (hl : s.heap.IsList l items) (hx : items[i]? = some x)
    (hQ : ∀ h', h'.IsRevIter it l ((i : Int) - 1) → Heap.SameBut it s.heap h' → Q x { s with heap := h' }) : wpAny (model prog w) A (Builtin.SmallTypes.nextOf (.ref it)) Q E s := by
  obtain ⟨o, ho, hc, hd⟩ := id hit
  obtain ⟨ol, hol, _, nl, hdl⟩ := hl
  unfold Builtin.SmallTypes.nextOf
  refine wpAny_bind (wpAny_callSpecial?_slot (name := Str.ofString "__next__") hit.typeIs F.slot_lri_next
    (wpAny_call_entry F.slot_lri_next hit.typeIs F.entry_lri_next ?_ (F.args_lri_next_1 _)))
  unfold Builtin.«list_reverseiterator.__next__»
  refine wpAny_bind (wpAny_of_eq (a := (Value.ref it, [])) rfl ?_)
  try dsimp only
  refine wpAny_bind (wpAny_field ho hd (x := rawInt (i : Int)) rfl ?_)
  show wpAny _ _ (if (i : Int) < 0 then _ else _) _ _ s
  rw [if_neg (by omega)]
  show wpAny _ _ (field (.ref it) 0 >>= _) _ _ s
  refine wpAny_bind (wpAny_field ho hd (x := .ref l) rfl ?_)
  show wpAny _ _ (seqItems? (.ref l) >>= _) _ _ s
  refine wpAny_bind (wpAny_seqItems hol hdl ?_)
  simp only [Int.toNat_natCast, hx]
  refine wpAny_bind (wpAny_setField ho hd (by simp) ?_)
  first
  | refine wpAny_pure ⟨x, rfl, wpAny_pure (hQ _ ?_ (Heap.SameBut.update ..))⟩
  | refine wpAny_bind (wpAny_pure (wpAny_pure ⟨x, rfl, wpAny_pure (hQ _ ?_ (Heap.SameBut.update ..))⟩))
  exact ⟨_, Heap.get?_update_self _ ho (Obj.isFreed_of_fields (Obj.data_mapFields hd _)), (Obj.cls_mapFields ..).trans hc, by
    rw [Obj.data_mapFields hd]; simp⟩
theorem nextOf_rev_end {it l : Addr} {Q : Value → Shared → Prop} (hh : A.handled = none) (hit : s.heap.IsRevIter it l (-1))
    (hE : ∀ h' e, Heap.ExtBut it s.heap h' → (∃ o, h'.get? e = some o ∧ o.cls = .type "StopIteration") → E (.ref e) { s with heap := h' }) : wpAny (model prog w) A (Builtin.SmallTypes.nextOf (.ref it)) Q E s := by
  obtain ⟨o, ho, hc, hd⟩ := id hit
  unfold Builtin.SmallTypes.nextOf
  refine wpAny_bind (wpAny_callSpecial?_slot (name := Str.ofString "__next__") hit.typeIs F.slot_lri_next
    (wpAny_call_entry F.slot_lri_next hit.typeIs F.entry_lri_next ?_ (F.args_lri_next_1 _)))
  unfold Builtin.«list_reverseiterator.__next__»
  refine wpAny_bind (wpAny_of_eq (a := (Value.ref it, [])) rfl ?_)
  try dsimp only
  refine wpAny_bind (wpAny_field ho hd (x := rawInt (-1)) rfl ?_)
  show wpAny _ _ (if (-1 : Int) < 0 then _ else _) _ _ s
  rw [if_pos (by decide)]
  refine wpAny_bind (wpAny_rule ?_)
  first
  | show wpAny _ _ (newExc (.type "StopIteration") [] >>= _) _ _ _
  | (refine wpAny_bind ?_; show wpAny _ _ (newExc (.type "StopIteration") [] >>= _) _ _ _)
  refine wpAny_bind ?_
  simp only [newExc, newTuple]
  refine wpAny_bind (wpAny_newObj_type ?_ (by size_fits))
  refine wpAny_bind (m := firstArgMember _ _) (wpAny_of_eq (a := Value.none) (by first | rfl | (simp only [firstArgMember]; rfl)) ?_)
  refine wpAny_newObj_type ?_ (by size_fits)
  simp only [raiseNew]
  refine wpAny_bind (wpAny_handled ?_)
  first | rw [show A.in1.handled = none from hh] | rw [hh]
  refine wpAny_bind (wpAny_pure (wpAny_throw ?_))
  exact hE _ _ (((Heap.ExtBut.refl _ _).push _).push _) ⟨_, Heap.get?_push_size _ rfl, rfl⟩
end
theorem draws_rev {prog : Program} {w : World} {A : Around} (hh : A.handled = none) (it l : Addr) (hne : l ≠ it) (items : Array Value) :
    Draws prog w A it [it, l] items.size (fun i v => i < items.size ∧ items[items.size - 1 - i]? = some v) (fun i h => i ≤ items.size ∧ h.IsRevIter it l ((items.size : Int) - 1 - (i : Int)) ∧ h.IsList l items) where
  live := fun _ _ st => let ⟨o, ho, _⟩ := st.2.1; ⟨o, ho⟩
  frame := fun _ _ _ x hk => ⟨x.1, x.2.1.at fun o e => hk it (by simp) o e, x.2.2.at fun o e => hk l (by simp) o e⟩
  item := fun i s Q E hi x hQ => by
    have e : (items.size : Int) - 1 - (i : Int) = ((items.size - 1 - i : Nat) : Int) := by omega
    have hit := x.2.1
    rw [e] at hit
    have hx : items[items.size - 1 - i]? = some (items[items.size - 1 - i]'(by omega)) := Array.getElem?_eq_getElem (by omega)
    refine nextOf_rev_item hit x.2.2 hx fun h' hit' hs' => ?_
    have e2 : ((items.size - 1 - i : Nat) : Int) - 1 = (items.size : Int) - 1 - ((i + 1 : Nat) : Int) := by omega
    rw [e2] at hit'
    exact hQ _ h' s.toks ⟨hi, hx⟩ ⟨hi, hit', x.2.2.at fun o eo => (hs'.2 l hne).trans eo⟩ hs'
  done := fun s Q E x hE => by
    have e : (items.size : Int) - 1 - (items.size : Int) = -1 := by omega
    have hit := x.2.1
    rw [e] at hit
    exact nextOf_rev_end hh hit hE
/-! ### zip(t, it): the second is an iterator already -/
structure BeginsI (v : Value) (H : Heap → Prop) : Prop where
  iter : ∀ (prog : Program) (w : World) (A : Around) (E : Value → Shared → Prop) (s : Shared) (Q : Value → Shared → Prop), H s.heap → Q v s → wpAny (model prog w) A (pyIter v) Q E s
  keeps : ∀ h h', H h → (∀ b o', h.get? b = some o' → h'.get? b = some o') → H h'
theorem begins_rev (it l : Addr) (i : Int) : BeginsI (.ref it) fun h => h.IsRevIter it l i where
  iter := fun prog w A E s Q hl h => wpAny_pyIter_revIter hl h
  keeps := fun h h' x hk => x.at fun o e => hk it o e
abbrev gzTI (h : Heap) (o1 : Obj) (v2 : Value) : Heap := (h.push o1).push { cls := .type "tuple", data := .seq #[.ref h.objs.size, v2] }
abbrev gzOI (h : Heap) (o1 : Obj) (v2 : Value) : Heap := (gzTI h o1 v2).push { cls := .type "tuple", data := .seq #[.none, .none] }
abbrev gzZI (h : Heap) (o1 : Obj) (v2 : Value) : Heap := (gzOI h o1 v2).push { cls := .type "zip", data := .fields #[.none, .bool false, .bool false, .ref (h.push o1).objs.size, .ref (gzTI h o1 v2).objs.size] }
theorem meets_zip_newI {v1 v2 : Value} {o1 : Obj} {H1 H2 : Heap → Prop} (B1 : Begins v1 o1 H1) (B2 : BeginsI v2 H2) :
    Meets (Builtin.«zip.__new__» ⟨[.type "zip", v1, v2], []⟩) (fun _ R s => (H1 s.heap ∧ H2 s.heap) ∧
      R (.ok (.ret (.ref (gzOI s.heap o1 v2).objs.size))) { s with heap := gzZI s.heap o1 v2 }) :=
  .of_wp fun prog w A R s h => by
    obtain ⟨hp, g, d, tk, os⟩ := s; obtain ⟨⟨h1, h2⟩, h⟩ := h
    have hsub := sub_zip
    have q1 : ∀ {A' : Around} {E : Value → Shared → Prop} {Q : Value → Shared → Prop}, Q (.ref hp.objs.size) ⟨(hp.push o1), g, d, tk, os⟩ → wpAny (model prog w) A' (pyIter v1) Q E ⟨hp, g, d, tk, os⟩ :=
      fun q => B1.iter prog w _ _ ⟨hp, g, d, tk, os⟩ _ (B1.keeps _ _ h1 fun b o' e => e) q
    have q2 : ∀ {A' : Around} {E : Value → Shared → Prop} {Q : Value → Shared → Prop}, Q v2 ⟨(hp.push o1), g, d, tk, os⟩ → wpAny (model prog w) A' (pyIter v2) Q E ⟨(hp.push o1), g, d, tk, os⟩ :=
      fun q => B2.iter prog w _ _ ⟨(hp.push o1), g, d, tk, os⟩ _ (B2.keeps _ _ h2 fun b o' e => (Heap.get?_push_of_some _ e)) q
    wp_walk using q1, q2
    exact ⟨_, rfl, h⟩
section
variable {prog : Program} {w : World} {A : Around} {E : Value → Shared → Prop} {s : Shared}
theorem zip_beginsI {v1 v2 : Value} {o1 : Obj} {H1 H2 : Heap → Prop} {Q : Value → Shared → Prop} (B1 : Begins v1 o1 H1) (B2 : BeginsI v2 H2) (h1 : H1 s.heap) (h2 : H2 s.heap)
    (h : ∀ h', IsZip h' (s.heap.objs.size + 3) (s.heap.objs.size + 1) (s.heap.objs.size + 2) .none → IsTupOf2 h' (s.heap.objs.size + 1) (.ref s.heap.objs.size) v2 →
      IsTupOf2 h' (s.heap.objs.size + 2) .none .none → h'.get? s.heap.objs.size = some o1 → h'.objs.size = s.heap.objs.size + 4 →
      (∀ c o, s.heap.get? c = some o → h'.get? c = some o) → Q (.ref (s.heap.objs.size + 3)) { s with heap := h' }) :
    wpAny (model prog w) A (call (.type "zip") [v1, v2]) Q E s := by
  refine callType_new F.called_zip (by decide) (F.typeCall_zip_2 _ _) (F.newCall_zip_2 _ _) (fun obj => F.args_object_init_3 obj _ _) F.entry_zip_new
    (meets_zip_newI B1 B2) ⟨⟨h1, h2⟩, ?_⟩
  have z1 : (s.heap.push o1).objs.size = s.heap.objs.size + 1 := by rw [Heap.size_push]
  have zT : (gzTI s.heap o1 v2).objs.size = s.heap.objs.size + 2 := by rw [Heap.size_push, z1]
  have zO : (gzOI s.heap o1 v2).objs.size = s.heap.objs.size + 3 := by rw [Heap.size_push, zT]
  have zZ : (gzZI s.heap o1 v2).objs.size = s.heap.objs.size + 4 := by rw [Heap.size_push, zO]
  have gZ : (gzZI s.heap o1 v2).get? (gzOI s.heap o1 v2).objs.size = some { cls := .type "zip", data := .fields #[.none, .bool false, .bool false, .ref (s.heap.push o1).objs.size, .ref (gzTI s.heap o1 v2).objs.size] } := Heap.get?_push_size _ rfl
  have gO : (gzZI s.heap o1 v2).get? (gzTI s.heap o1 v2).objs.size = some { cls := .type "tuple", data := .seq #[.none, .none] } := Heap.get?_push_of_some _ (Heap.get?_push_size _ rfl)
  have gT : (gzZI s.heap o1 v2).get? (s.heap.push o1).objs.size = some { cls := .type "tuple", data := .seq #[.ref s.heap.objs.size, v2] } := Heap.get?_push_of_some _ (Heap.get?_push_of_some _ (Heap.get?_push_size _ rfl))
  have g1 : (gzZI s.heap o1 v2).get? s.heap.objs.size = some o1 := Heap.get?_push_of_some _ (Heap.get?_push_of_some _ (Heap.get?_push_of_some _ (Heap.get?_push_size _ B1.free)))
  rw [zO, zT, z1] at gZ
  rw [zT] at gO
  rw [z1] at gT
  show _ ∧ _
  rw [zO]
  exact ⟨⟨_, gZ, rfl⟩, h _ gZ gT gO g1 zZ fun c o e => Heap.get?_push_of_some _ (Heap.get?_push_of_some _ (Heap.get?_push_of_some _ (Heap.get?_push_of_some _ e)))⟩
end
open L2
section
variable {X : Cx}
/-! ### dict(zip(t, reversed(l))) -/
theorem no2 {x y z : Nat} (h1 : x ≠ y) (h2 : x ≠ z) : x ∉ [y, z] := fun h => by
  rcases List.mem_cons.mp h with e | h
  · exact h1 e
  · exact h2 (List.mem_singleton.mp h)
theorem sepR {N a b : Nat} (la : a < N) (lb : b < N) : ZipSep2 (N + 1 + 3) (N + 1 + 1) (N + 1 + 2) (N + 1) N [N + 1, a] [N, b] where
  TIz := show (N + 1 + 1 : Nat) ≠ N + 1 + 3 by omega
  TOz := show (N + 1 + 2 : Nat) ≠ N + 1 + 3 by omega
  TITO := show (N + 1 + 1 : Nat) ≠ N + 1 + 2 by omega
  TIi1 := show (N + 1 + 1 : Nat) ≠ N + 1 by omega
  mem1 := List.mem_cons_self
  zf1 := no2 (by omega) (by omega)
  Tf1 := no2 (by omega) (by omega)
  TIi2 := show (N + 1 + 1 : Nat) ≠ N by omega
  mem2 := List.mem_cons_self
  zf2 := no2 (by omega) (by omega)
  Tf2 := no2 (by omega) (by omega)
  sep1_2 := no2 (by omega) (by omega)
  sep2_1 := no2 (by omega) (by omega)
def tDictZipR (K : PySem.W.Frag) (t1 t2 : TE) : TE := fun σ H Q => t1 σ H fun x H1 => t2 σ H1 fun y H2 => ∃ (a b : Addr) (ks : List Key) (ys : List V), x = .ref a ∧ y = .ref b ∧ SqT K H2 a (ks.map kV) ∧ SqL K H2 b ys ∧ ∀ p, H2 p = none → Q (.ref p) (upd H2 p (.dK (mergeK [] (ks.zip ys.reverse))))
open PySem.Spec PyProof.Rows in
theorem pe_dictzipR {e1 e2 : Expr} {t1 t2 : TE} {p1 p2 p3 pos1 pos2 pos3 : Pos} (h1 : PE X e1 t1) (h2 : PE X e2 t2) (hc : X.calm = true) (hgd : Gl X "dict") (hmd : X.mg "dict" = none) (hgz : Gl X "zip") (hmz : X.mg "zip" = none) (hgr : Gl X "reversed") (hmr : X.mg "reversed" = none)
    (he1 : starEach [e1, .Call (.Name "reversed" p3) [e2] [] pos3] X.env = (false, eval e1 X.env) :: starEach [.Call (.Name "reversed" p3) [e2] [] pos3] X.env := by rfl)
    (heR : starEach [.Call (.Name "reversed" p3) [e2] [] pos3] X.env = (false, eval (.Call (.Name "reversed" p3) [e2] [] pos3) X.env) :: starEach [] X.env := by rfl) (hpR : (backTo pos2 (starEach [.Call (.Name "reversed" p3) [e2] [] pos3] X.env)).any (·.1) = false := by rfl)
    (he2 : starEach [.Call (.Name "zip" p2) [e1, .Call (.Name "reversed" p3) [e2] [] pos3] [] pos2] X.env = (false, eval (.Call (.Name "zip" p2) [e1, .Call (.Name "reversed" p3) [e2] [] pos3] [] pos2) X.env) :: starEach [] X.env := by rfl)
    (he3 : starEach [e2] X.env = (false, eval e2 X.env) :: starEach [] X.env := by rfl) :
    PE X (.Call (.Name "dict" p1) [.Call (.Name "zip" p2) [e1, .Call (.Name "reversed" p3) [e2] [] pos3] [] pos2] [] pos1) (tDictZipR X.K t1 t2) := by
  have bd : bootBuiltins "dict" = some (.type "dict") := by decide +kernel
  have bz : bootBuiltins "zip" = some (.type "zip") := by decide +kernel
  constructor
  intro pins s σ H Q I h
  refine wpAny_Call_Name_kw (ld_blt I hgd hmd bd (callWith_type1 ?_ he2 (by rfl)))
  rw [he2]
  show wpAny _ _ (spliced ((false, eval (.Call (.Name "zip" p2) [e1, .Call (.Name "reversed" p3) [e2] [] pos3] [] pos2) X.env) :: backTo pos1 (starEach [] X.env))) _ _ s
  refine Calls.spliced_cons (wpAny_Call_Name_kw (ld_blt I hgz hmz bz (callWith_type1 ?_ he1 hpR)))
  rw [he1]
  show wpAny _ _ (spliced ((false, eval e1 X.env) :: backTo pos2 (starEach [.Call (.Name "reversed" p3) [e2] [] pos3] X.env))) _ _ s
  refine Calls.spliced_cons (thn (h1.run pins s σ H _ I h) fun u1 s1 ⟨x1, H1, I1, r1, q1⟩ => ?_)
  rw [heR]
  show wpAny _ _ (spliced ((false, eval (.Call (.Name "reversed" p3) [e2] [] pos3) X.env) :: backTo pos2 (starEach [] X.env))) _ _ s1
  refine Calls.spliced_cons (Call_ (ld_blt I1 hgr hmr PyProof.Rows.boot_reversed (PyProof.Rows.callWith_type1 (args_cons (thn (h2.run pins s1 σ H1 _ I1 q1) fun u2 s2 ⟨x2, H2, I2, r2, q2⟩ => args_nil ?_) he3) he3 rfl)))
  obtain ⟨a, b, ks, ys, rfl, rfl, ta, tb, q⟩ := q2
  obtain rfl : u1 = Value.ref a := r1
  obtain rfl : u2 = Value.ref b := r2
  obtain ⟨its2, rv2, pl2, l2⟩ := I2.list tb
  refine call_reversed_list pl2.isList ?_
  refine Calls.spliced_nil ?_
  obtain ⟨its1, rv1, h1', l1⟩ := I2.tuple ta
  generalize hN : s2.heap.objs.size = N
  have la : a < N := by rw [← hN]; exact Heap.lt_size h1'.choose_spec.1
  have lb : b < N := by rw [← hN]; exact Heap.lt_size pl2.choose_spec.choose_spec.1
  have hsz3 : (s2.heap.push (revObj b ((its2.toArray.size : Int) - 1))).objs.size = N + 1 := by rw [Heap.size_push, hN]
  have ext3 : ∀ c o, s2.heap.get? c = some o → (s2.heap.push (revObj b ((its2.toArray.size : Int) - 1))).get? c = some o := fun c o e => Heap.get?_push_of_some _ e
  have hrev : (s2.heap.push (revObj b ((its2.toArray.size : Int) - 1))).IsRevIter N b ((its2.toArray.size : Int) - 1) := by rw [← hN]; exact ⟨_, Heap.get?_push_size _ rfl, rfl, rfl⟩
  refine zip_beginsI (begins_tuple a its1.toArray) (begins_rev N b ((its2.toArray.size : Int) - 1)) (h1'.keeps ext3) hrev ?_
  intro h' hz hTI hTO g1 hsz hk
  simp only [hsz3] at hz hTI hTO g1 hsz ⊢
  refine Calls.spliced_nil ?_
  have hh : X.A.handled = none := I2.ok.hd hc
  have S := sepR la lb
  have P := zipArg (prog := X.prog) (w := X.w) S (fun A hA => Draws.tuple hA (N + 1) a (Nat.ne_of_lt (Nat.lt_succ_of_lt la)) its1.toArray) (fun A hA => draws_rev hA N b (Nat.ne_of_lt lb) its2.toArray)
    (fun i h st c hc => by
      obtain ⟨⟨o, ho, _⟩, ⟨o2, ho2, _⟩⟩ := st
      simp only [List.mem_cons, List.not_mem_nil, or_false] at hc
      rcases hc with rfl | rfl
      · exact ⟨o, ho⟩
      · exact ⟨o2, ho2⟩)
    (fun i h st c hc => by
      obtain ⟨_, ⟨o, ho, _⟩, ⟨o2, ho2, _⟩⟩ := st
      simp only [List.mem_cons, List.not_mem_nil, or_false] at hc
      rcases hc with rfl | rfl
      · exact ⟨o, ho⟩
      · exact ⟨o2, ho2⟩)
  have hkk : ∀ c u, s2.heap.get? c = some u → h'.get? c = some u := fun c u e => hk c u (ext3 c u e)
  have hrev' : h'.IsRevIter N b ((its2.toArray.size : Int) - 1 - ((0 : Nat) : Int)) := by
    rw [Int.natCast_zero, Int.sub_zero]
    exact hrev.at fun o e => hk N o e
  have hls' : h'.IsList b its2.toArray := pl2.isList.at fun o e => hkk b o e
  have rel : KV (ks.zip ys.reverse) (ks.zip its2.reverse) := kv_zip ks rv2.reverse
  have lk : its1.length = ks.length := by rw [← rv1.length, List.length_map]
  refine call_dict_pairs (knd := mixKind X.prog X.w) (kvs := ks.zip its2.reverse) P hh ⟨hz, hTI, ⟨_, _, hTO⟩, ⟨⟨_, g1, rfl, rfl⟩, h1'.keeps hkk⟩, ⟨Nat.zero_le _, hrev', hls'⟩⟩ ⟨?_, ?_⟩ ?_ ?_
  · rw [List.length_zip, List.length_reverse, List.size_toArray, List.size_toArray, lk]
  · rintro i key v ⟨k1, k2, k3⟩
    rw [List.size_toArray] at k2
    rw [List.getElem?_toArray] at k1 k3
    rw [List.size_toArray] at k3
    have hi : i < its1.length := (List.getElem?_eq_some_iff.mp k1).1
    have hik : i < ks.length := by omega
    obtain ⟨u, hu, ru⟩ := rv1.get (i := i) (x := kV ks[i]) (by rw [List.getElem?_map, List.getElem?_eq_getElem hik]; rfl)
    rw [k1] at hu
    cases hu
    exact ⟨ks[i], by rw [List.getElem?_zip_eq_some]; exact ⟨List.getElem?_eq_getElem hik, by rw [List.getElem?_reverse k2]; exact k3⟩, kV_is ru⟩
  · rw [List.size_toArray, List.size_toArray]
    have := rv2.length
    omega
  · intro h'' tk hd hk2
    have hbig : sysModules < N := by rw [← hN]; exact I2.big
    have hb : N + 5 ≠ sysModules := Nat.ne_of_gt (Nat.lt_of_lt_of_le hbig (Nat.le_add_right N 5))
    have hm : ((N + 5 : Addr) == sysModules) = false := beq_eq_false_iff_ne.mpr hb
    rw [hsz] at hd ⊢
    rw [show N + 1 + 4 = N + 5 from rfl] at hd ⊢
    have hlen : (mergeK [] (ks.zip ys.reverse)).length ≤ sizeLine := by
      refine Nat.le_trans (length_mergeK (ks.zip ys.reverse) []) ?_
      rw [List.length_nil, Nat.zero_add, List.length_zip, List.length_reverse]
      have := rv2.length
      omega
    have keep : ∀ c u, s2.heap.get? c = some u → h''.get? c = some u := fun c u e => by
      have lc : c < N := by rw [← hN]; exact Heap.lt_size e
      refine hk2 c u (fun hm => ?_) (hkk c u e)
      simp only [List.mem_cons, List.not_mem_nil, or_false] at hm
      rcases hm with x | x | x | x
      · exact Nat.ne_of_lt (Nat.lt_of_lt_of_le lc (Nat.le_add_right N 4)) x
      · exact Nat.ne_of_lt (Nat.lt_of_lt_of_le lc (Nat.le_add_right N 3)) x
      · exact Nat.ne_of_lt (Nat.lt_of_lt_of_le lc (Nat.le_add_right N 1)) x
      · exact Nat.ne_of_lt lc x
    refine ⟨.ref (N + 5), upd H2 (N + 5) (.dK (mergeK [] (ks.zip ys.reverse))), ?_, rfl, q _ (I2.hok.fresh (by rw [hN]; exact Nat.le_add_right N 5))⟩
    exact I2.laid (t' := tk) keep (by rw [hN]; exact Nat.le_add_right N 5) (show ObjOk X.prog X.w _ _ _ (.dK (mergeK [] (ks.zip ys.reverse))) from ⟨hlen, hm, merged [] (ks.zip its2.reverse), KV.merge rel .nil, hd⟩)
end
section
variable {K : PySem.W.Frag} {E : Wish} {X : Cx} {e : Expr}
def dDictZR (f1 f2 : FD) : FD := fun ρ M => (f1 ρ M).bind fun x M => (f2 ρ M).bind fun y M => match x with
  | .tup xs => match keysD xs with
    | some ks => match lstOf M y with
      | some ys => .ok (.ref M.length) (M ++ [.dK (mergeP [] (ks.zip ys.reverse))])
      | none => .bad
    | none => .bad
  | _ => .bad
theorem x_dictZR {f1 f2 : FD} (h : PE X e (tDictZipR K (tF K E f1) (tR K E f2))) : PE X e (tF K E (dDictZR f1 f2)) := PE.wk h fun σ H Q ⟨ρ, w, e1, ok, sr, a⟩ =>
  ⟨ρ, w, e1, ok, sr, a.bind.imp fun x w1 s1 a1 v1 r1 => ⟨ρ, w1, rfl, s1.ok, sr.step s1, a1.bind.imp fun y w2 s2 a2 v2 r2 => by
    split at a2
    · rename_i xs
      split at a2
      · rename_i ks hk
        split at a2
        · rename_i ys hy
          have r1' := s2.rep r1
          cases r1' with
          | @tup p us _ hs rl =>
            have e := keys_at rl hk
            subst e
            obtain ⟨q, ws, rfl, hq, rl2⟩ := lst_at s2.ok r2 hy
            refine ⟨p, q, ks, ws, rfl, rfl, .inl (.inl (s2.ok.sub _ _ hs)), .inl (.inl hq), fun n hn => ?_⟩
            have rl3 := rl2.reverse
            obtain ⟨st, hA⟩ := new_obj (o := .dK (mergeK [] (ks.zip ws.reverse))) (m := .dK (mergeP [] (ks.zip ys.reverse))) s2.ok hn ⟨_, upd_same, merge_kv (zip_kv ks (fun i v hv => rl3.get' hv) rl3.length) .nil⟩
            have a3 : ∀ w', Step K w2 w' → w'.M = w2.M ++ [.dK (mergeP [] (ks.zip ys.reverse))] → ∀ v, Rep K w'.A w'.G v (.ref w2.M.length) → Q v w'.H := a2
            exact a3 _ st rfl _ (.ref hA)
        · exact a2.elim
      · exact a2.elim
    · exact a2.elim⟩⟩
end
end TP
/-! TPp: more rules: dict(zip(a, b)) of any two, displays with any keys, d.update(d'), steps of slices, three names at once. -/
namespace TP
open PySem L2
/-! ### dict(zip(a, b)), lists or tuples -/
structure ZSrc (h : Heap) (a : Addr) (its : List Value) (o1 : Obj) (H : Heap → Prop) (St : Addr → Nat → Heap → Prop) : Prop where
  beg : Begins (.ref a) o1 H
  now : H h
  lt : a < h.objs.size
  draws : ∀ (prog : Program) (w : World) (A : Around), A.handled = none → ∀ it, a ≠ it → Draws prog w A it [it, a] its.toArray.size (fun i v => its.toArray[i]? = some v) (St it)
  start : ∀ h' it, h'.get? it = some o1 → H h' → St it 0 h'
  live : ∀ it i h', St it i h' → ∀ c ∈ [it, a], ∃ o, h'.get? c = some o
section
variable {X : Cx}
open PySem.Spec PyProof.Rows in
theorem src_tup {h : Heap} {a : Addr} {its : List Value} (h1 : IsTup h a its.toArray) : ∃ o H St, ZSrc h a its o H St :=
  ⟨_, _, _, begins_tuple a its.toArray, h1, Heap.lt_size h1.choose_spec.1, fun prog w A hh it ne => Draws.tuple hh it a ne its.toArray, fun h' it e x => ⟨⟨_, e, rfl, rfl⟩, x⟩, fun it i h' st c hc => by
    obtain ⟨⟨o, ho, _⟩, ⟨o2, ho2, _⟩⟩ := st
    simp only [List.mem_cons, List.not_mem_nil, or_false] at hc
    rcases hc with rfl | rfl
    · exact ⟨o, ho⟩
    · exact ⟨o2, ho2⟩⟩
open PySem.Spec PyProof.Rows in
theorem src_list {h : Heap} {a : Addr} {its : List Value} (h1 : h.IsList a its.toArray) : ∃ o H St, ZSrc h a its o H St :=
  ⟨_, _, _, begins_list a its.toArray, h1, Heap.lt_size h1.choose_spec.1, fun prog w A hh it ne => Draws.list hh it a ne its.toArray, fun h' it e x => ⟨⟨_, e, rfl, rfl⟩, x⟩, fun it i h' st c hc => by
    obtain ⟨⟨o, ho, _⟩, ⟨o2, ho2, _⟩⟩ := st
    simp only [List.mem_cons, List.not_mem_nil, or_false] at hc
    rcases hc with rfl | rfl
    · exact ⟨o, ho⟩
    · exact ⟨o2, ho2⟩⟩
def SqA (K : PySem.W.Frag) (H : Hp) (a : Addr) (xs : List V) : Prop := SqT K H a xs ∨ SqL K H a xs
theorem inv_src {pins : List (Addr × Obj)} {σ : L2.St} {H : Hp} {s : Shared} (I : L2.Inv X pins σ H s) {a : Addr} {xs : List V} (h : SqA X.K H a xs) : ∃ its o1 HH St, Vals xs its ∧ ZSrc s.heap a its o1 HH St ∧ xs.length ≤ sizeLine := by
  rcases h with h | h
  · obtain ⟨its, rv, h1, l1⟩ := I.tuple h
    obtain ⟨o, HH, St, z⟩ := src_tup h1
    exact ⟨its, o, HH, St, rv, z, l1⟩
  · obtain ⟨its, rv, h1, l1⟩ := I.list h
    obtain ⟨o, HH, St, z⟩ := src_list h1.isList
    exact ⟨its, o, HH, St, rv, z, l1⟩
def tDictZip2 (K : PySem.W.Frag) (t : TA) : TE := fun σ H Q => t σ H fun vs H1 => ∃ (a b : Addr) (ks : List Key) (ys : List V), vs = [.ref a, .ref b] ∧ SqA K H1 a (ks.map kV) ∧ SqA K H1 b ys ∧ ∀ p, H1 p = none → Q (.ref p) (upd H1 p (.dK (mergeK [] (ks.zip ys))))
open PySem.Spec PyProof.Rows in
theorem pe_dictzip2 {e1 e2 : Expr} {t : TA} {p1 p2 pos1 pos2 : Pos} (ha : PA X [e1, e2] t) (hc : X.calm = true) (hgd : Gl X "dict") (hmd : X.mg "dict" = none) (hgz : Gl X "zip") (hmz : X.mg "zip" = none)
    (he1 : starEach [e1, e2] X.env = (false, eval e1 X.env) :: starEach [e2] X.env := by rfl) (hp1 : (backTo pos2 (starEach [e2] X.env)).any (·.1) = false := by rfl)
    (he2 : starEach [.Call (.Name "zip" p2) [e1, e2] [] pos2] X.env = (false, eval (.Call (.Name "zip" p2) [e1, e2] [] pos2) X.env) :: starEach [] X.env := by rfl) :
    PE X (.Call (.Name "dict" p1) [.Call (.Name "zip" p2) [e1, e2] [] pos2] [] pos1) (tDictZip2 X.K t) := by
  have bd : bootBuiltins "dict" = some (.type "dict") := by decide +kernel
  have bz : bootBuiltins "zip" = some (.type "zip") := by decide +kernel
  constructor
  intro pins s σ H Q I h
  refine wpAny_Call_Name_kw (ld_blt I hgd hmd bd (callWith_type1 ?_ he2 (by rfl)))
  rw [he2]
  show wpAny _ _ (spliced ((false, eval (.Call (.Name "zip" p2) [e1, e2] [] pos2) X.env) :: backTo pos1 (starEach [] X.env))) _ _ s
  refine Calls.spliced_cons (wpAny_Call_Name_kw (ld_blt I hgz hmz bz (callWith_type1 (thn (ha.run pos2 pins s σ H _ I h) ?_) he1 hp1)))
  rintro us s1 ⟨vs, H1, I1, r, a, b, ks, ys, rfl, ta, tb, q⟩
  obtain ⟨u1, u2, rfl, r1, r2⟩ := vals2 r
  obtain rfl : u1 = Value.ref a := r1
  obtain rfl : u2 = Value.ref b := r2
  obtain ⟨its1, o1, HH1, St1, rv1, z1, l1⟩ := inv_src I1 ta
  obtain ⟨its2, o2, HH2, St2, rv2, z2, l2⟩ := inv_src I1 tb
  generalize hN : s1.heap.objs.size = N
  refine zip_begins2 z1.beg z2.beg z1.now z2.now ?_
  intro h' hz hTI hTO g1 g2 hsz hk
  rw [hN] at hz hTI hTO g1 g2 hsz ⊢
  have la : a < N := by rw [← hN]; exact z1.lt
  have lb : b < N := by rw [← hN]; exact z2.lt
  refine Calls.spliced_nil ?_
  have hh : X.A.handled = none := I1.ok.hd hc
  have S := zip_sep2 (N := N) (fp1 := [a]) (fp2 := [b]) (fun c hc => by rw [List.mem_singleton] at hc; subst hc; exact la) (fun c hc => by rw [List.mem_singleton] at hc; subst hc; exact lb)
  have P := zipArg (prog := X.prog) (w := X.w) S (fun A hA => z1.draws X.prog X.w A hA N (Nat.ne_of_lt la)) (fun A hA => z2.draws X.prog X.w A hA (N + 1) (Nat.ne_of_lt (Nat.lt_succ_of_lt lb)))
    (fun i h st c hc => z1.live _ i h st c hc) (fun i h st c hc => z2.live _ i h st c hc)
  have rel : KV (ks.zip ys) (ks.zip its2) := kv_zip ks rv2
  have lk : its1.length = ks.length := by rw [← rv1.length, List.length_map]
  refine call_dict_pairs (knd := mixKind X.prog X.w) (kvs := ks.zip its2) P hh ⟨hz, hTI, ⟨_, _, hTO⟩, z1.start _ _ g1 (z1.beg.keeps _ _ z1.now hk), z2.start _ _ g2 (z2.beg.keeps _ _ z2.now hk)⟩ ⟨?_, ?_⟩ ?_ ?_
  · rw [List.length_zip, List.size_toArray, List.size_toArray, lk]
  · rintro i key v ⟨k1, k2⟩
    rw [List.getElem?_toArray] at k1 k2
    have hi : i < its1.length := (List.getElem?_eq_some_iff.mp k1).1
    have hik : i < ks.length := by omega
    obtain ⟨u, hu, ru⟩ := rv1.get (i := i) (x := kV ks[i]) (by rw [List.getElem?_map, List.getElem?_eq_getElem hik]; rfl)
    rw [k1] at hu
    cases hu
    exact ⟨ks[i], by rw [List.getElem?_zip_eq_some]; exact ⟨List.getElem?_eq_getElem hik, k2⟩, kV_is ru⟩
  · rw [List.size_toArray, List.size_toArray]
    have := rv2.length
    omega
  · intro h'' tk hd hk2
    have hbig : sysModules < N := by rw [← hN]; exact I1.big
    have hb : N + 5 ≠ sysModules := Nat.ne_of_gt (Nat.lt_of_lt_of_le hbig (Nat.le_add_right N 5))
    have hm : ((N + 5 : Addr) == sysModules) = false := beq_eq_false_iff_ne.mpr hb
    rw [hsz] at hd ⊢
    have hlen : (mergeK [] (ks.zip ys)).length ≤ sizeLine := by
      refine Nat.le_trans (length_mergeK (ks.zip ys) []) ?_
      rw [List.length_nil, Nat.zero_add, List.length_zip]
      have := rv2.length
      omega
    have keep : ∀ c u, s1.heap.get? c = some u → h''.get? c = some u := fun c u e => by
      have lc : c < N := by rw [← hN]; exact Heap.lt_size e
      refine hk2 c u (fun hm => ?_) (hk c u e)
      simp only [List.mem_cons, List.not_mem_nil, or_false] at hm
      rcases hm with x | x | x | x
      · exact Nat.ne_of_lt (Nat.lt_of_lt_of_le lc (Nat.le_add_right N 4)) x
      · exact Nat.ne_of_lt (Nat.lt_of_lt_of_le lc (Nat.le_add_right N 3)) x
      · exact Nat.ne_of_lt lc x
      · exact Nat.ne_of_lt (Nat.lt_of_lt_of_le lc (Nat.le_add_right N 1)) x
    refine ⟨.ref (N + 5), upd H1 (N + 5) (.dK (mergeK [] (ks.zip ys))), ?_, rfl, q _ (I1.hok.fresh (by rw [hN]; exact Nat.le_add_right N 5))⟩
    exact I1.laid (t' := tk) keep (by rw [hN]; exact Nat.le_add_right N 5) (show ObjOk X.prog X.w _ _ _ (.dK (mergeK [] (ks.zip ys))) from ⟨hlen, hm, merged [] (ks.zip its2), KV.merge rel .nil, hd⟩)
end
/-- the items of a list or a tuple -/
def anyOf (M : Store) : D → Option (List D)
  | .tup ds => some ds
  | .kt ds => some ds
  | x => seqOf M x
section
variable {K : PySem.W.Frag} {E : Wish} {X : Cx} {e : Expr}
theorem any_at {w : Wd} (ok : w.Ok K) {v : V} {x : D} {ds : List D} (r : RepB K w v x) (h : anyOf w.M x = some ds) : ∃ p vs, v = .ref p ∧ SqA K w.H p vs ∧ RepL K w.A w.G vs ds := by
  by_cases h1 : ∃ es, x = .tup es
  · obtain ⟨es, rfl⟩ := h1
    rcases r with r | ⟨p, vs, es', rfl, e, _⟩
    · cases r with
      | tup hs rl => cases h; exact ⟨_, _, rfl, .inl (.inl (.inl (ok.sub _ _ hs))), rl⟩
    · cases e
  by_cases h2 : ∃ es, x = .kt es
  · obtain ⟨es, rfl⟩ := h2
    rcases r with r | ⟨p, vs, es', rfl, e, _⟩
    · cases r with
      | kt hs rl => cases h; exact ⟨_, _, rfl, .inl (sqT_mono ok.sub hs), rl⟩
    · cases e
  have h' : seqOf w.M x = some ds := by
    cases x <;> first | exact h | exact absurd ⟨_, rfl⟩ h1 | exact absurd ⟨_, rfl⟩ h2
  obtain ⟨p, vs, e, a, b⟩ := seq_at ok r h'
  exact ⟨p, vs, e, .inr a, b⟩
def dDictZ2 (f1 f2 : FD) : FD := fun ρ M => (f1 ρ M).bind fun x M => (f2 ρ M).bind fun y M => match anyOf M x with
  | some xs => match keysD xs with
    | some ks => match anyOf M y with
      | some ys => .ok (.ref M.length) (M ++ [.dK (mergeP [] (ks.zip ys))])
      | none => .bad
    | none => .bad
  | none => .bad
theorem x_dictZ2 {f1 f2 : FD} (h : PE X e (tDictZip2 K (tAR K E (dCons f1 (dCons f2 dNil))))) : PE X e (tF K E (dDictZ2 f1 f2)) := PE.wk h fun σ H Q ⟨ρ, w, e1, ok, sr, a⟩ =>
  ⟨ρ, w, e1, ok, sr, by
    have a0 : After K E w ((f1 ρ w.M).bind fun x M => (f2 ρ M).bind fun y M => match anyOf M x with
      | some xs => match keysD xs with
        | some ks => match anyOf M y with
          | some ys => (.ok (.ref M.length) (M ++ [.dK (mergeP [] (ks.zip ys))]) : R D)
          | none => .bad
        | none => .bad
      | none => .bad) _ := a
    unfold dCons
    cases q1 : f1 ρ w.M with
    | bad => rw [q1] at a0; exact a0.elim
    | exc c d M1 => rw [q1] at a0; exact a0
    | ok x M1 =>
      rw [q1] at a0
      simp only [R.bind_ok] at a0 ⊢
      cases q2 : f2 ρ M1 with
      | bad => rw [q2] at a0; exact a0.elim
      | exc c d M2 => rw [q2] at a0; exact a0
      | ok y M2 =>
        rw [q2] at a0
        simp only [R.bind_ok] at a0
        have a1 : After K E w (R.ok [x, y] M2) (fun ds w' => ∀ vs, RepBL K w' vs ds → ∃ (a b : Addr) (ks : List Key) (ys : List V), vs = [.ref a, .ref b] ∧ SqA K w'.H a (ks.map kV) ∧ SqA K w'.H b ys ∧ ∀ p, w'.H p = none → Q (.ref p) (upd w'.H p (.dK (mergeK [] (ks.zip ys))))) := by
          intro w2 s2 eM vs rvs
          rw [← eM] at a0
          cases rvs with
          | cons r1 t1 =>
            cases t1 with
            | cons r2 t2 =>
              cases t2
              split at a0
              · rename_i xs hx
                split at a0
                · rename_i ks hk
                  split at a0
                  · rename_i ys hy
                    obtain ⟨p, us, rfl, hp, rl⟩ := any_at s2.ok r1 hx
                    have e := keys_at rl hk
                    subst e
                    obtain ⟨q, ws, rfl, hq, rl2⟩ := any_at s2.ok r2 hy
                    refine ⟨p, q, ks, ws, rfl, hp, hq, fun n hn => ?_⟩
                    obtain ⟨st, hA⟩ := new_obj (o := .dK (mergeK [] (ks.zip ws))) (m := .dK (mergeP [] (ks.zip ys))) s2.ok hn ⟨_, upd_same, merge_kv (zip_kv ks (fun i v hv => rl2.get' hv) rl2.length) .nil⟩
                    have a3 : ∀ w', Step K w w' → w'.M = w2.M ++ [.dK (mergeP [] (ks.zip ys))] → ∀ v, Rep K w'.A w'.G v (.ref w2.M.length) → Q v w'.H := a0
                    exact a3 _ (s2.trans st) rfl _ (.ref hA)
                  · exact a0.elim
                · exact a0.elim
              · exact a0.elim
        exact a1⟩
/-! ### a display with any keys -/
def dVals2 : List (FD × FD) → FL
  | [] => dNil
  | (k, v) :: r => dCons k (dCons v (dVals2 r))
def pairUp : List D → Option (List (Key × D))
  | [] => some []
  | [_] => none
  | k :: v :: r => match keyD k with
    | some k => (pairUp r).map fun r => (k, v) :: r
    | none => none
def dDispG (ps : List (FD × FD)) : FD := fun ρ M => (dVals2 ps ρ M).bind fun ds M => match pairUp ds with
  | some kvs => if kvs.length ≤ 15 then .ok (.ref M.length) (M ++ [.dK (mergeP [] kvs)]) else .bad
  | none => .bad
def vPairs : List V → List (V × V)
  | k :: v :: r => (k, v) :: vPairs r
  | _ => []
theorem pairs2_ok {σ : L2.St} {ρ : EnvD} : ∀ (ps : List (FD × FD)) (w w0 : Wd) (Q : List (V × V) → Hp → Prop), Step K w0 w → SR K w ρ σ →
    After K E w (dVals2 ps ρ w.M) (fun ds w' => ∀ vs, RepL K w'.A w'.G vs ds → Q (vPairs vs) w'.H) → tPairs (ps.map fun p => (tF K E p.1, tF K E p.2)) σ w.H Q
  | [], w, w0, Q, s, sr, a => by
    have a' : ∀ w', Step K w w' → w'.M = w.M → ∀ vs, RepL K w'.A w'.G vs [] → Q (vPairs vs) w'.H := a
    exact a' w (Step.refl s.ok) rfl [] .nil
  | (k, v) :: ps, w, w0, Q, s, sr, a => by
    refine ⟨ρ, w, rfl, s.ok, sr, ?_⟩
    have a1 : After K E w (dCons k (dCons v (dVals2 ps)) ρ w.M) _ := a
    refine a1.bind.imp fun d w1 s1 a2 x rx => ?_
    refine ⟨ρ, w1, rfl, s1.ok, sr.step s1, ?_⟩
    have a2' := a2.bind
    have a3 : After K E w1 (v ρ w1.M) fun d2 w2 => After K E w2 (dVals2 ps ρ w2.M) fun ds w3 => ∀ w4, Step K w3 w4 → w4.M = w3.M → ∀ vs, RepL K w4.A w4.G vs (d :: d2 :: ds) → Q (vPairs vs) w4.H := by
      have a4 : After K E w1 ((v ρ w1.M).bind fun d2 M => (dVals2 ps ρ M).bind fun ds M => .ok (d2 :: ds) M) _ := a2'
      refine a4.bind.imp fun d2 w2 s2 a5 => a5.bind.imp fun ds w3 s3 a6 w4 s4 e4 vs rvs => ?_
      exact a6 w3 (Step.refl s3.ok) rfl w4 s4 e4 vs rvs
    refine a3.imp fun d2 w2 s2 a4 y ry => ?_
    refine pairs2_ok ps w2 w0 _ ((s.trans s1).trans s2) ((sr.step s1).step s2) (a4.imp fun ds w3 s3 a5 vs rvs => ?_)
    exact a5 w3 (Step.refl s3.ok) rfl (x :: y :: vs) (.cons (s3.rep (s2.rep rx)) (.cons (s3.rep ry) rvs))
theorem pairUp_at {A : List Addr} {G : Hp} : ∀ {vs : List V} {ds : List D} {kd : List (Key × D)}, RepL K A G vs ds → pairUp ds = some kd → ∃ kv : List (Key × V), vPairs vs = kv.map (fun kv => (kV kv.1, kv.2)) ∧ RepKV (Rep K A G) kv kd
  | [], [], _, _, h => by cases h; exact ⟨[], rfl, .nil⟩
  | [_], [_], _, _, h => by cases h
  | x :: y :: vs, k :: v :: ds, kd, .cons r1 (.cons r2 t), h => by
    rw [pairUp] at h
    cases hk : keyD k with
    | none => rw [hk] at h; cases h
    | some kk =>
      rw [hk] at h
      cases hp : pairUp ds with
      | none => simp [hp] at h
      | some r =>
        simp [hp] at h
        subst h
        obtain ⟨kv, e1, e2⟩ := pairUp_at t hp
        have := key_at r1 hk
        subst this
        exact ⟨(kk, y) :: kv, by rw [vPairs, e1]; rfl, .cons r2 e2⟩
theorem mergeK_fold : ∀ (kv av : List (Key × V)), mergeK av kv = kv.foldl (fun acc x => putK acc x.1 x.2) av := fun kv av => rfl
theorem x_dispG {ps : List (FD × FD)} (h : PE X e (tDisp (ps.map fun p => (tF K E p.1, tF K E p.2)))) : PE X e (tF K E (dDispG ps)) := PE.wk h fun σ H Q ⟨ρ, w, e1, ok, sr, a⟩ => by
  subst e1
  intro p hp
  have s0 := ok.fresh0 hp (.dK [])
  have hG : w.G p = none := ok.sub.free hp
  have hA := ok.notA hp
  refine pairs2_ok ps ⟨w.A, w.G, w.M, upd w.H p (.dK [])⟩ w _ s0 (sr.step s0) ?_
  have a1 := (show After K E w ((dVals2 ps ρ w.M).bind _) _ from a).bind
  cases q : dVals2 ps ρ w.M with
  | bad => rw [q] at a1; exact a1
  | exc c d M => rw [q] at a1; exact fun w' s' e => a1 w' (s0.trans s') e
  | ok ds M =>
    rw [q] at a1
    intro w1 s1 eM vs rvs
    have s01 := s0.trans s1
    obtain ⟨k1, k2, k3⟩ := s1.keepN p (.dK []) upd_same hG hA
    have a2 := (show After K E w (dDispG ps ρ w.M) _ from a)
    have ed : dDispG ps ρ w.M = match pairUp ds with
      | some kvs => if kvs.length ≤ 15 then .ok (.ref M.length) (M ++ [.dK (mergeP [] kvs)]) else .bad
      | none => .bad := by unfold dDispG; rw [q]; rfl
    rw [ed] at a2
    split at a2
    · rename_i kd hkd
      split at a2
      · rename_i hc
        obtain ⟨kv, ev, rk⟩ := pairUp_at rvs hkd
        refine ⟨k1, kv, ev, by rw [rk.len]; exact hc, ?_⟩
        have hrep : RepKV (Rep K w1.A w1.G) (mergeK [] kv) (mergeP [] kd) := merge_kv rk .nil
        have okA := setOwn_ok (o := .dK (mergeK [] kv)) s1.ok k1 k2 k3
        have ok2 := okA.push (o := .dK (mergeP [] kd)) k2 k3 ⟨_, upd_same, hrep⟩
        have a3 : ∀ w', Step K w w' → w'.M = M ++ [.dK (mergeP [] kd)] → ∀ v, Rep K w'.A w'.G v (.ref M.length) → Q v w'.H := a2
        refine a3 ⟨w1.A ++ [p], w1.G, w1.M ++ [.dK (mergeP [] kd)], upd w1.H p (.dK (mergeK [] kv))⟩ ⟨ok2, s01.pre.trans (List.prefix_append _ _), s01.fro, fun b o z1 z2 z3 => ?_⟩ (by rw [eM]) _ (.ref ?_)
        · obtain ⟨c1, c2, c3⟩ := s01.keep b o z1 z2 z3
          refine ⟨?_, c2, fun hm => (List.mem_append.mp hm).elim c3 fun z => by simp at z; subst z; rw [hp] at z1; cases z1⟩
          show upd w1.H p _ b = some o
          rw [upd_ne (ne_of_none z1 hp)]
          exact c1
        · show (w1.A ++ [p])[M.length]? = some p
          have hl := s1.ok.len
          rw [eM] at hl
          rw [← hl, List.getElem?_append_right (Nat.le_refl _), Nat.sub_self]
          rfl
      · exact a2.elim
    · exact a2.elim
end
/-! ### d.update(d') -/
def tDUpd (td ty : TE) : TE := fun σ H Q => td σ H fun x H1 => ∃ a, x = .ref a ∧ IsD H1 a ∧ ty σ H1 fun y H2 => ∃ (b : Addr) (kvs more : List (Key × V)), y = .ref b ∧ a ≠ b ∧ H2 a = some (.dK kvs) ∧ H2 b = some (.dK more) ∧ kvs.length + more.length ≤ sizeLine ∧ Q .non (upd H2 a (.dK (mergeK kvs more)))
section
variable {X : Cx} {o e : Expr} {td ty : TE} {apos cpos : Pos}
open PySem.Spec PyProof.Rows in
theorem pe_dupd (ho : PE X o td) (he : PE X e ty) (m : M1 X o "update" apos e cpos) : PE X (.Call (.Attribute o "update" apos) [e] [] cpos) (tDUpd td ty) := by
  refine ⟨fun pins s σ H Q I h => ?_⟩
  refine wpAny_Call_method m.base m.few m.line PySem.F.plainAttrs_dict PySem.F.slot_dict_update PySem.F.type_dict_update (thn (ho.run pins s σ H _ I h) fun u s1 ⟨x, H1, I1, rx, a, ex, d, q1⟩ => ?_)
  subst ex
  obtain rfl : u = Value.ref a := rx
  obtain ⟨t1, t2, _⟩ := isD_at I1 d
  refine ⟨t1, t2, ?_⟩
  rw [m.trees]
  refine Calls.callWith_builtin rfl (Calls.evalArgs_plain (Calls.spliced_cons (thn (he.run pins s1 σ H1 _ I1 q1) fun iv s2 ⟨y, H2, I2, ry, b, kvs, more, ey, hne, hd, ho, hz, q2⟩ => Calls.spliced_nil ?_)))
  subst ey
  obtain rfl : iv = Value.ref b := ry
  obtain ⟨z1, m1, vs1, rel1, dd1⟩ := dk_of I2.hok hd
  obtain ⟨z2, m2, vs2, rel2, dd2⟩ := dk_of I2.hok ho
  refine call_meetsIn PySem.F.slot_dict_update dd1.typeIs PySem.F.entry_dict_update (PySem.F.args_dict_update_2 _ _) (meets_dict_update (mixKind X.prog X.w) a b hne m2) ⟨vs1, vs2, dd1, dd2, by rw [← rel1.length, ← rel2.length]; exact hz, fun h' e1 e2 hs => ?_⟩
  have hl : (mergeK kvs more).length ≤ sizeLine := Nat.le_trans (length_mergeK more kvs) hz
  have hex : ∃ q, h'.get? a = some q := let ⟨q, _, _, hq, _⟩ := e1; ⟨q, hq⟩
  exact ⟨.non, _, d_write I2 (by rw [hd]; exact True.intro) hs hex (dk_new hl m1 (KV.merge rel2 rel1) e1), rfl, q2⟩
end
section
variable {K : PySem.W.Frag} {E : Wish} {X : Cx} {e : Expr}
def dUpd (fo fe : FD) : FD := fun ρ M => (fo ρ M).bind fun x M => if isDD M x then (fe ρ M).bind fun y M => match x, y with
  | .ref i, .ref j => match M[i]?, M[j]? with
    | some (.dK kvs), some (.dK more) => if i ≠ j ∧ kvs.length + more.length ≤ sizeLine then .ok .non (M.set i (.dK (mergeP kvs more))) else .bad
    | _, _ => .bad
  | _, _ => .bad else .bad
theorem x_upd {fo fe : FD} (h : PE X e (tDUpd (tR K E fo) (tR K E fe))) : PE X e (tF K E (dUpd fo fe)) := PE.wk h fun σ H Q ⟨ρ, w, e1, ok, sr, a⟩ =>
  ⟨ρ, w, e1, ok, sr, a.bind.imp fun x w1 s1 a1 vx rx => by
    split at a1
    · rename_i hd
      obtain ⟨p, rfl, ip⟩ := isD_at' s1.ok rx hd
      refine ⟨p, rfl, ip, ρ, w1, rfl, s1.ok, sr.step s1, a1.bind.imp fun y w2 s2 a2 vy ry => ?_⟩
      split at a2
      · rename_i i j
        split at a2
        · rename_i kvs more ei ej
          split at a2
          · rename_i hc
            obtain ⟨p', e2, ea⟩ := ref_at (rx.step s2)
            cases e2
            obtain ⟨q, rfl, eb⟩ := ref_at ry
            obtain ⟨p2, ea2, vs1, h1, rk1⟩ := s2.ok.mos i _ ei
            rw [ea] at ea2; cases ea2
            obtain ⟨q2, eb2, vs2, h2, rk2⟩ := s2.ok.mos j _ ej
            rw [eb] at eb2; cases eb2
            refine ⟨q, vs1, vs2, rfl, fun hpq => hc.1 ?_, h1, h2, by rw [rk1.len, rk2.len]; exact hc.2, ?_⟩
            · subst hpq
              obtain ⟨li, gi⟩ := List.getElem?_eq_some_iff.mp ea
              obtain ⟨lj, gj⟩ := List.getElem?_eq_some_iff.mp eb
              exact (List.getElem_inj (h₀ := li) (h₁ := lj) s2.ok.nd).mp (gi.trans gj.symm)
            · have st3 := s2.ok.put (o := .dK (mergeP kvs more)) (ho := .dK (mergeK vs1 vs2)) ea ⟨_, upd_same, merge_kv rk2 rk1⟩
              exact a2 _ st3 rfl .non .non
          · exact a2.elim
        · exact a2.elim
      · exact a2.elim
    · exact a1.elim⟩
end
/-! ### xs[::k], k 1 or -1 -/
def tStepL (K : PySem.W.Frag) (te ts : TE) : TE := fun σ H Q => te σ H fun x H1 => tPart ts σ H1 fun o H2 => ∃ (a : Addr) (xs : List V) (k : Int), x = .ref a ∧ o = some k ∧ (k = 1 ∨ k = -1) ∧ SqL K H2 a xs ∧ ∀ p, H2 p = none → Q (.ref p) (upd H2 p (.lst (if k = 1 then xs else xs.reverse)))
section
variable {X : Cx} {e st : Expr} {te ts : TE}
open PySem.Spec PyProof.Rows in
theorem pick_one (its : List Value) : slicePick its.toArray none none (some 1) = its.toArray := by
  have h := slicePick_cut its none none
  have e : slicePick its.toArray none none (some 1) = slicePick its.toArray none none none := rfl
  rw [e, h]
  simp [HT.sIx]
open PySem.Spec PyProof.Rows in
theorem pe_stepL {p3 pos : Pos} (he : PE X e te) (hs : PE X st ts) : PE X (.Subscript e (.Slice none none (some st) p3) pos) (tStepL X.K te ts) := by
  refine ⟨fun pins s σ H Q I h => ?_⟩
  refine Subscript_ (thn (he.run pins s σ H _ I h) fun v s1 ⟨x, H1, I1, r1, q1⟩ => ?_)
  have hst : PO X (some st) (tPart ts) := po_some hs
  refine wpAny_Slice (thn (po_none.run pins s1 σ H1 (fun o H2 => o = none ∧ H2 = H1) I1 ⟨rfl, rfl⟩) fun vl s2 ⟨l, H2, I2, pl, el, e2⟩ => ?_)
  subst el e2
  refine thn (po_none.run pins s2 σ H2 (fun o H3 => o = none ∧ H3 = H2) I2 ⟨rfl, rfl⟩) fun vu s3 ⟨u, H3, I3, pu, eu, e3⟩ => ?_
  subst eu e3
  refine thn (hst.run pins s3 σ H3 _ I3 q1) fun vs s4 ⟨o, H4, I4, ps, a, xs, k, ex, eo, hk, hx, q⟩ => ?_
  subst ex eo
  cases r1
  have I5 : Inv X pins σ H4 { s4 with heap := s4.heap.push { cls := .type "slice", data := .fields #[vl, vu, vs] } } := I4.kept (t' := s4.toks) fun b ob q => Heap.get?_push_of_some _ q
  obtain ⟨its, r, ht, hz⟩ := I5.list hx
  have hlen := r.length
  show wpAny (model X.prog X.w) X.A (subscriptTail e (.Slice none none (some st) p3) (.ref a) (.ref s4.heap.objs.size)) (EP X pins σ Q) X.xe { s4 with heap := s4.heap.push { cls := .type "slice", data := .fields #[vl, vu, vs] } }
  refine tail_any (ops := [.ref a, .ref s4.heap.objs.size]) ht.isList.typeIs (PySem.slot_list_getitem.lookup) ?_ (by with_unfolding_all rfl)
  refine wpAny_getItem_list_slice ht.isList (Heap.IsSliceOf.new _ vl vu vs) pl pu ps (by rcases hk with rfl | rfl <;> decide) ?_ (by rw [List.size_toArray]; omega)
  rcases hk with rfl | rfl
  · rw [pick_one]
    refine ⟨.ref _, _, I5.laid (t' := s4.toks) (o := .lst xs) (fun b ob q => Heap.get?_push_of_some _ q) (Nat.le_refl _) ?_, rfl, by simpa using q _ (I5.hok.fresh (Nat.le_refl _))⟩
    exact ⟨hz, _, 0, r, Heap.get?_push_size _ rfl⟩
  · rw [PySem.W.krv_pick]
    refine ⟨.ref _, _, I5.laid (t' := s4.toks) (o := .lst xs.reverse) (fun b ob q => Heap.get?_push_of_some _ q) (Nat.le_refl _) ?_, rfl, by simpa using q _ (I5.hok.fresh (Nat.le_refl _))⟩
    exact ⟨by rw [List.length_reverse]; exact hz, _, 0, r.reverse, Heap.get?_push_size _ rfl⟩
end
section
variable {K : PySem.W.Frag} {E : Wish} {X : Cx} {e : Expr}
def stepD (xs : List D) : D → Option (List D)
  | .int k => if k = 1 then some xs else if k = -1 then some xs.reverse else none
  | _ => none
/-- xs[::k] of a list -/
def dStepL (fe fs : FD) : FE := fun ρ M => (fe ρ M).bind fun x M => (fs ρ M).bind fun y M => match seqOf M x with
  | some xs => match stepD xs y with
    | some zs => .ok (.own zs) M
    | none => .bad
  | none => .bad
theorem x_stepL {fe fs : FD} (h : PE X e (tStepL K (tR K E fe) (tR K E fs))) : PE X e (tE K E (dStepL fe fs)) := PE.wk h fun σ H Q ⟨ρ, w, e1, ok, sr, a⟩ =>
  ⟨ρ, w, e1, ok, sr, a.bind.imp fun x w1 s1 a1 v1 r1 => ⟨ρ, w1, rfl, s1.ok, sr.step s1, a1.bind.imp fun y w2 s2 a2 v2 r2 => by
    split at a2
    · rename_i xs hx
      split at a2
      · rename_i zs hz
        cases y with
        | int k =>
          obtain ⟨p, vs, rfl, hp, rl⟩ := seq_at s2.ok (r1.step s2) hx
          have e2 := int_at r2
          refine ⟨k, e2, p, vs, k, rfl, rfl, ?_, hp, fun n hn => ?_⟩
          · unfold stepD at hz
            simp only at hz
            split at hz
            · exact .inl ‹_›
            · split at hz
              · exact .inr ‹_›
              · cases hz
          · have s3 := s2.ok.fresh0 hn (.lst (if k = 1 then vs else vs.reverse))
            have hG : w2.G n = none := s2.ok.sub.free hn
            have a3 : ∀ w', Step K w2 w' → w'.M = w2.M → ∀ v, RepX K w w' v (.own zs) → Q v w'.H := a2
            refine a3 _ s3 rfl _ ⟨n, _, rfl, ((s1.trans s2).free hn), upd_same, hG, s2.ok.notA hn, ?_⟩
            unfold stepD at hz
            simp only at hz
            split at hz
            · rename_i h1; cases hz; rw [if_pos h1]; exact rl
            · rename_i h1
              split at hz
              · cases hz; rw [if_neg h1]; exact rl.reverse
              · cases hz
        | _ => cases hz
      · exact a2.elim
    · exact a2.elim⟩⟩
end
section
variable (ρ : EnvD) (M : Store)
@[simp] theorem dUpd_eq (fo fe : FD) : dUpd fo fe ρ M = (fo ρ M).bind fun x M => if isDD M x then (fe ρ M).bind fun y M => match x, y with
  | .ref i, .ref j => match M[i]?, M[j]? with
    | some (.dK kvs), some (.dK more) => if i ≠ j ∧ kvs.length + more.length ≤ sizeLine then .ok .non (M.set i (.dK (mergeP kvs more))) else .bad
    | _, _ => .bad
  | _, _ => .bad else .bad := rfl
@[simp] theorem dDispG_eq (ps : List (FD × FD)) : dDispG ps ρ M = (dVals2 ps ρ M).bind fun ds M => match pairUp ds with
  | some kvs => if kvs.length ≤ 15 then .ok (.ref M.length) (M ++ [.dK (mergeP [] kvs)]) else .bad
  | none => .bad := rfl
@[simp] theorem dStepL_eq (fe fs : FD) : dStepL fe fs ρ M = (fe ρ M).bind fun x M => (fs ρ M).bind fun y M => match seqOf M x with
  | some xs => match stepD xs y with
    | some zs => .ok (.own zs) M
    | none => .bad
  | none => .bad := rfl
@[simp] theorem dDictZ2_eq (f1 f2 : FD) : dDictZ2 f1 f2 ρ M = (f1 ρ M).bind fun x M => (f2 ρ M).bind fun y M => match anyOf M x with
  | some xs => match keysD xs with
    | some ks => match anyOf M y with
      | some ys => .ok (.ref M.length) (M ++ [.dK (mergeP [] (ks.zip ys))])
      | none => .bad
    | none => .bad
  | none => .bad := rfl
end
end TP
/-! TPp2: three names at once, list(range(n)). -/
namespace TP
open PySem L2
section
variable {K : PySem.W.Frag} {E : Wish} {X : Cx} {e : Expr} {st : Stmt}
/-- a, b, c = x, y, z -/
def sPar3 (i j l : Nat) (fs : FL) : FS := fun ρ M => (fs ρ M).out fun ds M => match ds with
  | [x, y, z] => .next (((ρ.set i (.val x)).set j (.val y)).set l (.val z)) M
  | _ => .bad
theorem s_par3 {i j l : Nat} {fs : FL} (h : PS X st (tPar3 i j l (tAF K E fs))) : PS X st (tS K E (sPar3 i j l fs)) := PS.wk h fun D σ H ⟨ρ, w, w0, e1, s, sr, of, p⟩ =>
  ⟨ρ, w, e1, s.ok, sr, (out_after s p).imp fun ds w1 s1 p1 vs rvs => by
    split at p1
    · cases rvs with
      | cons r1 r2 =>
        cases r2 with
        | cons r2 r3 =>
          cases r3 with
          | cons r3 r4 =>
            cases r4
            refine ⟨_, _, _, rfl, p1 w1 _ (s.trans s1) (Le.refl _) rfl ((((sr.step s1).set i r1).set j r2).set l r3) (of.sub (((OwnSub.set ρ σ i (fun _ z => by cases z) _).trans (OwnSub.set _ _ j (fun _ z => by cases z) _)).trans (OwnSub.set _ _ l (fun _ z => by cases z) _)))⟩
    · exact p1.elim⟩
/-! ### list(range(n)) -/
def dLstRg (f : FD) : FE := fun ρ M => (f ρ M).bind fun x M => match x with
  | .int n => if -(2 ^ 62) ≤ n ∧ n ≤ 16777216 then .ok (.own (rngL 0 n.toNat)) M else .bad
  | _ => .bad
theorem rep_map {α : Type} {A : List Addr} {G : Hp} {f : α → V} {g : α → D} (h : ∀ i, Rep K A G (f i) (g i)) : ∀ l : List α, RepL K A G (l.map f) (l.map g)
  | [] => .nil
  | x :: l => .cons (h x) (rep_map h l)
theorem rep_rg (A : List Addr) (G : Hp) (m : Nat) (a : Int) : RepL K A G ((List.range m).map fun (i : Nat) => V.int (a + (i : Nat))) (rngL a m) := rep_map (fun i => .int _) _
theorem x_listRg {f : FD} (h : PE X e (tLstRg (tRg1 (tR K E f)))) : PE X e (tE K E (dLstRg f)) := PE.wk h fun σ H Q ⟨ρ, w, e1, ok, sr, a⟩ =>
  ⟨ρ, w, e1, ok, sr, a.bind.imp fun x w1 s1 a1 v1 r1 => by
    split at a1
    · rename_i n
      split at a1
      · rename_i hn
        refine ⟨n, int_at r1, ⟨by omega, by omega, by omega, by omega, by omega⟩, fun q hq => ?_⟩
        have s3 := s1.ok.fresh0 hq (.lst (rgV 0 n))
        have hG : w1.G q = none := s1.ok.sub.free hq
        have a3 : ∀ w', Step K w1 w' → w'.M = w1.M → ∀ v, RepX K w w' v (.own (rngL 0 n.toNat)) → Q v w'.H := a1
        refine a3 _ s3 rfl _ ⟨q, _, rfl, (s1.free hq), upd_same, hG, s1.ok.notA hq, ?_⟩
        have e : n - 0 = n := by omega
        unfold rgV
        rw [e]
        exact rep_rg _ _ n.toNat 0
      · exact a1.elim
    · exact a1.elim⟩
end
section
variable (ρ : EnvD) (M : Store)
@[simp] theorem sPar3_eq (i j l : Nat) (fs : FL) : sPar3 i j l fs ρ M = (fs ρ M).out fun ds M => match ds with
  | [x, y, z] => .next (((ρ.set i (.val x)).set j (.val y)).set l (.val z)) M
  | _ => .bad := rfl
@[simp] theorem dLstRg_eq (f : FD) : dLstRg f ρ M = (f ρ M).bind fun x M => match x with
  | .int n => if -(2 ^ 62) ≤ n ∧ n ≤ 16777216 then .ok (.own (rngL 0 n.toNat)) M else .bad
  | _ => .bad := rfl
end
end TP
/-! TPga: enumerate of a tuple, x[i] = e of a list of one's own, max of a list, index. -/
namespace TP
open PySem L2
section
variable {prog : Program} {w : World} {A : Around} {E : Value → Shared → Prop} {s : Shared}
set_option maxHeartbeats 1000000 in
theorem meets_enum_new1 {v : Value} {o : Obj} {H : Heap → Prop} (B : Begins v o H) :
    Meets (Builtin.«enumerate.__new__» ⟨[.type "enumerate", v], []⟩) (fun _ R s => H s.heap ∧
      R (.ok (.ret (.ref (s.heap.push o).objs.size))) { s with heap := (s.heap.push o).push { cls := .type "enumerate", data := .fields #[.none, .bool false, .ref s.heap.objs.size, rawInt 0, .none, .none] } }) :=
  .of_wp fun prog w A R s h => by
    obtain ⟨hp, g, d, tk, os⟩ := s; obtain ⟨h1, h⟩ := h
    have hsub := sub_enumerate
    have q1 : ∀ {A' : Around} {E : Value → Shared → Prop} {Q : Value → Shared → Prop}, Q (.ref hp.objs.size) ⟨hp.push o, g, d, tk, os⟩ → wpAny (model prog w) A' (pyIter v) Q E ⟨hp, g, d, tk, os⟩ :=
      fun q => B.iter prog w _ _ ⟨hp, g, d, tk, os⟩ _ h1 q
    wp_walk using q1
    refine wpAny_stack_any fun st => wpAny_pure ?_
    split
    · rename_i c _ _ _ _ _
      cases (c == Value.type "enumerate")
      · wp_walk using q1
        exact ⟨_, rfl, h⟩
      · wp_walk using q1
        exact ⟨_, rfl, h⟩
    · wp_walk using q1
      exact ⟨_, rfl, h⟩
theorem enum_begins1 {v : Value} {o : Obj} {H : Heap → Prop} {Q : Value → Shared → Prop} (B : Begins v o H) (h1 : H s.heap)
    (h : ∀ h', IsEnum h' (s.heap.objs.size + 1) s.heap.objs.size 0 .none → h'.get? s.heap.objs.size = some o → h'.objs.size = s.heap.objs.size + 2 →
      (∀ b o, s.heap.get? b = some o → h'.get? b = some o) → Q (.ref (s.heap.objs.size + 1)) { s with heap := h' }) :
    wpAny (model prog w) A (call (.type "enumerate") [v]) Q E s := by
  refine callType_new F.called_enumerate (by decide) (F.typeCall_enumerate_1 _) (F.newCall_enumerate_1 _) (fun obj => F.args_object_init_2 obj _) F.entry_enumerate_new
    (meets_enum_new1 B) ⟨h1, ?_⟩
  have hz : (s.heap.push o).objs.size = s.heap.objs.size + 1 := Heap.size_push ..
  show _ ∧ _
  rw [hz]
  have he : IsEnum ((s.heap.push o).push { cls := .type "enumerate", data := .fields #[.none, .bool false, .ref s.heap.objs.size, rawInt 0, .none, .none] }) (s.heap.objs.size + 1) s.heap.objs.size 0 .none := by
    have := Heap.get?_push_size (s.heap.push o) (o := { cls := .type "enumerate", data := .fields #[.none, .bool false, .ref s.heap.objs.size, rawInt 0, .none, .none] }) rfl
    rw [hz] at this; exact this
  refine ⟨⟨_, he, rfl⟩, h _ he (Heap.get?_push_of_some _ (Heap.get?_push_size _ B.free)) (by rw [Heap.size_push, hz]) fun b o x => Heap.get?_push_of_some _ (Heap.get?_push_of_some _ x)⟩
end
/-- the tuple at a, each item in a new pair -/
def IteT (K : PySem.W.Frag) (a : Addr) : It :=
  ⟨fun i H => ∃ (xs : List V) (x : V), SqT K H a xs ∧ xs[i]? = some x, fun i H v H' => ∃ T x, v = .ref T ∧ H T = none ∧ H' = upd H T (.tup [.int (i : Nat), x]) ∧ ∀ xs, SqT K H a xs → xs[i]? = some x, fun i H => ∃ xs : List V, SqT K H a xs ∧ xs.length ≤ i⟩
theorem turn_enumT {P : Program} {w : World} {K : PySem.W.Frag} {elts : List Expr} {kk : Nat} {tpos : Pos} (a e it : Addr) :
    Turn P w K (.Tuple elts kk tpos) (IteT K a) [e, it] e (fun i h => (∃ old, IsEnum h e it ((i : Nat) : Int) old) ∧ h.IsTupleIter it a i ∧ e ≠ it ∧ e ≠ a ∧ a ≠ it) where
  mem := by simp
  obj := fun i h st b hb => by
    obtain ⟨⟨old, he⟩, ⟨o, ho, hc, hd⟩, _⟩ := st
    have e' : b = e ∨ b = it := by simpa using hb
    rcases e' with z | z
    · rw [z]; exact ⟨_, he, fun v q => nomatch q⟩
    · rw [z]; exact ⟨o, ho, fun v q => by rw [hd] at q; cases q⟩
  keep := fun i h h' st k => let ⟨⟨old, he⟩, hi, hne⟩ := st; ⟨⟨old, k e (by simp) _ he⟩, hi.at fun o q => k it (by simp) o q, hne⟩
  item := by
    intro X hP hw hK hc i pins s σ H E I hf st hg
    subst hP hw hK
    obtain ⟨⟨old, he⟩, hit, hne, hea, hai⟩ := st
    obtain ⟨xs, x, hq, hx⟩ := hg
    obtain ⟨its, rv, p, hz⟩ := I.tuple hq
    obtain ⟨u, hu, ru⟩ := rv.get hx
    have hel : e < s.heap.objs.size := Heap.lt_size he
    have hil : it < s.heap.objs.size := by obtain ⟨_, q, _⟩ := hit; exact Heap.lt_size q
    have hu2 : its.toArray[i]? = some u := by simpa using hu
    have hlt : i < its.toArray.size := (Array.getElem?_eq_some_iff.mp hu2).1
    refine wpAny_pyNext_enum_itemD (Draws.tuple (A := X.A.in1) (I.ok.hd hc) it a hai its.toArray) he ⟨hit, p⟩ hlt hne (by simp [hne, hea]) fun y h' tk hy ho hit' hT hsz hk => ?_
    have ey : u = y := Option.some.inj (hu2.symm.trans hy)
    subst ey
    refine ⟨_, rfl, wpAny_letOwnedTupleGo_enum (s := { s with heap := h', toks := tk + 1 }) ho fun h'' he' sb => ?_⟩
    have hT2 : h''.get? s.heap.objs.size = some { cls := .type "tuple", data := .seq #[.int i tk, u] } := (sb.2 _ (Nat.ne_of_gt hel)).trans hT
    have new : ObjOk X.prog X.w (upd H s.heap.objs.size (.tup [.int (i : Nat), x])) h'' s.heap.objs.size (.tup [.int (i : Nat), x]) :=
      ⟨by show 2 ≤ sizeLine; decide, [.int i tk, u], .cons ⟨_, rfl⟩ (.cons ru .nil), ⟨_, hT2, rfl, _, rfl⟩⟩
    have I1 : Inv X pins σ (upd H s.heap.objs.size (.tup [.int (i : Nat), x])) { s with heap := h'', toks := tk + 1 } :=
      I.turnedNew (ch := [e, it]) (fun b ob hb q => (sb.2 b (fun z => hb (by simp [z]))).trans (hk b ob (fun z => hb (by simp [z])) (fun z => hb (by simp [z])) q)) hf (Nat.le_refl _) new
    refine ⟨.ref s.heap.objs.size, _, I1, rfl, ⟨_, x, rfl, I.hok.fresh (Nat.le_refl _), rfl, fun ys hy => by rw [I.tuple_inj hy hq]; exact hx⟩, ⟨⟨u, ?_⟩, hit'.1.at fun o q => (sb.2 it (Ne.symm hne)).trans q, hne, hea, hai⟩, fun b hb => ?_⟩
    · have e1 : ((i + 1 : Nat) : Int) = (i : Int) + 1 := by omega
      rw [e1]; exact he'
    · have hb' : b < s.heap.objs.size := by
        have e' : b = e ∨ b = it := by simpa using hb
        rcases e' with z | z
        · rw [z]; exact hel
        · rw [z]; exact hil
      rw [upd_ne (Nat.ne_of_lt hb')]
      exact (hf b hb).1
  done := by
    intro X hP hw hK hc i pins s σ H E I hf st hg
    subst hP hw hK
    obtain ⟨⟨old, he⟩, hit, hne, hea, hai⟩ := st
    obtain ⟨xs, hq, hx⟩ := hg
    obtain ⟨its, rv, p, hz⟩ := I.tuple hq
    obtain ⟨f0, f1, f2, f3, f4, f5⟩ := hf it (by simp)
    have hl := rv.length
    have hT : s.TypeIs (.ref e) "enumerate" := ⟨_, he, rfl⟩
    unfold pyNext
    refine wpAny_bind (wpAny_attempt (wpAny_callSpecial?_slot (name := Str.ofString "__next__") hT F.slot_enumerate_next
      (wpAny_call_entry F.slot_enumerate_next hT F.entry_enumerate_next ?_ (F.args_enumerate_next_1 _))))
    show wpAny _ _ (field (.ref e) 2 >>= _) _ _ _
    refine wpAny_bind (wpAny_field he rfl (x := .ref it) rfl ?_)
    refine wpAny_bind (wpAny_nextOf_tuple_end (A := X.A.in1) (I.ok.hd hc) hit p (by simp; omega) fun h' x he' hx' => ?_)
    obtain ⟨o, ho, hcl⟩ := hx'
    refine wpAny_bind (wpAny_isInstance (T := "StopIteration") (b := true) ⟨o, ho, hcl⟩ isSubtype_stop ?_)
    exact wpAny_pure ⟨rfl, I.turned (t' := s.toks) (fun b o hb q => he' b o hb q) f0 f1 f3 f4 f5⟩
  self := fun A i s Q E st h => let ⟨⟨_, he⟩, _⟩ := st; wpAny_pyIter_enum he h
/-- enumerate of a list or a tuple -/
def iEnumA (K : PySem.W.Frag) (ta : TA) : TI := fun σ H R => ta σ H fun vs H1 => ∃ a xs, vs = [.ref a] ∧ ((SqL K H1 a xs ∧ R (Ite K a) H1) ∨ (SqT K H1 a xs ∧ R (IteT K a) H1))
theorem pi_enumA {X : Cx} {e : Expr} {ta : TA} {p pos tpos : Pos} {elts : List Expr} {kk : Nat} (hg : Gl X "enumerate") (hm : X.mg "enumerate" = none) (ha : PA X [e] ta) (hs : starEach [e] X.env = [(false, eval e X.env)] := by rfl) :
    PI X (.Tuple elts kk tpos) (.Call (.Name "enumerate" p) [e] [] pos) (iEnumA X.K ta) := by
  refine ⟨fun pins s σ H R I h => ?_⟩
  refine PyProof.Rows.Call_ (ld_blt I hg hm PyProof.Rows.boot_enumerate (PyProof.Rows.callWith_type1 (thn (ha.run pos pins s σ H _ I h) fun us s1 ⟨vs, H1, I1, r1, q1⟩ => ?_) hs rfl))
  obtain ⟨a, xs, ex, q⟩ := q1
  subst ex
  cases r1 with
  | cons r rr =>
    cases rr
    cases r
    rcases q with ⟨hq, q⟩ | ⟨hq, q⟩
    · obtain ⟨its, rv, p', hz⟩ := I1.list hq
      refine call_enumerate_list p'.isList fun h' he hit hsz hk => wpAny_pyIter_enum he ?_
      have I2 : Inv X pins σ H1 { s1 with heap := h' } := I1.kept (t' := s1.toks) hk
      refine ⟨s1.heap.objs.size + 1, [s1.heap.objs.size + 1, s1.heap.objs.size], _, _, H1, rfl, I2, turn_enum a (s1.heap.objs.size + 1) s1.heap.objs.size, ⟨⟨.none, he⟩, hit, Nat.succ_ne_self _⟩, fun b hb => ?_, q⟩
      have e' : b = s1.heap.objs.size + 1 ∨ b = s1.heap.objs.size := by simpa using hb
      have hle : s1.heap.objs.size ≤ b := by
        rcases e' with z | z
        · rw [z]; exact Nat.le_add_right _ _
        · rw [z]; exact Nat.le_refl _
      exact I1.fpOk hle (I1.hok.fresh hle)
    · obtain ⟨its, rv, p', hz⟩ := I1.tuple hq
      have hal : a < s1.heap.objs.size := by obtain ⟨_, q, _⟩ := p'; exact Heap.lt_size q
      refine enum_begins1 (begins_tuple a its.toArray) p' fun h' he hit hsz hk => wpAny_pyIter_enum he ?_
      have I2 : Inv X pins σ H1 { s1 with heap := h' } := I1.kept (t' := s1.toks) hk
      refine ⟨s1.heap.objs.size + 1, [s1.heap.objs.size + 1, s1.heap.objs.size], _, _, H1, rfl, I2, turn_enumT a (s1.heap.objs.size + 1) s1.heap.objs.size, ⟨⟨.none, he⟩, ⟨_, hit, rfl, rfl⟩, Nat.succ_ne_self _, Nat.ne_of_gt (Nat.lt_succ_of_lt hal), Nat.ne_of_lt hal⟩, fun b hb => ?_, q⟩
      have e' : b = s1.heap.objs.size + 1 ∨ b = s1.heap.objs.size := by simpa using hb
      have hle : s1.heap.objs.size ≤ b := by
        rcases e' with z | z
        · rw [z]; exact Nat.le_add_right _ _
        · rw [z]; exact Nat.le_refl _
      exact I1.fpOk hle (I1.hok.fresh hle)
section
variable {K : PySem.W.Frag} {E : Wish} {X : Cx} {e : Expr} {st : Stmt}
theorem it_enumT {w : Wd} {a : Addr} {vs : List V} {ds : List D} (hs : SqT K w.G a vs) (rl : RepL K w.A w.G vs ds) : IterOk K w (IteT K a) (enumL ds) := fun w2 le ok2 i => by
  have h2 : SqT K w2.H a vs := sqT_mono ok2.sub (sqT_mono le.2 hs)
  have r2 := le.repL rl
  refine ⟨fun d ed => ?_, fun hl => ⟨vs, h2, by rw [rl.length]; simpa [enumL] using hl⟩⟩
  unfold enumL at ed
  rw [List.getElem?_map] at ed
  by_cases hi : i < ds.length
  · rw [List.getElem?_range hi] at ed
    cases ed
    obtain ⟨v, ev, rv⟩ := r2.get (List.getElem?_eq_getElem hi)
    refine ⟨⟨vs, v, h2, ev⟩, fun x H' y => ?_⟩
    obtain ⟨T, x', rfl, hT, rfl, y⟩ := y
    have := y vs h2
    rw [ev] at this
    cases this
    have st := ok2.fresh hT (.tup [.int (i : Nat), v])
    refine ⟨_, st, rfl, rfl, .tup upd_same (.cons (.int _) (.one ?_))⟩
    rw [List.getD_eq_getElem?_getD, List.getElem?_eq_getElem hi]
    exact st.rep rv
  · rw [List.getElem?_eq_none (by simpa using hi)] at ed
    cases ed
def dEnumA (fs : FL) : FL := fun ρ M => (fs ρ M).bind fun ds M => match ds with
  | [.lst es] => .ok (enumL es) M
  | [.fro es] => .ok (enumL es) M
  | [.tup es] => .ok (enumL es) M
  | _ => .bad
theorem x_enumA {tg : Expr} {fs : FL} (h : PI X tg e (iEnumA K (tAF K E fs))) : PI X tg e (tI K E (dEnumA fs)) := PI.wk h fun σ H Q ⟨ρ, w, e1, ok, sr, a⟩ =>
  ⟨ρ, w, e1, ok, sr, a.bind.imp fun ds w1 s1 a1 vs rvs => by
    split at a1
    · cases rvs with
      | cons r1 r2 =>
        cases r2
        cases r1 with
        | lst hs rl => exact ⟨_, _, rfl, .inl ⟨.inl (.inl (s1.ok.sub _ _ hs)), a1 w1 (Step.refl s1.ok) rfl _ (it_enum (.inl (.inl hs)) rl)⟩⟩
    · cases rvs with
      | cons r1 r2 =>
        cases r2
        cases r1 with
        | fro hs rl => exact ⟨_, _, rfl, .inl ⟨s1.ok.sub.seq hs, a1 w1 (Step.refl s1.ok) rfl _ (it_enum hs rl)⟩⟩
    · cases rvs with
      | cons r1 r2 =>
        cases r2
        cases r1 with
        | tup hs rl => exact ⟨_, _, rfl, .inr ⟨.inl (.inl (s1.ok.sub _ _ hs)), a1 w1 (Step.refl s1.ok) rfl _ (it_enumT (.inl (.inl hs)) rl)⟩⟩
    · exact a1.elim⟩
@[simp] theorem dEnumA_eq (fs : FL) (ρ : EnvD) (M : Store) : dEnumA fs ρ M = (fs ρ M).bind fun ds M => match ds with
  | [.lst es] => .ok (enumL es) M
  | [.fro es] => .ok (enumL es) M
  | [.tup es] => .ok (enumL es) M
  | _ => .bad := rfl
/-- x[j] = e, x a list of one's own -/
def sPutO (i : Nat) (f fi : FD) : FS := fun ρ M => (f ρ M).out fun x M => match ρ[i]? with
  | some (.own ds) => (fi ρ M).out fun j M => match j with
    | .int j => match ixN ds.length j with
      | some n => .next (ρ.set i (.own (ds.set n x))) M
      | none => .bad
    | _ => .bad
  | _ => .bad
theorem s_putO {i : Nat} {f fi : FD} (h : PS X st (tAsg (tF K E f) (gSub (tVar i) (tR K E fi) rSetL))) : PS X st (tS K E (sPutO i f fi)) := PS.wk h fun D σ H ⟨ρ, w, w0, e1, s, sr, of, p⟩ =>
  ⟨ρ, w, e1, s.ok, sr, (out_after s p).imp fun x w1 s1 p1 v rv => by
    split at p1
    · rename_i ds e2
      obtain ⟨q, vs, h1, h2, h3, h4, h5⟩ := (sr.step s1).own i ds e2
      refine ⟨_, h1, ρ, w1, rfl, s1.ok, sr.step s1, (out_after (s.trans s1) p1).imp fun j w2 s2 p2 vj rj => ?_⟩
      split at p2
      · rename_i j
        split at p2
        · rename_i n en
          cases int_at rj
          obtain ⟨b1, c1, d1⟩ := s2.keepN q _ h2 h3 h4
          have r1 := s2.repL h5
          refine ⟨q, vs, j, n, rfl, rfl, b1, by rw [h5.length]; exact en, ?_⟩
          obtain ⟨a, b, c⟩ := SR.change (vs := vs) ((s.trans s1).trans s2) ((sr.step s1).step s2) of e2 h1 (r1.set (s2.rep rv) n)
          exact p2 _ σ a (Le.refl _) rfl b c
        · exact p2.elim
      · exact p2.elim
    · exact p1.elim⟩
@[simp] theorem sPutO_eq (i : Nat) (f fi : FD) (ρ : EnvD) (M : Store) : sPutO i f fi ρ M = (f ρ M).out fun x M => match ρ[i]? with
  | some (.own ds) => (fi ρ M).out fun j M => match j with
    | .int j => match ixN ds.length j with
      | some n => .next (ρ.set i (.own (ds.set n x))) M
      | none => .bad
    | _ => .bad
  | _ => .bad := rfl
end
end TP
/-! TPgb: in with any data, max of a list, index in a tuple of texts. -/
namespace TP
open PySem L2
section
variable {X : Cx}
def rInW (K : PySem.W.Frag) (neg : Bool) : R2 := fun x y H Q => (if neg then rNotInA K x y H Q else rInA K x y H Q) ∨ ∃ d e ds, Dp K H x d ∧ Dp K H y e ∧ (e = .list ds ∨ e = .tuple ds) ∧ d.canLay0 = true ∧ PyData.canLayAll0 ds = true ∧ min (PyData.depthAll ds) d.depth ≤ 190 ∧ Q (.bl (if neg then !(ds.any fun z => PyData.eqv z d) else ds.any fun z => PyData.eqv z d)) H
theorem op_inW (hu : X.A.units + 200 < cLine) : OpR X (compareOp .In) (rInW X.K false) := by
  intro pins s σ H x y v u Q I rx ry h
  rcases h with h | ⟨d, e, ds, hd, he, hk, sd, se, hm, q⟩
  · exact op_inA pins s σ H x y v u Q I rx ry h
  · obtain ⟨as, r1⟩ := Dp.reads I d x v hd rx
    obtain ⟨bs, r2⟩ := Dp.reads I e y u he ry
    rcases hk with rfl | rfl
    · exact SeqAt.in_list_reads r2 r1 se sd (by omega) ⟨.bl _, H, I, rfl, q⟩
    · exact SeqAt.in_tuple_reads r2 r1 se sd (by omega) ⟨.bl _, H, I, rfl, q⟩
theorem op_notInW (hu : X.A.units + 200 < cLine) : OpR X (compareOp .NotIn) (rInW X.K true) := by
  intro pins s σ H x y v u Q I rx ry h
  rcases h with h | ⟨d, e, ds, hd, he, hk, sd, se, hm, q⟩
  · exact op_notInA pins s σ H x y v u Q I rx ry h
  · obtain ⟨as, r1⟩ := Dp.reads I d x v hd rx
    obtain ⟨bs, r2⟩ := Dp.reads I e y u he ry
    rcases hk with rfl | rfl
    · exact SeqAt.notIn_list_reads r2 r1 se sd (by omega) ⟨.bl _, H, I, rfl, q⟩
    · exact SeqAt.notIn_tuple_reads r2 r1 se sd (by omega) ⟨.bl _, H, I, rfl, q⟩
end
section
variable {K : PySem.W.Frag} {E : Wish} {X : Cx} {e : Expr} {st : Stmt}
def itemsP : D → Option (List D)
  | .tup ds => some ds
  | .kt ds => some ds
  | .lst ds => some ds
  | .fro ds => some ds
  | _ => none
def anyW (M : Store) (x y : D) : Option Bool := match itemsP (derD M y) with
  | some ds => if goodD (derD M x) && goodL ds && goodD (derD M y) && decide (min (dpL ds) (dpD (derD M x)) ≤ 190) then some (ds.any fun z => eqvD z (derD M x)) else none
  | none => none
def inWD (M : Store) (x y : D) : Option Slot := match inD M x y with
  | some s => some s
  | none => (anyW M x y).map fun b => .val (.bl b)
def notInWD (M : Store) (x y : D) : Option Slot := match notInD M x y with
  | some s => some s
  | none => (anyW M x y).map fun b => .val (.bl (!b))
theorem any_py {d : D} (hd : goodD d = true) : ∀ ds : List D, goodL ds = true → (toPyL ds).any (fun z => PyData.eqv z (toPy d)) = ds.any fun z => eqvD z d
  | [], _ => by rw [toPyL]; rfl
  | x :: ds, h => by
    rw [goodL, Bool.and_eq_true] at h
    rw [toPyL, List.any_cons, List.any_cons, eqv_py x d h.1 hd, any_py hd ds h.2]
theorem anyW_at {w : Wd} (ok : w.Ok K) {vx vy : V} {x y : D} {b : Bool} (rx : RepB K w vx x) (ry : RepB K w vy y) (h : anyW w.M x y = some b) :
    ∃ d e ds, Dp K w.H vx d ∧ Dp K w.H vy e ∧ (e = .list ds ∨ e = .tuple ds) ∧ d.canLay0 = true ∧ PyData.canLayAll0 ds = true ∧ min (PyData.depthAll ds) d.depth ≤ 190 ∧ (ds.any fun z => PyData.eqv z d) = b := by
  unfold anyW at h
  split at h
  · rename_i ds hds
    split at h
    · rename_i hc
      simp only [Bool.and_eq_true, decide_eq_true_eq] at hc
      obtain ⟨⟨⟨h1, h2⟩, h3⟩, h4⟩ := hc
      refine ⟨toPy (derD w.M x), toPy (derD w.M y), toPyL ds, rx.dp ok h1, ry.dp ok h3, ?_, lay_py _ h1, layL_py _ h2, by rw [dp_py _ h1, dpL_py _ h2]; exact h4, ?_⟩
      · cases hq : derD w.M y with
        | tup es => rw [hq] at hds; cases hds; exact .inr (by rw [toPy])
        | kt es => rw [hq, goodD] at h3; cases h3
        | lst es => rw [hq] at hds; cases hds; exact .inl (by rw [toPy])
        | fro es => rw [hq, goodD] at h3; cases h3
        | non => rw [hq] at hds; cases hds
        | bl b => rw [hq] at hds; cases hds
        | int i => rw [hq] at hds; cases hds
        | str z => rw [hq] at hds; cases hds
        | ref k => rw [hq] at hds; cases hds
      · rw [any_py h1 ds h2]; exact Option.some.inj h
    · cases h
  · cases h
theorem p_inW : Prim2 K (rInW K false) inWD := by
  intro w vx vy x y s Q ok rx ry h k
  unfold inWD at h
  split at h
  · rename_i s' hs
    cases h
    exact .inl (p_in w vx vy x y s Q ok rx ry hs k)
  · cases hb : anyW w.M x y with
    | none => rw [hb] at h; cases h
    | some b =>
      rw [hb] at h
      cases h
      obtain ⟨d, e, ds, a1, a2, a3, a4, a5, a6, a7⟩ := anyW_at ok rx ry hb
      exact .inr ⟨d, e, ds, a1, a2, a3, a4, a5, a6, ans ok k fun A G => by rw [if_neg (by decide), a7]; exact .bl _⟩
theorem p_notInW : Prim2 K (rInW K true) notInWD := by
  intro w vx vy x y s Q ok rx ry h k
  unfold notInWD at h
  split at h
  · rename_i s' hs
    cases h
    exact .inl (p_notIn w vx vy x y s Q ok rx ry hs k)
  · cases hb : anyW w.M x y with
    | none => rw [hb] at h; cases h
    | some b =>
      rw [hb] at h
      cases h
      obtain ⟨d, e, ds, a1, a2, a3, a4, a5, a6, a7⟩ := anyW_at ok rx ry hb
      exact .inr ⟨d, e, ds, a1, a2, a3, a4, a5, a6, ans ok k fun A G => by rw [if_pos rfl, a7]; exact .bl _⟩
/-! ### max of a list -/
def maxI : Int → List Int → Int
  | a, [] => a
  | a, b :: l => maxI (if b > a then b else a) l
theorem maxI_max : ∀ (l : List Int) (a m : Int), m ∈ a :: l → (∀ y ∈ a :: l, y ≤ m) → maxI a l = m
  | [], a, m, h, _ => by rw [maxI]; exact (List.mem_singleton.mp h).symm
  | b :: l, a, m, h, hy => by
    rw [maxI]
    have ha := hy a (by simp)
    have hb := hy b (by simp)
    refine maxI_max l _ m ?_ (fun y hm => ?_)
    · rcases List.mem_cons.mp h with rfl | h
      · split
        · have : b = m := by omega
          simp [this]
        · simp
      · rcases List.mem_cons.mp h with rfl | h
        · split
          · simp
          · have : a = m := by omega
            simp [this]
        · exact List.mem_cons_of_mem _ h
    · rcases List.mem_cons.mp hm with rfl | hm
      · split <;> assumption
      · exact hy y (by simp [hm])
def maxLD (M : Store) (ds : List D) : Option Slot := match ds with
  | [x] => match seqOf M x with
    | some es => match intsOf es with
      | some (a :: l) => some (.val (.int (maxI a l)))
      | _ => none
    | none => none
  | _ => none
theorem p_maxL : PrimN K (rMax K) maxLD := by
  intro w vs ds s Q ok r h k
  unfold maxLD at h
  split at h
  · split at h
    · rename_i x es hx
      split at h
      · rename_i a l hi
        cases h
        obtain ⟨v, rfl, rv⟩ := r.one
        obtain ⟨p, us, rfl, hp, rl⟩ := seq_at ok rv hx
        have e := ints_at rl hi
        subst e
        refine ⟨p, a :: l, rfl, hp, by simp, fun m h1 h2 => ?_⟩
        rw [← maxI_max l a m h1 h2]
        exact ans ok k fun A G => .int _
      · cases h
    · cases h
  · cases h
/-! ### t.index(x), t a tuple of texts -/
def idxS (z : Str) : List Str → Option Nat
  | [] => none
  | y :: ys => if y = z then some 0 else (idxS z ys).map (· + 1)
theorem idxS_ok {z : Str} : ∀ {ys : List Str} {j : Nat}, idxS z ys = some j → ys[j]? = some z ∧ ∀ m, m < j → ys[m]? ≠ some z
  | [], j, h => by cases h
  | y :: ys, j, h => by
    rw [idxS] at h
    split at h
    · rename_i e
      cases h
      exact ⟨by simp [e], fun m hm => absurd hm (Nat.not_lt_zero _)⟩
    · rename_i e
      cases hq : idxS z ys with
      | none => rw [hq] at h; cases h
      | some i =>
        rw [hq] at h
        cases h
        obtain ⟨h1, h2⟩ := idxS_ok hq
        refine ⟨by simpa using h1, fun m hm => ?_⟩
        cases m with
        | zero => simpa using e
        | succ m => simpa using h2 m (Nat.lt_of_succ_lt_succ hm)
def tupIdxD (_ : Store) (x : D) (ds : List D) : Option Slot := match x, ds with
  | .tup es, [.str z] => match strsOf es with
    | some ys => (idxS z ys).map fun j => .val (.int (j : Nat))
    | none => none
  | _, _ => none
theorem p_tupIdx : PrimM K (fun x xs H Q => ∃ p, ∃ ys : List Str, ∃ z j, x = .ref p ∧ xs = [.str z] ∧ SqT K H p (ys.map V.str) ∧ ys[j]? = some z ∧ (∀ m, m < j → ys[m]? ≠ some z) ∧ Q (.int (j : Nat)) H) tupIdxD := by
  intro w vx x vs ds s Q ok rx r h k
  unfold tupIdxD at h
  split at h
  · rename_i es z
    split at h
    · rename_i ys hy
      cases hj : idxS z ys with
      | none => rw [hj] at h; cases h
      | some j =>
        rw [hj] at h
        cases h
        obtain ⟨v, rfl, rv⟩ := r.one
        have ez := str_at rv
        subst ez
        obtain ⟨p, us, rfl, hp, rl⟩ := tup_at ok rx
        have e := strs_at rl hy
        subst e
        obtain ⟨h1, h2⟩ := idxS_ok hj
        exact ⟨p, ys, z, j, rfl, rfl, hp, h1, h2, ans ok k fun A G => .int _⟩
    · cases h
  · cases h
end
end TP
/-! TPgc: t[::k] of a tuple, xs.insert(0, x) of a list of the store, list(d) of a dict with tuple keys. -/
namespace TP
open PySem L2
section
open PySem.Spec PyProof.Rows HT
variable {prog : Program} {w : World} {A : Around} {E : Value → Shared → Prop} {s : Shared}
theorem adjust_rev (n : Nat) : Builtin.Slice.sliceAdjust none none (-1) (n : Int) = ((n : Int) - 1, -1) := rfl
theorem places_rev (n : Nat) : Builtin.Slice.slicePlaces ((n : Int) - 1) (-1) (-1) = n := by
  unfold Builtin.Slice.slicePlaces
  have h1 : ¬ ((-1 : Int) > 0) := by decide
  rw [if_neg h1, show (- -1 : Int) = 1 by decide]
  split
  · rw [Int.ediv_one]; omega
  · omega
theorem pick_rev (xs : Array Value) : ((List.range xs.size).filterMap fun (m : Nat) => xs[(((xs.size : Int) - 1) + (m : Int) * (-1)).toNat]?).toArray = xs.toList.reverse.toArray := by
  congr 1
  rw [← PySem.W.krv_all xs, ← List.filterMap_reverse, ← PySem.W.krv_range, List.filterMap_map]
  congr 1
  funext m
  have : (((xs.size : Int) - 1) + (m : Int) * (-1)).toNat = xs.size - 1 - m := by omega
  simp only [Function.comp_apply, this]
theorem sliceApplied_rev {sl : Addr} {vs : Value} {n : Nat} {Q : Int × Int × Nat → Shared → Prop} (hs : s.heap.IsSliceOf sl .none .none vs) (ps : IsPart vs (some (-1)))
    (h : Q ((n : Int) - 1, -1, n) s) : wpAny (model prog w) A (Builtin.Slice.sliceApplied (.ref sl) (pure (n : Int))) Q E s := by
  obtain ⟨os, hos, hcs, hds⟩ := id hs
  unfold Builtin.Slice.sliceApplied Builtin.Slice.sliceFields
  refine wpAny_bind (wpAny_bind (wpAny_field hos hds (x := .none) rfl (wpAny_bind (wpAny_field hos hds (x := .none) rfl (wpAny_bind (wpAny_field hos hds (x := vs) rfl (wpAny_pure ?_)))))))
  refine wpAny_bind (slicePart_ ps ?_)
  show wpAny _ _ (if ((-1 : Int) == 0) = true then _ else _) _ _ s
  rw [if_neg (by decide)]
  refine wpAny_bind (slicePart_none (wpAny_bind (slicePart_none (wpAny_bind (wpAny_pure ?_)))))
  show wpAny _ _ (pure ((n : Int) - 1, (-1 : Int), Builtin.Slice.slicePlaces ((n : Int) - 1) (-1) (-1))) _ _ s
  rw [places_rev]
  exact wpAny_pure h
theorem getItem_tuple_rev {t sl : Addr} {items : Array Value} {vs : Value} {Q : Value → Shared → Prop} (ht : IsTup s.heap t items) (hs : s.heap.IsSliceOf sl .none .none vs) (ps : IsPart vs (some (-1)))
    (h : Q (.ref s.heap.objs.size) { s with heap := s.heap.push { cls := .type "tuple", data := .seq items.toList.reverse.toArray } })
    (hsz : items.size ≤ sizeLine) : wpAny (model prog w) A (getItem (.ref t) (.ref sl)) Q E s := by
  have htake : sizeOk (.seq items.toList.reverse.toArray) := by
    show items.toList.reverse.toArray.size ≤ sizeLine
    rw [List.size_toArray, List.length_reverse, Array.length_toList]
    exact hsz
  obtain ⟨os, hos, hcs, hds⟩ := id hs
  have hTs : s.TypeIs (.ref sl) "slice" := ⟨os, hos, hcs⟩
  unfold getItem
  try with_reducible refine wpAny_holding ?_
  first | refine wpAny_bind (wpAny_pure ?_) | skip
  refine wpAny_bind (wpAny_sequenceKey ht.typeIs (by decide) ?_)
  refine wpAny_bind (wpAny_callSpecial?_slot (name := Str.ofString "__getitem__") ht.typeIs PyProof.Rows.slot_tuple_getitem
    (wpAny_call_entry PyProof.Rows.slot_tuple_getitem ht.typeIs entry_tuple_getitem ?_ (args_tuple_getitem _ _)))
  show wpAny _ _ (Builtin.Tuple.tupleItemsOf (.ref t) >>= _) _ _ s
  refine wpAny_bind (tupleItemsOf_ ht ?_)
  refine wpAny_bind (wpAny_typeOf hTs ?_)
  rw [if_pos (by decide)]
  refine wpAny_bind (sliceApplied_rev hs ps ?_)
  show wpAny _ _ (if ((((items.size : Int) - 1) == 0) && ((-1 : Int) == 1) && (items.size == items.size)) = true then _ else _) _ _ s
  rw [show ((((items.size : Int) - 1) == 0) && ((-1 : Int) == 1) && (items.size == items.size)) = false by simp, if_neg Bool.false_ne_true, pick_rev]
  first
    | exact wpAny_bind (m := Builtin.Tuple.tupleExact _) (wpAny_newObj_type (wpAny_pure ⟨_, rfl, wpAny_pure h⟩) htake)
    | exact wpAny_bind (m := Builtin.Tuple.tupleExact _) (wpAny_newObj_type (wpAny_bind (wpAny_pure (wpAny_pure ⟨_, rfl, wpAny_pure h⟩))) htake)
    | exact wpAny_bind (wpAny_bind (m := Builtin.Tuple.tupleExact _) (wpAny_newObj_type (wpAny_pure (wpAny_pure ⟨_, rfl, wpAny_pure h⟩)) htake))
    | exact wpAny_bind (wpAny_bind (m := Builtin.Tuple.tupleExact _) (wpAny_newObj_type (wpAny_pure ⟨_, rfl, wpAny_pure h⟩) htake))
theorem sliceApplied_one {sl : Addr} {vs : Value} {n : Nat} {Q : Int × Int × Nat → Shared → Prop} (hs : s.heap.IsSliceOf sl .none .none vs) (ps : IsPart vs (some 1))
    (h : Q (0, 1, n) s) : wpAny (model prog w) A (Builtin.Slice.sliceApplied (.ref sl) (pure (n : Int))) Q E s := by
  obtain ⟨os, hos, hcs, hds⟩ := id hs
  unfold Builtin.Slice.sliceApplied Builtin.Slice.sliceFields
  refine wpAny_bind (wpAny_bind (wpAny_field hos hds (x := .none) rfl (wpAny_bind (wpAny_field hos hds (x := .none) rfl (wpAny_bind (wpAny_field hos hds (x := vs) rfl (wpAny_pure ?_)))))))
  refine wpAny_bind (slicePart_ ps ?_)
  show wpAny _ _ (if ((1 : Int) == 0) = true then _ else _) _ _ s
  rw [if_neg (by decide)]
  refine wpAny_bind (slicePart_none (wpAny_bind (slicePart_none (wpAny_bind (wpAny_pure ?_)))))
  show wpAny _ _ (pure ((0 : Int), (1 : Int), Builtin.Slice.slicePlaces ((0 : Nat) : Int) (n : Int) 1)) _ _ s
  rw [places_gen]
  exact wpAny_pure h
theorem getItem_tuple_one {t sl : Addr} {items : Array Value} {vs : Value} {Q : Value → Shared → Prop} (ht : IsTup s.heap t items) (hs : s.heap.IsSliceOf sl .none .none vs) (ps : IsPart vs (some 1))
    (h : Q (.ref t) s) : wpAny (model prog w) A (getItem (.ref t) (.ref sl)) Q E s := by
  obtain ⟨os, hos, hcs, hds⟩ := id hs
  have hTs : s.TypeIs (.ref sl) "slice" := ⟨os, hos, hcs⟩
  unfold getItem
  try with_reducible refine wpAny_holding ?_
  first | refine wpAny_bind (wpAny_pure ?_) | skip
  refine wpAny_bind (wpAny_sequenceKey ht.typeIs (by decide) ?_)
  refine wpAny_bind (wpAny_callSpecial?_slot (name := Str.ofString "__getitem__") ht.typeIs PyProof.Rows.slot_tuple_getitem
    (wpAny_call_entry PyProof.Rows.slot_tuple_getitem ht.typeIs entry_tuple_getitem ?_ (args_tuple_getitem _ _)))
  show wpAny _ _ (Builtin.Tuple.tupleItemsOf (.ref t) >>= _) _ _ s
  refine wpAny_bind (tupleItemsOf_ ht ?_)
  refine wpAny_bind (wpAny_typeOf hTs ?_)
  rw [if_pos (by decide)]
  refine wpAny_bind (sliceApplied_one hs ps ?_)
  show wpAny _ _ (if (((0 : Int) == 0) && ((1 : Int) == 1) && (items.size == items.size)) = true then _ else _) _ _ s
  rw [if_pos (by simp)]
  refine wpAny_bind ?_
  show wpAny _ _ (typeOf (.ref t) >>= fun T => pure (T == .type "tuple")) _ _ s
  refine wpAny_bind (wpAny_typeOf ht.typeIs (wpAny_pure ?_))
  rw [if_pos (by decide)]
  first
    | exact wpAny_bind (wpAny_pure ⟨_, rfl, wpAny_pure h⟩)
    | exact wpAny_pure ⟨_, rfl, wpAny_pure h⟩
    | (wp_walk; exact ⟨_, rfl, wpAny_pure h⟩)
    | (wp_walk; exact ⟨_, rfl, h⟩)
end
/-! ### t[::k], k 1 or -1 -/
def tStepT (K : PySem.W.Frag) (te ts : TE) : TE := fun σ H Q => te σ H fun x H1 => tPart ts σ H1 fun o H2 => ∃ (a : Addr) (xs : List V) (k : Int), x = .ref a ∧ o = some k ∧ (k = 1 ∨ k = -1) ∧ SqT K H2 a xs ∧ (k = 1 → Q (.ref a) H2) ∧ (k = -1 → ∀ p, H2 p = none → Q (.ref p) (upd H2 p (.tup xs.reverse)))
section
variable {X : Cx} {e st : Expr} {te ts : TE}
open PySem.Spec PyProof.Rows in
theorem pe_stepT {p3 pos : Pos} (he : PE X e te) (hs : PE X st ts) : PE X (.Subscript e (.Slice none none (some st) p3) pos) (tStepT X.K te ts) := by
  refine ⟨fun pins s σ H Q I h => ?_⟩
  refine Subscript_ (thn (he.run pins s σ H _ I h) fun v s1 ⟨x, H1, I1, r1, q1⟩ => ?_)
  have hst : PO X (some st) (tPart ts) := po_some hs
  refine wpAny_Slice (thn (po_none.run pins s1 σ H1 (fun o H2 => o = none ∧ H2 = H1) I1 ⟨rfl, rfl⟩) fun vl s2 ⟨l, H2, I2, pl, el, e2⟩ => ?_)
  subst el e2
  refine thn (po_none.run pins s2 σ H2 (fun o H3 => o = none ∧ H3 = H2) I2 ⟨rfl, rfl⟩) fun vu s3 ⟨u, H3, I3, pu, eu, e3⟩ => ?_
  subst eu e3
  refine thn (hst.run pins s3 σ H3 _ I3 q1) fun vs s4 ⟨o, H4, I4, ps, a, xs, k, ex, eo, hk, hx, qa, qb⟩ => ?_
  subst ex eo
  cases r1
  cases pl
  cases pu
  have I5 : Inv X pins σ H4 { s4 with heap := s4.heap.push { cls := .type "slice", data := .fields #[.none, .none, vs] } } := I4.kept (t' := s4.toks) fun b ob q => Heap.get?_push_of_some _ q
  obtain ⟨its, r, ht, hz⟩ := I5.tuple hx
  have hlen := r.length
  show wpAny (model X.prog X.w) X.A (subscriptTail e (.Slice none none (some st) p3) (.ref a) (.ref s4.heap.objs.size)) (EP X pins σ Q) X.xe { s4 with heap := s4.heap.push { cls := .type "slice", data := .fields #[.none, .none, vs] } }
  refine tail_any (ops := [.ref a, .ref s4.heap.objs.size]) ht.typeIs (PyProof.Rows.slot_tuple_getitem.lookup) ?_ (by with_unfolding_all rfl)
  rcases hk with rfl | rfl
  · exact getItem_tuple_one ht (Heap.IsSliceOf.new _ .none .none vs) ps ⟨.ref a, H4, I5, rfl, qa rfl⟩
  · refine getItem_tuple_rev ht (Heap.IsSliceOf.new _ .none .none vs) ps ?_ (by rw [List.size_toArray]; omega)
    refine ⟨.ref _, _, I5.laid (t' := s4.toks) (o := .tup xs.reverse) (fun b ob q => Heap.get?_push_of_some _ q) (Nat.le_refl _) ?_, rfl, by simpa using qb rfl _ (I5.hok.fresh (Nat.le_refl _))⟩
    exact ⟨by rw [List.length_reverse]; exact hz, _, r.reverse, IsTup.new _ _⟩
end
section
variable {K : PySem.W.Frag} {E : Wish} {X : Cx} {e : Expr} {st : Stmt}
def dStepT (fe fs : FD) : FE := fun ρ M => (fe ρ M).bind fun x M => (fs ρ M).bind fun y M => match x with
  | .tup xs => match stepD xs y with
    | some zs => .ok (.val (.tup zs)) M
    | none => .bad
  | _ => .bad
theorem x_stepT {fe fs : FD} (h : PE X e (tStepT K (tR K E fe) (tR K E fs))) : PE X e (tE K E (dStepT fe fs)) := PE.wk h fun σ H Q ⟨ρ, w, e1, ok, sr, a⟩ =>
  ⟨ρ, w, e1, ok, sr, a.bind.imp fun x w1 s1 a1 v1 r1 => ⟨ρ, w1, rfl, s1.ok, sr.step s1, a1.bind.imp fun y w2 s2 a2 v2 r2 => by
    split at a2
    · rename_i xs
      split at a2
      · rename_i zs hz
        cases y with
        | int k =>
          have r1' := r1.step s2
          obtain ⟨p, vs, rfl, hp, rl⟩ := tup_at s2.ok r1'
          have e2 := int_at r2
          have a3 : ∀ w', Step K w2 w' → w'.M = w2.M → ∀ v, RepX K w w' v (.val (.tup zs)) → Q v w'.H := a2
          unfold stepD at hz
          simp only at hz
          have hk : k = 1 ∨ k = -1 := by
            by_cases h1 : k = 1
            · exact .inl h1
            · by_cases h2 : k = -1
              · exact .inr h2
              · rw [if_neg h1, if_neg h2] at hz; cases hz
          refine ⟨k, e2, p, vs, k, rfl, rfl, hk, hp, fun h1 => ?_, fun h1 n hn => ?_⟩
          · rw [if_pos h1] at hz; cases hz
            rcases r1' with r1' | ⟨_, _, _, _, e, _⟩
            · exact a3 w2 (Step.refl s2.ok) rfl _ r1'
            · cases e
          · rw [if_neg (by omega), if_pos h1] at hz; cases hz
            have s3 := s2.ok.fresh hn (.tup vs.reverse)
            exact a3 _ s3 rfl _ (.tup upd_same (s3.repL rl.reverse))
        | _ => cases hz
      · exact a2.elim
    · exact a2.elim⟩⟩
/-! ### xs.insert(0, e), xs a list of the store -/
def rIns : V → List V → Hp → VK → Prop := fun x vs H Q => ∃ (l : Addr) (xs : List V) (i : Int) (y : V), x = .ref l ∧ vs = [.int i, y] ∧ H l = some (.lst xs) ∧ xs.length < sizeLine ∧ 0 ≤ i ∧ i < 2 ^ 63 ∧
    Q .non (upd H l (.lst (xs.take i.toNat ++ [y] ++ xs.drop i.toNat)))
def sInsR (fo f : FD) : FS := fun ρ M => (fo ρ M).out fun x M => match x with
  | .ref k => match M[k]? with
    | some (.lst _) => (f ρ M).out fun y M => match M[k]? with
      | some (.lst ds) => if ds.length < sizeLine then .next ρ (M.set k (.lst (y :: ds))) else .bad
      | _ => .bad
    | _ => .bad
  | _ => .bad
theorem s_insR {fo f : FD} (h : PS X st (tDrop (tBM K "list" rIns (tR K E fo) (tCons (tC (.int 0)) (tCons (tF K E f) tNil))))) : PS X st (tS K E (sInsR fo f)) := PS.wk h fun D σ H ⟨ρ, w, w0, e1, s, sr, of, p⟩ =>
  ⟨ρ, w, e1, s.ok, sr, (out_after s p).imp fun x w1 s1 p1 vx rx => by
    split at p1
    · rename_i k
      split at p1
      · rename_i ds0 e0
        obtain ⟨q, rfl, ea⟩ := ref_at rx
        obtain ⟨q', ea', vs0, hH0, _⟩ := s1.ok.mos k _ e0
        rw [ea] at ea'
        cases ea'
        refine ⟨.inl ⟨rfl, vs0, .inl (.inl hH0)⟩, ρ, w1, rfl, s1.ok, sr.step s1, (out_after (s.trans s1) p1).imp fun y w2 s2 p2 vy ry => ?_⟩
        split at p2
        · rename_i ds e2
          split at p2
          · rename_i hz
            have ea2 : w2.A[k]? = some q := pre_get s2.pre ea
            obtain ⟨q', ea', vs, hH, rl⟩ := s2.ok.mos k _ e2
            rw [ea2] at ea'
            cases ea'
            refine ⟨q, vs, 0, vy, rfl, rfl, hH, by rw [rl.length]; exact hz, by decide, by decide, ?_⟩
            have st3 := s2.ok.put (o := .lst (y :: ds)) (ho := .lst (vy :: vs)) ea2 ⟨_, upd_same, .cons ry rl⟩
            exact p2 _ σ (((s.trans s1).trans s2).trans st3) st3.le rfl (((sr.step s1).step s2).step st3) of
          · exact p2.elim
        · exact p2.elim
      · exact p1.elim
    · exact p1.elim⟩
/-! ### list(d), d a dict with tuple keys -/
def keyT : Key → D
  | .inl i => .int i
  | .inr x => .str x
def keysT (kvs : List (List Key × D)) : List D := kvs.map fun kv => .tup (kv.1.map keyT)
def listTD (M : Store) (ds : List D) : Option Slot := match ds with
  | [.ref k] => match M[k]? with
    | some (.dT kvs) => some (.own (keysT kvs))
    | _ => listD M ds
  | _ => listD M ds
theorem keyT_rep {A : List Addr} {G : Hp} : ∀ ks : List Key, RepL K A G (ks.map kV) (ks.map keyT)
  | [] => .nil
  | .inl i :: ks => .cons (.int i) (keyT_rep ks)
  | .inr x :: ks => .cons (.str x) (keyT_rep ks)
theorem keysT_rep {R : V → D → Prop} {A : List Addr} {G H : Hp} : ∀ {vs : List (List Key × V)} {kvs : List (List Key × D)} {bs : List Addr}, RepKV R vs kvs → IsKeys H vs bs → (∀ b ∈ bs, ∀ o, H b = some o → G b = some o) → RepL K A G (bs.map V.ref) (keysT kvs)
  | _, _, _, .nil, .nil, _ => .nil
  | _, _, _, .cons r t, .cons h1 h2, hb => .cons (.tup (hb _ List.mem_cons_self _ h1) (keyT_rep _)) (keysT_rep t h2 fun b m => hb b (List.mem_cons_of_mem _ m))
theorem isKeys_at {H : Hp} : ∀ {vs : List (List Key × V)} {bs : List Addr}, IsKeys H vs bs → ∀ b ∈ bs, ∃ xs, H b = some (.tup xs)
  | _, _, .nil, b, m => by cases m
  | _, _, .cons h1 h2, b, m => by
    rcases List.mem_cons.mp m with rfl | m
    · exact ⟨_, h1⟩
    · exact isKeys_at h2 b m
open Classical in
/-- tuples that stand somewhere are frozen -/
theorem Wd.Ok.freezes {w : Wd} (h : w.Ok K) {bs : List Addr} (hb : ∀ b ∈ bs, ∃ xs, w.H b = some (.tup xs)) : Step K w ⟨w.A, fun b => if b ∈ bs then w.H b else w.G b, w.M, w.H⟩ := by
  have sG : Same w.G (fun b => if b ∈ bs then w.H b else w.G b) := fun b u e => by
    by_cases m : b ∈ bs
    · show (if b ∈ bs then w.H b else w.G b) = some u
      rw [if_pos m]; exact h.sub _ _ e
    · show (if b ∈ bs then w.H b else w.G b) = some u
      rw [if_neg m]; exact e
  have notA : ∀ a ∈ w.A, a ∉ bs := fun a ha m => by
    obtain ⟨xs, e⟩ := hb a m
    obtain ⟨k, hk, e2⟩ := List.mem_iff_getElem.mp ha
    have hk' : k < w.M.length := by rw [← h.len]; exact hk
    obtain ⟨a', ea, r⟩ := h.mos k w.M[k] (List.getElem?_eq_getElem hk')
    have e3 : a' = a := by
      rw [List.getElem?_eq_getElem hk] at ea
      exact (Option.some.inj ea).symm.trans e2
    subst e3
    cases q : w.M[k] with
    | lst ds => rw [q] at r; obtain ⟨_, z, _⟩ := r; rw [e] at z; cases z
    | dK ds => rw [q] at r; obtain ⟨_, z, _⟩ := r; rw [e] at z; cases z
    | dT ds => rw [q] at r; obtain ⟨_, z, _⟩ := r; rw [e] at z; cases z
    | ins c fs => rw [q] at r; obtain ⟨_, _, _, z, _⟩ := r; rw [e] at z; cases z
  have rr : ∀ v d, Rep K w.A w.G v d → Rep K w.A (fun b => if b ∈ bs then w.H b else w.G b) v d := fun v d => Rep.mono (List.prefix_refl _) sG d v
  refine ⟨⟨fun b u e => ?_, h.nd, h.len, fun a ha => ?_, fun k m e => ?_⟩, List.prefix_refl _, sG, fun p o h1 h2 h3 => ⟨h1, ?_, h3⟩⟩
  · have e' : (if b ∈ bs then w.H b else w.G b) = some u := e
    by_cases m : b ∈ bs
    · rw [if_pos m] at e'; exact e'
    · rw [if_neg m] at e'; exact h.sub _ _ e'
  · show (if a ∈ bs then w.H a else w.G a) = none
    rw [if_neg (notA a ha)]; exact h.out a ha
  · obtain ⟨a, ea, r⟩ := h.mos k m e
    refine ⟨a, ea, ?_⟩
    cases m with
    | lst ds => obtain ⟨vs, z, q⟩ := r; exact ⟨vs, z, RepL.mono (List.prefix_refl _) sG _ _ q⟩
    | dK ds => obtain ⟨vs, z, q⟩ := r; exact ⟨vs, z, q.imp rr⟩
    | dT ds => obtain ⟨vs, z, q⟩ := r; exact ⟨vs, z, q.imp rr⟩
    | ins c fs => obtain ⟨io, vs, dx, z, q⟩ := r; exact ⟨io, vs, dx, z, q.imp rr⟩
  · by_cases m : p ∈ bs
    · obtain ⟨xs, e⟩ := hb p m
      rw [h1] at e
      exact .inr ⟨xs, Option.some.inj e⟩
    · refine .inl ?_
      show (if p ∈ bs then w.H p else w.G p) = none
      rw [if_neg m]; exact h2
theorem p_listT : PrimN K (fun xs H Q => (∃ p ys, xs = [.ref p] ∧ (SqL K H p ys ∨ SqT K H p ys) ∧ ∀ l, H l = none → Q (.ref l) (upd H l (.lst ys))) ∨
    ∃ d kvs, xs = [V.ref d] ∧ Rd H d (.dT kvs) ∧ ∀ p bs, H p = none → IsKeys H kvs bs → Q (.ref p) (upd H p (.lst (bs.map V.ref)))) listTD := by
  intro w vs ds s Q ok rl h k
  by_cases hc : ∃ j kvs, ds = [.ref j] ∧ w.M[j]? = some (.dT kvs)
  · obtain ⟨j, kvs, rfl, e⟩ := hc
    have h' : some (Slot.own (keysT kvs)) = some s := by
      rw [← h]; unfold listTD; simp only [e]
    cases h'
    obtain ⟨v, rfl, rv⟩ := rl.one
    obtain ⟨a, rfl, ea⟩ := ref_at rv
    obtain ⟨a', ea', us, hH, rk⟩ := ok.mos j _ e
    rw [ea] at ea'; cases ea'
    refine .inr ⟨a, us, rfl, .inl hH, fun p bs hp hk => ?_⟩
    have s1 := ok.freezes (isKeys_at hk)
    have s2 := s1.trans (s1.ok.fresh0 hp (.lst (bs.map V.ref)))
    refine k _ _ s2 rfl (own_new s1 hp ?_)
    exact keysT_rep rk hk fun b m o e => by
      show (if b ∈ bs then w.H b else w.G b) = some o
      rw [if_pos m]; exact e
  · have h' : listD w.M ds = some s := by
      rw [← h]; unfold listTD
      split
      · split
        · rename_i j kvs e; exact absurd ⟨_, _, rfl, e⟩ hc
        · rfl
      · rfl
    exact .inl (p_list w vs ds s Q ok rl h' k)
variable {ρ : EnvD} {M : Store}
@[simp] theorem dStepT_eq (fe fs : FD) : dStepT fe fs ρ M = (fe ρ M).bind fun x M => (fs ρ M).bind fun y M => match x with
  | .tup xs => match stepD xs y with
    | some zs => .ok (.val (.tup zs)) M
    | none => .bad
  | _ => .bad := rfl
@[simp] theorem sInsR_eq (fo f : FD) : sInsR fo f ρ M = (fo ρ M).out fun x M => match x with
  | .ref k => match M[k]? with
    | some (.lst _) => (f ρ M).out fun y M => match M[k]? with
      | some (.lst ds) => if ds.length < sizeLine then .next ρ (M.set k (.lst (y :: ds))) else .bad
      | _ => .bad
    | _ => .bad
  | _ => .bad := rfl
end
end TP
/-! TPgd: max(xs, default=k). The two loops are MinMaxWalk's, with the keyword along. -/
namespace TP
open PySem L2
section
open PySem.Spec PyProof.Rows
variable {prog : Program} {w : World} {A : Around} {R : Result → Shared → Prop} {I : Addr} {fp wr : List Addr} {n : Nat} {P : Nat → Value → Prop} {St : Nat → Heap → Prop} {d : Value}
theorem codeAny_max_loopK (W : Walks prog w A.in1 I fp wr n P St) (bt : Nat → Nat → Bool) (hcmp : CmpOf prog w A.in1 .Gt P bt) (S : Addr) (hSf : S ∉ fp) :
    ∀ (k j : Nat) (s : Shared) (vb : Value) (c : Nat), n - (j + 1) = k → j + 1 ≤ n → St (j + 1) s.heap → P (argBest bt j) vb →
    s.heap.get? S = some { cls := .type "list", dict := none, data := .seq #[vb, vb] c, slots := #[] } →
    (∀ v h' tk, P (argBest bt (n - 1)) v → (∀ b o, b ∉ wr → b ≠ S → s.heap.get? b = some o → h'.get? b = some o) → R (.ok (.ret v)) { s with heap := h', toks := tk }) →
    codeAny (model prog w) A (.builtin "max.loop" ⟨[.ref I, .none, .ref S], [(Str.ofString "default", d)]⟩) R s := by
  have hSw : S ∉ wr := fun h => hSf (W.sub _ h)
  have hname : (toString "max" ++ toString ".loop" : String) = "max.loop" := by decide
  intro k
  induction k with
  | zero =>
    intro j s vb c hk hj hst hPb hS hR
    have hin : j + 1 = n := by omega
    refine codeAny_builtin F.entry_max_loop ?_
    rw [Around.under_plainId F.plain_max_loop _]
    show wpAny _ A.in1 (seqItems? (.ref S) >>= _) _ _ s
    refine wpAny_bind (wpAny_seqItems hS rfl ?_)
    show wpAny _ A.in1 (tryCatch (pyNext (.ref I)) _ >>= _) _ _ s
    refine wpAny_bind (wpAny_tryCatch (W.done s _ _ (hin ▸ hst) fun h' tk hk' => ?_))
    have hS' := hk' S _ hSw hS
    show wpAny _ A.in1 (updateSeq S (fun _ => #[]) >>= _) _ _ _
    refine wpAny_bind ?_
    refine wpAny_updateSeq hS' rfl (wpAny_bind (wpAny_letGo (wpAny_pure ?_)))
    refine hR vb _ tk (by rw [← hin]; exact hPb) fun b o hbw hbS e => (Heap.get?_update_other _ _ (Ne.symm hbS)).trans (hk' b o hbw e)
  | succ k ih =>
    intro j s vb c hk hj hst hPb hS hR
    have hlt : j + 1 < n := by omega
    refine codeAny_builtin F.entry_max_loop ?_
    rw [Around.under_plainId F.plain_max_loop _]
    show wpAny _ A.in1 (seqItems? (.ref S) >>= _) _ _ s
    refine wpAny_bind (wpAny_seqItems hS rfl ?_)
    show wpAny _ A.in1 (tryCatch (pyNext (.ref I)) _ >>= _) _ _ s
    refine wpAny_bind (wpAny_tryCatch (W.item (j + 1) s _ _ hlt hst fun v h' tk hP hst' hk' => ?_))
    have hS' := hk' S _ hSw hS
    show wpAny _ A.in1 (tryCatch (holding [v, v] (richCompare .Gt v vb >>= _)) _ >>= _) _ _ _
    refine wpAny_bind (wpAny_tryCatch (wpAny_holding (wpAny_bind (hcmp (j + 1) (argBest bt j) v vb _ _ _ hP hPb ?_))))
    refine wpAny_bind (wpAny_holding (wpAny_truthy_bool ?_))
    refine wpAny_bind (wpAny_letGo (wpAny_pure ?_))
    cases hb : bt (j + 1) (argBest bt j) with
    | true =>
      simp only [if_true]
      refine wpAny_bind ?_
      refine wpAny_updateSeq hS' rfl (wpAny_bind (wpAny_letGo ?_))
      rw [hname]
      refine wpAny_pure ⟨plainId_quiet F.plain_max_loop _, ih (j + 1) _ v _ (by omega) hlt (W.frame _ _ _ hst' fun b hbf o e => ?_) (by simp only [argBest, hb, if_true]; exact hP) (Heap.get?_update_self _ hS' rfl)
        fun v' h'' tk'' hP' hk'' => ?_⟩
      · exact (Heap.get?_update_other _ _ (fun h : S = b => hSf (by rw [h]; exact hbf))).trans e
      · exact hR v' h'' tk'' hP' fun b o hbw hbS e => hk'' b o hbw hbS ((Heap.get?_update_other _ _ (Ne.symm hbS)).trans (hk' b o hbw e))
    | false =>
      simp only [Bool.false_eq_true, if_false]
      refine wpAny_bind (wpAny_letGo ?_)
      rw [hname]
      refine wpAny_pure ⟨plainId_quiet F.plain_max_loop _, ih (j + 1) _ vb c (by omega) hlt hst' (by simp only [argBest, hb, Bool.false_eq_true, if_false]; exact hPb) hS' fun v' h'' tk'' hP' hk'' => ?_⟩
      exact hR v' h'' tk'' hP' fun b o hbw hbS e => hk'' b o hbw hbS (hk' b o hbw e)

theorem codeAny_max_loopK_first (W : Walks prog w A.in1 I fp wr n P St) (bt : Nat → Nat → Bool) (hcmp : CmpOf prog w A.in1 .Gt P bt) (S : Addr) (hSf : S ∉ fp) (hn : 0 < n) {s : Shared} {c : Nat} (hst : St 0 s.heap)
    (hS : s.heap.get? S = some { cls := .type "list", dict := none, data := .seq #[] c, slots := #[] })
    (hR : ∀ v h' tk, P (argBest bt (n - 1)) v → (∀ b o, b ∉ wr → b ≠ S → s.heap.get? b = some o → h'.get? b = some o) → R (.ok (.ret v)) { s with heap := h', toks := tk }) :
    codeAny (model prog w) A (.builtin "max.loop" ⟨[.ref I, .none, .ref S], [(Str.ofString "default", d)]⟩) R s := by
  have hSw : S ∉ wr := fun h => hSf (W.sub _ h)
  have hname : (toString "max" ++ toString ".loop" : String) = "max.loop" := by decide
  refine codeAny_builtin F.entry_max_loop ?_
  rw [Around.under_plainId F.plain_max_loop _]
  show wpAny _ A.in1 (seqItems? (.ref S) >>= _) _ _ s
  refine wpAny_bind (wpAny_seqItems hS rfl ?_)
  show wpAny _ A.in1 (tryCatch (pyNext (.ref I)) _ >>= _) _ _ s
  refine wpAny_bind (wpAny_tryCatch (W.item 0 s _ _ hn hst fun v h' tk hP hst' hk' => ?_))
  have hS' := hk' S _ hSw hS
  show wpAny _ A.in1 (updateSeq S (fun _ => #[v, v]) >>= _) _ _ _
  refine wpAny_bind ?_
  refine wpAny_updateSeq hS' rfl ?_
  rw [hname]
  refine wpAny_pure ⟨plainId_quiet F.plain_max_loop _, codeAny_max_loopK W bt hcmp S hSf _ 0 _ v _ rfl hn (W.frame _ _ _ hst' fun b hbf o e => ?_) hP (Heap.get?_update_self _ hS' rfl) fun v' h'' tk'' hP' hk'' => ?_⟩
  · exact (Heap.get?_update_other _ _ (fun h : S = b => hSf (by rw [h]; exact hbf))).trans e
  · exact hR v' h'' tk'' hP' fun b o hbw hbS e => hk'' b o hbw hbS ((Heap.get?_update_other _ _ (Ne.symm hbS)).trans (hk' b o hbw e))

theorem codeAny_max_loopK_none (W : Walks prog w A.in1 I fp wr 0 P St) (S : Addr) {s : Shared} {c : Nat} (hst : St 0 s.heap)
    (hS : s.heap.get? S = some { cls := .type "list", dict := none, data := .seq #[] c, slots := #[] })
    (hR : ∀ h' tk, (∀ b o, b ∉ wr → b ≠ S → s.heap.get? b = some o → h'.get? b = some o) → R (.ok (.ret d)) { s with heap := h', toks := tk }) :
    codeAny (model prog w) A (.builtin "max.loop" ⟨[.ref I, .none, .ref S], [(Str.ofString "default", d)]⟩) R s := by
  refine codeAny_builtin F.entry_max_loop ?_
  rw [Around.under_plainId F.plain_max_loop _]
  show wpAny _ A.in1 (seqItems? (.ref S) >>= _) _ _ s
  refine wpAny_bind (wpAny_seqItems hS rfl ?_)
  show wpAny _ A.in1 (tryCatch (pyNext (.ref I)) _ >>= _) _ _ s
  refine wpAny_bind (wpAny_tryCatch (W.done s _ _ hst fun h' tk hk' => ?_))
  show wpAny _ A.in1 (rule _ >>= _) _ _ _
  refine wpAny_bind (wpAny_rule ?_)
  exact wpAny_pure (hR h' tk fun b o hbw _ e => hk' b o hbw e)
end
section
open PySem.Spec PyProof.Rows
variable {prog : Program} {w : World} {A : Around} {E : Value → Shared → Prop} {s : Shared} {d : Value}
theorem args_maxK (a d : Value) : argsOk "max" ⟨[a], [(Str.ofString "default", d)]⟩ := by unfold argsOk; kernel_rfl
theorem call_function_treeK {id : String} {b : Builtin} {args : List Value} {kw : List (Str × Value)} {Q : Value → Shared → Prop} (hk : builtinKind id = none) (hp : plainId id = true)
    (hb : entryFor table id = some b) (ha : argsOk id ⟨args, kw⟩)
    (hc : wpAny (model prog w) A.in1 (b ⟨args, kw⟩) (fun fin s' => match fin with
      | .done f => (match (Except.ok f : Result) with | .ok (.ret v) => Q v s' | .ok _ => False | .error e => E e s')
      | .again c' => c'.quiet = true ∧ codeAny (model prog w) A c' (fun r s' => match r with | .ok (.ret v) => Q v s' | .ok _ => False | .error e => E e s') s') E s) :
    wpAny (model prog w) A (call (.builtin id) args kw) Q E s := by
  refine wpAny_call (codeAny_call_builtin hp hb ?_)
  simp only [checkBuiltinCall, hk]
  cases hsig : Manifest.signature? id with
  | none => exact wpAny_pure hc
  | some sig =>
    simp only [argsOk, hsig] at ha
    have h2 : Bind.checkArgs id sig ⟨args, kw⟩ = pure () := ha
    show wpAny _ A.in1 (Bind.checkArgs id sig ⟨args, kw⟩) _ _ s
    rw [h2]; exact wpAny_pure hc
theorem call_maxK_walk {x : Value} {Q : Value → Shared → Prop}
    (h : wpAny (model prog w) A.in1 (pyIter x) (fun it s₂ => ∃ I fp wr n P St bt, it = .ref I ∧ Walks prog w A.in1 I fp wr n P St ∧ St 0 s₂.heap ∧ (∀ b ∈ fp, b < s₂.heap.objs.size) ∧ CmpOf prog w A.in1 .Gt P bt ∧
      (0 < n → ∀ v h' tk, P (argBest bt (n - 1)) v → (∀ b o, b ∉ wr → s₂.heap.get? b = some o → h'.get? b = some o) → Q v { s₂ with heap := h', toks := tk }) ∧
      (n = 0 → ∀ h' tk, (∀ b o, b ∉ wr → s₂.heap.get? b = some o → h'.get? b = some o) → Q d { s₂ with heap := h', toks := tk })) E s) :
    wpAny (model prog w) A (call (.builtin "max") [x] [(Str.ofString "default", d)]) Q E s := by
  have hname : (toString "max" ++ toString ".loop" : String) = "max.loop" := by decide
  refine call_function_treeK F.kind_max F.plain_max F.entry_max (args_maxK _ _) ?_
  show wpAny _ A.in1 (Builtin.Builtins.bindParams "max" ["key", "default"] 0 ⟨[], [(Str.ofString "default", d)]⟩ >>= _) _ _ s
  refine wpAny_bind (wpAny_of_eq (show Builtin.Builtins.bindParams "max" ["key", "default"] 0 ⟨[], [(Str.ofString "default", d)]⟩ = pure [none, some d] from rfl) ?_)
  refine wpAny_bind (wpAny_pure ?_)
  refine wpAny_bind (wpAny_mono h (fun it s₂ h₂ => ?_) fun _ _ e => e)
  obtain ⟨I, fp, wr, n, P, St, bt, rfl, W, hst, hfp, hcmp, hQ, hQ0⟩ := h₂
  refine wpAny_bind (wpAny_newObj_type ?_)
  have hSf : s₂.heap.objs.size ∉ fp := fun hm => Nat.lt_irrefl _ (hfp _ hm)
  rw [hname]
  refine wpAny_pure ⟨plainId_quiet F.plain_max_loop _, ?_⟩
  rcases Nat.eq_zero_or_pos n with h0 | hn
  · subst h0
    refine codeAny_max_loopK_none W s₂.heap.objs.size (W.frame _ _ _ hst fun b _ o e => Heap.get?_push_of_some _ e) (Heap.get?_push_size _ rfl) fun h' tk hk => ?_
    exact hQ0 rfl h' tk fun b o hbw e => hk b o hbw (Nat.ne_of_lt (Heap.lt_size e)) (Heap.get?_push_of_some _ e)
  · refine codeAny_max_loopK_first W bt hcmp s₂.heap.objs.size hSf hn (W.frame _ _ _ hst fun b _ o e => Heap.get?_push_of_some _ e) (Heap.get?_push_size _ rfl) fun v h' tk hP hk => ?_
    exact hQ hn v h' tk hP fun b o hbw e => hk b o hbw (Nat.ne_of_lt (Heap.lt_size e)) (Heap.get?_push_of_some _ e)
theorem maxK_intList {l : Addr} {xs : Array (Int × Tok)} {Q : Value → Shared → Prop} (hh : A.handled = none) (hl : s.heap.IsList l (intItems xs))
    (h : 0 < xs.size → ∀ v h' tk, (intItems xs)[argBest (fun i j => decide (numAt xs i > numAt xs j)) (xs.size - 1)]? = some v → (∀ b o, s.heap.get? b = some o → h'.get? b = some o) → Q v { s with heap := h', toks := tk })
    (h0 : xs.size = 0 → ∀ h' tk, (∀ b o, s.heap.get? b = some o → h'.get? b = some o) → Q d { s with heap := h', toks := tk }) :
    wpAny (model prog w) A (call (.builtin "max") [.ref l] [(Str.ofString "default", d)]) Q E s := by
  refine call_maxK_walk (iter_intList hl fun s₂ e st hfp hlI => ?_)
  subst e
  have hz : (intItems xs).size = xs.size := by simp [intItems]
  refine ⟨_, _, _, _, _, _, _, rfl, Walks.list (A := A.in1) hh _ l hlI (intItems xs), st, hfp, CmpOf.ints_gt (numAt xs) (fun _ _ => intItems_at), fun hn v h' tk hP hk => ?_, fun hn h' tk hk => ?_⟩
  · exact h (by omega) v h' tk (by rw [← hz]; exact hP) (old_kept hk)
  · exact h0 (by omega) h' tk (old_kept hk)
theorem maxK_raw {l : Addr} {its : List Value} {ns : List Int} {Q : Value → Shared → Prop} (hh : A.handled = none) (hl : s.heap.IsList l its.toArray) (hi : IntsAre its ns)
    (h : 0 < ns.length → ∀ h' tk M t', (∀ b o, s.heap.get? b = some o → h'.get? b = some o) → M ∈ ns → (∀ a, a ∈ ns → a ≤ M) → Q (.int M t') { s with heap := h', toks := tk })
    (h0 : ns = [] → ∀ h' tk, (∀ b o, s.heap.get? b = some o → h'.get? b = some o) → Q d { s with heap := h', toks := tk }) :
    wpAny (model prog w) A (call (.builtin "max") [.ref l] [(Str.ofString "default", d)]) Q E s := by
  obtain ⟨xs, e⟩ := hi.allInts.items
  have hn : numsOf (intItems xs).toList = ns := by rw [← e]; exact hi.numsOf
  rw [nums_intItems] at hn
  subst hn
  rw [e] at hl
  refine maxK_intList hh hl (fun hsz v h' tk hv hk => ?_) fun hz h' tk hk => h0 ?_ h' tk hk
  · obtain ⟨t, rfl⟩ := intItems_at hv
    obtain ⟨h1, h2⟩ := argBest_gt (numAt xs) (xs.size - 1)
    refine h (by simpa using hsz) h' tk _ t hk ?_ fun a ha => ?_
    · rw [numAt_eq]; exact PySem.getD_mem (by rw [List.length_map, Array.length_toList]; omega)
    · obtain ⟨j, hj, rfl⟩ := mem_getD ha
      rw [List.length_map, Array.length_toList] at hj
      rw [← numAt_eq]; exact h2 j (by omega)
  · rw [List.map_eq_nil_iff]
    exact List.eq_nil_of_length_eq_zero (by rw [Array.length_toList]; exact hz)
end
section
open PySem.Spec PyProof.Rows
variable {X : Cx}
def rMaxK (K : PySem.W.Frag) (k : Int) : List V → Hp → VK → Prop := fun vs H Q => ∃ (a : Addr) (ns : List Int), vs = [V.ref a] ∧ SqL K H a (ns.map V.int) ∧ (0 < ns.length → ∀ m, m ∈ ns → (∀ y, y ∈ ns → y ≤ m) → Q (.int m) H) ∧ (ns = [] → Q (.int k) H)
theorem cr_maxK (hc : X.calm = true) (k : Int) : CallRK X (.builtin "max") [Str.ofString "default"] fun xs zs H Q => zs = [.int k] ∧ rMaxK X.K k xs H Q := by
  intro pins s σ H vs zs us ws Q I r rz h
  obtain ⟨rfl, a, ns, rfl, hs, q, q0⟩ := h
  obtain ⟨its, rv, hl, _⟩ := I.list hs
  rw [Vals.ref1 r]
  obtain ⟨w1, rfl, e1⟩ := vals1 rz
  refine maxK_raw (I.ok.hd hc) hl.isList rv.ints (fun hn h' tk m t' hk h1 h2 => ⟨.int _, H, I.kept hk, ⟨_, rfl⟩, q hn m h1 h2⟩) fun hn h' tk hk => ⟨.int k, H, I.kept hk, e1, q0 hn⟩
def maxKD (k : Int) (M : Store) (ds : List D) : Option Slot := match ds with
  | [x] => match seqOf M x with
    | some es => match intsOf es with
      | some (a :: l) => some (.val (.int (maxI a l)))
      | some [] => some (.val (.int k))
      | none => none
    | none => none
  | _ => none
theorem p_maxK {K : PySem.W.Frag} (k : Int) : PrimN K (rMaxK K k) (maxKD k) := by
  intro w vs ds s Q ok r h kk
  unfold maxKD at h
  split at h
  · split at h
    · rename_i x es hx
      split at h
      · rename_i a l hi
        cases h
        obtain ⟨v, rfl, rv⟩ := r.one
        obtain ⟨p, us, rfl, hp, rl⟩ := seq_at ok rv hx
        have e := ints_at rl hi
        subst e
        refine ⟨p, a :: l, rfl, hp, fun _ m h1 h2 => ?_, fun h => by cases h⟩
        rw [← maxI_max l a m h1 h2]
        exact ans ok kk fun A G => .int _
      · rename_i hi
        cases h
        obtain ⟨v, rfl, rv⟩ := r.one
        obtain ⟨p, us, rfl, hp, rl⟩ := seq_at ok rv hx
        have e := ints_at rl hi
        subst e
        exact ⟨p, [], rfl, hp, fun h => absurd h (Nat.lt_irrefl 0), fun _ => ans ok kk fun A G => .int _⟩
      · cases h
    · cases h
  · cases h
end
section
variable {K : PySem.W.Frag} {E : Wish} {X : Cx} {e : Expr}
theorem x_maxK {k : Int} {fs : FL} (h : PE X e (tCKw (fun xs zs H Q => zs = [.int k] ∧ rMaxK K k xs H Q) (tAR K E fs) (tCons (tC (.int k)) tNil))) : PE X e (tE K E (dPr (maxKD k) fs)) := PE.wk h fun σ H Q ⟨ρ, w, e1, ok, sr, a⟩ =>
  ⟨ρ, w, e1, ok, sr, a.bind.imp fun x w1 s1 a1 vx rx => by
    obtain ⟨s, es, kk⟩ := fin_of s1 a1
    exact ⟨rfl, p_maxK k w1 vx x s Q s1.ok rx es kk⟩⟩
end
end TP
/-! TPge: zip of a tuple and a list (lines of HandS.Zip0/Zip turned to it). -/
namespace TP
open RZ
section
open PySem
open PySem.Sem (wp)
section
variable {prog : Program} {w : World} {A : Around} {E : Value → Shared → Prop} {s : Shared}
theorem zipM_next_item {z TI TO i1 i2 l1 l2 : Addr} {k1 k2 : Nat} {xs ys : Array Value} {x y a b : Value} {Q : Value → Shared → Prop} (D : ZipApart z TI TO i1 i2 l1 l2)
    (hz : IsZip s.heap z TI TO .none) (hTI : IsPair s.heap TI (.ref i1) (.ref i2)) (hTO : IsPair s.heap TO a b)
    (h1 : s.heap.IsTupleIter i1 l1 k1) (h2 : s.heap.IsListIter i2 l2 k2) (hl1 : s.heap.IsTuple l1 xs) (hl2 : s.heap.IsList l2 ys) (hx : xs[k1]? = some x) (hy : ys[k2]? = some y)
    (hQ : ∀ h', IsZip h' z TI TO (rawInt s.heap.objs.size) → IsPair h' TO x y → h'.IsTupleIter i1 l1 (k1 + 1) → h'.IsListIter i2 l2 (k2 + 1) → IsPair h' s.heap.objs.size x y → h'.objs.size = s.heap.objs.size + 1 →
      (∀ c o, c ≠ z → c ≠ TO → c ≠ i1 → c ≠ i2 → s.heap.get? c = some o → h'.get? c = some o) → Q (.ref s.heap.objs.size) { s with heap := h' }) :
    wpAny (model prog w) A (Builtin.«zip.__next__» ⟨[.ref z], []⟩) (fun fin s' => ∃ v, fin = .done (.ret v) ∧ Q v s') E s := by
  show wpAny _ _ (field (.ref z) 2 >>= _) _ _ _
  refine wpAny_bind (wpAny_field hz rfl (x := .bool false) rfl ?_)
  show wpAny _ _ (field (.ref z) 3 >>= _) _ _ _
  refine wpAny_bind (wpAny_field hz rfl (x := .ref TI) rfl ?_)
  refine wpAny_bind (wpAny_seqItems hTI rfl ?_)
  show wpAny _ _ (Builtin.SmallTypes.ownedTupleIsFree (.ref z) >>= _) _ _ _
  refine wpAny_bind ?_
  unfold Builtin.SmallTypes.ownedTupleIsFree
  refine wpAny_bind (wpAny_field hz rfl (x := .none) rfl (wpAny_pure ?_))
  simp only [if_true]
  refine wpAny_bind (wpAny_rule ?_)
  refine wpAny_bind (wpAny_field hz rfl (x := .ref TO) rfl ?_)
  refine wpAny_bind (wpAny_setField_rec hz (by simp) fun h₁ hz₁ hs₁ => ?_)
  replace hz₁ : IsZip h₁ z TI TO .ellipsis := hz₁
  refine wpAny_bind ?_
  simp only [List.zipIdx_cons, List.zipIdx_nil, List.forIn_cons, List.forIn_nil]

  refine wpAny_bind (wpAny_bind (wpAny_onRaise ?_))
  show wpAny _ _ (Builtin.SmallTypes.nextOf (.ref i1) >>= _) _ _ _
  refine wpAny_bind (nextOf_tuple_item (h1.extBut hs₁.extBut D.i1z) (hl1.extBut hs₁.extBut D.l1z) hx fun h₂ h1₂ hs₂ => wpAny_pure ?_)
  have hTO₂ : IsPair h₂ TO a b := hs₂.extBut _ _ D.TOi1 (hs₁.extBut _ _ D.TOz hTO)
  refine wpAny_bind (wpAny_seqItems hTO₂ rfl ?_)
  refine wpAny_bind (wpAny_updateSeq_pair hTO₂ fun h₃ hTO₃ hs₃ => ?_)
  replace hTO₃ : IsPair h₃ TO x b := hTO₃
  refine wpAny_bind (wpAny_letGo (wpAny_pure ?_))

  refine wpAny_bind (wpAny_bind (wpAny_onRaise ?_))
  show wpAny _ _ (Builtin.SmallTypes.nextOf (.ref i2) >>= _) _ _ _
  refine wpAny_bind (wpAny_nextOf_list_item (((h2.extBut hs₁.extBut D.i2z).extBut hs₂.extBut D.i12.symm).extBut hs₃.extBut D.TOi2.symm)
    (((hl2.extBut hs₁.extBut D.l2z).extBut hs₂.extBut D.l2i1).extBut hs₃.extBut D.l2TO) hy fun h₄ h2₄ hs₄ => wpAny_pure ?_)
  have hTO₄ : IsPair h₄ TO x b := hs₄.extBut _ _ D.TOi2 hTO₃
  refine wpAny_bind (wpAny_seqItems hTO₄ rfl ?_)
  refine wpAny_bind (wpAny_updateSeq_pair hTO₄ fun h₅ hTO₅ hs₅ => ?_)
  replace hTO₅ : IsPair h₅ TO x y := hTO₅
  refine wpAny_bind (wpAny_letGo (wpAny_pure (wpAny_pure ?_)))

  refine wpAny_bind (wpAny_seqItems hTO₅ rfl ?_)
  refine wpAny_bind (wpAny_newTuple ?_)
  have hsz : h₅.objs.size = s.heap.objs.size := by rw [hs₅.1, hs₄.1, hs₃.1, hs₂.1, hs₁.1]
  have hz₅ : IsZip h₅ z TI TO .ellipsis := hs₅.extBut _ _ D.TOz.symm (hs₄.extBut _ _ D.i2z.symm (hs₃.extBut _ _ D.TOz.symm (hs₂.extBut _ _ D.i1z.symm hz₁)))
  have hk₅ : ∀ c o, c ≠ z → c ≠ TO → c ≠ i1 → c ≠ i2 → s.heap.get? c = some o → h₅.get? c = some o := fun c o c1 c2 c3 c4 e =>
    hs₅.extBut _ _ c2 (hs₄.extBut _ _ c4 (hs₃.extBut _ _ c2 (hs₂.extBut _ _ c3 (hs₁.extBut _ _ c1 e))))
  have h1₅ : h₅.IsTupleIter i1 l1 (k1 + 1) := ((h1₂.extBut hs₃.extBut D.TOi1.symm).extBut hs₄.extBut D.i12).extBut hs₅.extBut D.TOi1.symm
  have h2₅ : h₅.IsListIter i2 l2 (k2 + 1) := h2₄.extBut hs₅.extBut D.TOi2.symm
  have hzlt : z < h₅.objs.size := Heap.lt_size hz₅
  have hTOlt : TO < h₅.objs.size := Heap.lt_size hTO₅
  have hi1lt : i1 < h₅.objs.size := by obtain ⟨_, e, _⟩ := h1₅; exact Heap.lt_size e
  have hi2lt : i2 < h₅.objs.size := by obtain ⟨_, e, _⟩ := h2₅; exact Heap.lt_size e
  show wpAny _ _ (Builtin.SmallTypes.ownedTupleHandOut (.ref z) (.ref h₅.objs.size) >>= _) _ _ _
  refine wpAny_bind ?_
  unfold Builtin.SmallTypes.ownedTupleHandOut
  have hz₆ : IsZip (h₅.push { cls := .type "tuple", data := .seq #[x, y] }) z TI TO .ellipsis := Heap.get?_push_of_some _ hz₅
  refine wpAny_bind (wpAny_setField_rec hz₆ (by simp) fun h₇ hz₇ hs₇ => ?_)
  replace hz₇ : IsZip h₇ z TI TO (rawInt h₅.objs.size) := hz₇
  refine wpAny_setField_rec hz₇ (by simp) fun h₈ hz₈ hs₈ => ?_
  replace hz₈ : IsZip h₈ z TI TO (rawInt h₅.objs.size) := hz₈
  have up : ∀ c o, c ≠ z → h₅.get? c = some o → h₈.get? c = some o := fun c o c1 e => hs₈.extBut _ _ c1 (hs₇.extBut _ _ c1 (Heap.get?_push_of_some _ e))
  have hT₈ : IsPair h₈ h₅.objs.size x y := hs₈.extBut _ _ (Nat.ne_of_gt hzlt) (hs₇.extBut _ _ (Nat.ne_of_gt hzlt) (Heap.get?_push_size _ rfl))
  have hz8 : h₈.objs.size = h₅.objs.size + 1 := by rw [hs₈.1, hs₇.1, Heap.size_push]
  rw [hsz] at hz₈ hT₈ hz8
  refine wpAny_pure ⟨_, rfl, ?_⟩
  show Q (.ref h₅.objs.size) _
  rw [hsz]
  exact hQ h₈ hz₈ (up _ _ D.TOz hTO₅) (h1₅.at fun o e => up _ o D.i1z e) (h2₅.at fun o e => up _ o D.i2z e) hT₈ hz8 fun c o c1 c2 c3 c4 e => up c o c1 (hk₅ c o c1 c2 c3 c4 e)

theorem zipM_next_end {z TI TO i1 i2 l1 l2 : Addr} {k1 k2 : Nat} {xs ys : Array Value} {a b : Value} {Q : Fin → Shared → Prop} (hh : A.handled = none) (D : ZipApart z TI TO i1 i2 l1 l2)
    (hz : IsZip s.heap z TI TO .none) (hTI : IsPair s.heap TI (.ref i1) (.ref i2)) (hTO : IsPair s.heap TO a b)
    (h1 : s.heap.IsTupleIter i1 l1 k1) (h2 : s.heap.IsListIter i2 l2 k2) (hl1 : s.heap.IsTuple l1 xs) (hl2 : s.heap.IsList l2 ys) (hend : xs[k1]? = none ∨ ys[k2]? = none)
    (hE : ∀ h' e, (∀ c o, c ≠ z → c ≠ TO → c ≠ i1 → c ≠ i2 → s.heap.get? c = some o → h'.get? c = some o) → (∃ o, h'.get? e = some o ∧ o.cls = .type "StopIteration") → E (.ref e) { s with heap := h' }) :
    wpAny (model prog w) A (Builtin.«zip.__next__» ⟨[.ref z], []⟩) Q E s := by
  show wpAny _ _ (field (.ref z) 2 >>= _) _ _ _
  refine wpAny_bind (wpAny_field hz rfl (x := .bool false) rfl ?_)
  show wpAny _ _ (field (.ref z) 3 >>= _) _ _ _
  refine wpAny_bind (wpAny_field hz rfl (x := .ref TI) rfl ?_)
  refine wpAny_bind (wpAny_seqItems hTI rfl ?_)
  show wpAny _ _ (Builtin.SmallTypes.ownedTupleIsFree (.ref z) >>= _) _ _ _
  refine wpAny_bind ?_
  unfold Builtin.SmallTypes.ownedTupleIsFree
  refine wpAny_bind (wpAny_field hz rfl (x := .none) rfl (wpAny_pure ?_))
  simp only [if_true]
  refine wpAny_bind (wpAny_rule ?_)
  refine wpAny_bind (wpAny_field hz rfl (x := .ref TO) rfl ?_)
  refine wpAny_bind (wpAny_setField_rec hz (by simp) fun h₁ hz₁ hs₁ => ?_)
  replace hz₁ : IsZip h₁ z TI TO .ellipsis := hz₁
  refine wpAny_bind ?_
  simp only [List.zipIdx_cons, List.zipIdx_nil, List.forIn_cons, List.forIn_nil]
  refine wpAny_bind (wpAny_bind (wpAny_onRaise ?_))
  show wpAny _ _ (Builtin.SmallTypes.nextOf (.ref i1) >>= _) _ _ _
  cases hx : xs[k1]? with
  | none =>
    refine wpAny_bind (nextOf_tuple_end hh (h1.extBut hs₁.extBut D.i1z) (hl1.extBut hs₁.extBut D.l1z) hx fun h₂ e hs₂ he => ?_)
    obtain ⟨oe, hoe, hce⟩ := he
    have hz₂ : IsZip h₂ z TI TO .ellipsis := hs₂ _ _ D.i1z.symm hz₁
    have hez : e ≠ z := fun x => by subst x; rw [hz₂] at hoe; cases hoe; simp at hce
    refine wpAny_setField_rec hz₂ (by simp) fun h₃ _ hs₃ => hE h₃ e (fun c o c1 _ c3 _ x => hs₃.extBut _ _ c1 (hs₂ _ _ c3 (hs₁.extBut _ _ c1 x))) ⟨oe, hs₃.extBut _ _ hez hoe, hce⟩
  | some x =>
    have hy : ys[k2]? = none := by rcases hend with h | h; rw [hx] at h; cases h; exact h
    refine wpAny_bind (nextOf_tuple_item (h1.extBut hs₁.extBut D.i1z) (hl1.extBut hs₁.extBut D.l1z) hx fun h₂ h1₂ hs₂ => wpAny_pure ?_)
    have hTO₂ : IsPair h₂ TO a b := hs₂.extBut _ _ D.TOi1 (hs₁.extBut _ _ D.TOz hTO)
    refine wpAny_bind (wpAny_seqItems hTO₂ rfl ?_)
    refine wpAny_bind (wpAny_updateSeq_pair hTO₂ fun h₃ hTO₃ hs₃ => ?_)
    refine wpAny_bind (wpAny_letGo (wpAny_pure ?_))
    refine wpAny_bind (wpAny_bind (wpAny_onRaise ?_))
    show wpAny _ _ (Builtin.SmallTypes.nextOf (.ref i2) >>= _) _ _ _
    refine wpAny_bind (wpAny_nextOf_list_end hh (((h2.extBut hs₁.extBut D.i2z).extBut hs₂.extBut D.i12.symm).extBut hs₃.extBut D.TOi2.symm)
      (((hl2.extBut hs₁.extBut D.l2z).extBut hs₂.extBut D.l2i1).extBut hs₃.extBut D.l2TO) hy fun h₄ e hs₄ he => ?_)
    obtain ⟨oe, hoe, hce⟩ := he
    have hz₄ : IsZip h₄ z TI TO .ellipsis := hs₄ _ _ D.i2z.symm (hs₃.extBut _ _ D.TOz.symm (hs₂.extBut _ _ D.i1z.symm hz₁))
    have hez : e ≠ z := fun x => by subst x; rw [hz₄] at hoe; cases hoe; simp at hce
    refine wpAny_setField_rec hz₄ (by simp) fun h₅ _ hs₅ => hE h₅ e (fun c o c1 c2 c3 c4 x => hs₅.extBut _ _ c1 (hs₄ _ _ c4 (hs₃.extBut _ _ c2 (hs₂.extBut _ _ c3 (hs₁.extBut _ _ c1 x))))) ⟨oe, hs₅.extBut _ _ hez hoe, hce⟩

theorem pyNext_zipM_item {z TI TO i1 i2 l1 l2 : Addr} {k1 k2 : Nat} {xs ys : Array Value} {x y a b : Value} {Q : Option Value → Shared → Prop} (D : ZipApart z TI TO i1 i2 l1 l2)
    (hz : IsZip s.heap z TI TO .none) (hTI : IsPair s.heap TI (.ref i1) (.ref i2)) (hTO : IsPair s.heap TO a b)
    (h1 : s.heap.IsTupleIter i1 l1 k1) (h2 : s.heap.IsListIter i2 l2 k2) (hl1 : s.heap.IsTuple l1 xs) (hl2 : s.heap.IsList l2 ys) (hx : xs[k1]? = some x) (hy : ys[k2]? = some y)
    (hQ : ∀ h', IsZip h' z TI TO (rawInt s.heap.objs.size) → IsPair h' TO x y → h'.IsTupleIter i1 l1 (k1 + 1) → h'.IsListIter i2 l2 (k2 + 1) → IsPair h' s.heap.objs.size x y → h'.objs.size = s.heap.objs.size + 1 →
      (∀ c o, c ≠ z → c ≠ TO → c ≠ i1 → c ≠ i2 → s.heap.get? c = some o → h'.get? c = some o) → Q (some (.ref s.heap.objs.size)) { s with heap := h' }) :
    wpAny (model prog w) A (pyNext (.ref z)) Q E s := by
  have hT : s.TypeIs (.ref z) "zip" := ⟨_, hz, rfl⟩
  unfold pyNext
  exact wpAny_bind (wpAny_attempt (wpAny_callSpecial?_slot (name := Str.ofString "__next__") hT F.slot_zip_next
    (wpAny_call_entry F.slot_zip_next hT F.entry_zip_next
      (zipM_next_item D hz hTI hTO h1 h2 hl1 hl2 hx hy fun h' a1 a2 a3 a4 a5 a6 a7 => wpAny_pure (hQ h' a1 a2 a3 a4 a5 a6 a7)) (F.args_zip_next_1 _))))

theorem pyNext_zipM_end {z TI TO i1 i2 l1 l2 : Addr} {k1 k2 : Nat} {xs ys : Array Value} {a b : Value} {Q : Option Value → Shared → Prop} (hh : A.handled = none) (D : ZipApart z TI TO i1 i2 l1 l2)
    (hz : IsZip s.heap z TI TO .none) (hTI : IsPair s.heap TI (.ref i1) (.ref i2)) (hTO : IsPair s.heap TO a b)
    (h1 : s.heap.IsTupleIter i1 l1 k1) (h2 : s.heap.IsListIter i2 l2 k2) (hl1 : s.heap.IsTuple l1 xs) (hl2 : s.heap.IsList l2 ys) (hend : xs[k1]? = none ∨ ys[k2]? = none)
    (hQ : ∀ h', (∀ c o, c ≠ z → c ≠ TO → c ≠ i1 → c ≠ i2 → s.heap.get? c = some o → h'.get? c = some o) → Q none { s with heap := h' }) : wpAny (model prog w) A (pyNext (.ref z)) Q E s := by
  have hT : s.TypeIs (.ref z) "zip" := ⟨_, hz, rfl⟩
  unfold pyNext
  refine wpAny_bind (wpAny_attempt (wpAny_callSpecial?_slot (name := Str.ofString "__next__") hT F.slot_zip_next
    (wpAny_call_entry F.slot_zip_next hT F.entry_zip_next (zipM_next_end hh D hz hTI hTO h1 h2 hl1 hl2 hend fun h' e hk he => ?_) (F.args_zip_next_1 _))))
  obtain ⟨o, ho, hc⟩ := he
  refine wpAny_bind (wpAny_isInstance (T := "StopIteration") (b := true) ⟨o, ho, hc⟩ isSubtype_stop ?_)
  exact wpAny_pure (hQ _ hk)
end

abbrev zipMH1 (h : Heap) (l1 : Addr) : Heap := h.push { cls := .type "tuple_iterator", data := .fields #[.ref l1, .int 0 0] }
abbrev zipMH2 (h : Heap) (l1 l2 : Addr) : Heap := (zipMH1 h l1).push { cls := .type "list_iterator", data := .fields #[.ref l2, .int 0 0] }
abbrev zipMH3 (h : Heap) (l1 l2 : Addr) : Heap := (zipMH2 h l1 l2).push { cls := .type "tuple", data := .seq #[.ref h.objs.size, .ref (zipMH1 h l1).objs.size] }
abbrev zipMH4 (h : Heap) (l1 l2 : Addr) : Heap := (zipMH3 h l1 l2).push { cls := .type "tuple", data := .seq #[.none, .none] }
abbrev zipMH5 (h : Heap) (l1 l2 : Addr) : Heap := (zipMH4 h l1 l2).push { cls := .type "zip", data := .fields #[.none, .bool false, .bool false, .ref (zipMH2 h l1 l2).objs.size, .ref (zipMH3 h l1 l2).objs.size] }

theorem meets_zipM_new (l1 l2 : Addr) (xs ys : Array Value) :
    Meets (Builtin.«zip.__new__» ⟨[.type "zip", .ref l1, .ref l2], []⟩) (fun _ R s => s.heap.IsTuple l1 xs ∧ s.heap.IsList l2 ys ∧
      R (.ok (.ret (.ref (zipMH4 s.heap l1 l2).objs.size))) { s with heap := zipMH5 s.heap l1 l2 }) :=
  .of_wp fun prog w A R s h => by
    obtain ⟨hp, g, d, tk, os⟩ := s; obtain ⟨hl1, hl2, h⟩ := h
    have hsub := sub_zip
    have hL1 : Heap.IsTuple (Shared.heap ⟨hp, g, d, tk, os⟩) l1 xs := hl1
    have hL2 : Heap.IsList (Shared.heap ⟨hp.push { cls := .type "tuple_iterator", data := .fields #[.ref l1, .int 0 0] }, g, d, tk, os⟩) l2 ys := Heap.IsList.push hl2 _
    wp_walk using wpAny_pyIter_tuple hL1, wpAny_pyIter_list hL2
    exact ⟨_, rfl, h⟩

section
variable {prog : Program} {w : World} {A : Around} {E : Value → Shared → Prop} {s : Shared}

theorem call_zipM {l1 l2 : Addr} {xs ys : Array Value} {Q : Value → Shared → Prop} (hl1 : s.heap.IsTuple l1 xs) (hl2 : s.heap.IsList l2 ys)
    (h : ∀ h', IsZip h' (s.heap.objs.size + 4) (s.heap.objs.size + 2) (s.heap.objs.size + 3) .none → IsPair h' (s.heap.objs.size + 2) (.ref s.heap.objs.size) (.ref (s.heap.objs.size + 1)) →
      IsPair h' (s.heap.objs.size + 3) .none .none → h'.IsTupleIter s.heap.objs.size l1 0 → h'.IsListIter (s.heap.objs.size + 1) l2 0 → h'.objs.size = s.heap.objs.size + 5 →
      (∀ c o, s.heap.get? c = some o → h'.get? c = some o) → Q (.ref (s.heap.objs.size + 4)) { s with heap := h' }) :
    wpAny (model prog w) A (call (.type "zip") [.ref l1, .ref l2]) Q E s := by
  refine callType_new F.called_zip (by decide) (F.typeCall_zip_2 _ _) (F.newCall_zip_2 _ _) (fun obj => F.args_object_init_3 obj _ _) F.entry_zip_new
    (meets_zipM_new l1 l2 xs ys) ⟨hl1, hl2, ?_⟩
  have z1 : (zipMH1 s.heap l1).objs.size = s.heap.objs.size + 1 := Heap.size_push ..
  have z2 : (zipMH2 s.heap l1 l2).objs.size = s.heap.objs.size + 2 := by rw [Heap.size_push, z1]
  have z3 : (zipMH3 s.heap l1 l2).objs.size = s.heap.objs.size + 3 := by rw [Heap.size_push, z2]
  have z4 : (zipMH4 s.heap l1 l2).objs.size = s.heap.objs.size + 4 := by rw [Heap.size_push, z3]
  have z5 : (zipMH5 s.heap l1 l2).objs.size = s.heap.objs.size + 5 := by rw [Heap.size_push, z4]
  have g5 : (zipMH5 s.heap l1 l2).get? (zipMH4 s.heap l1 l2).objs.size = some _ := Heap.get?_push_size _ rfl
  have g4 : (zipMH5 s.heap l1 l2).get? (zipMH3 s.heap l1 l2).objs.size = some _ := Heap.get?_push_of_some _ (Heap.get?_push_size _ rfl)
  have g3 : (zipMH5 s.heap l1 l2).get? (zipMH2 s.heap l1 l2).objs.size = some _ := Heap.get?_push_of_some _ (Heap.get?_push_of_some _ (Heap.get?_push_size _ rfl))
  have g2 : (zipMH5 s.heap l1 l2).get? (zipMH1 s.heap l1).objs.size = some _ := Heap.get?_push_of_some _ (Heap.get?_push_of_some _ (Heap.get?_push_of_some _ (Heap.get?_push_size _ rfl)))
  have g1 : (zipMH5 s.heap l1 l2).get? s.heap.objs.size = some _ := Heap.get?_push_of_some _ (Heap.get?_push_of_some _ (Heap.get?_push_of_some _ (Heap.get?_push_of_some _ (Heap.get?_push_size _ rfl))))
  show _ ∧ _
  rw [z2, z3, z4] at g5
  rw [z1, z2] at g3
  rw [z3] at g4
  rw [z1] at g2
  rw [z4]
  exact ⟨⟨_, g5, rfl⟩, h _ g5 g3 g4 ⟨_, g1, rfl, rfl⟩ ⟨_, g2, rfl, rfl⟩ z5 fun c o x =>
    Heap.get?_push_of_some _ (Heap.get?_push_of_some _ (Heap.get?_push_of_some _ (Heap.get?_push_of_some _ (Heap.get?_push_of_some _ x))))⟩
end
end
section
open PySem PySem.Spec PyProof.Rows L2
/-- the tuples at a and b as they stand at each turn, the items in new pairs -/
def ItzM (K : PySem.W.Frag) (a b : Addr) : It :=
  ⟨fun i H => ∃ (xs ys : List V) (x y : V), SqT K H a xs ∧ SqL K H b ys ∧ xs[i]? = some x ∧ ys[i]? = some y,
    fun i H v H' => ∃ T x y, v = .ref T ∧ H T = none ∧ H' = upd H T (.tup [x, y]) ∧ (∀ xs, SqT K H a xs → xs[i]? = some x) ∧ ∀ ys, SqL K H b ys → ys[i]? = some y,
    fun i H => ∃ xs ys : List V, SqT K H a xs ∧ SqL K H b ys ∧ (xs.length ≤ i ∨ ys.length ≤ i)⟩
theorem turn_zipM {P : Program} {w : World} {K : PySem.W.Frag} {elts : List Expr} {kk : Nat} {tpos : Pos} {a b z TI TO i1 i2 : Addr} (D : ZipApart z TI TO i1 i2 a b) :
    Turn P w K (.Tuple elts kk tpos) (ItzM K a b) [z, TI, TO, i1, i2] z (fun i h => IsZip h z TI TO .none ∧ IsPair h TI (.ref i1) (.ref i2) ∧ (∃ x y, IsPair h TO x y) ∧ h.IsTupleIter i1 a i ∧ h.IsListIter i2 b i) where
  mem := by simp
  obj := fun i h st c hc => by
    obtain ⟨hz, hTI, ⟨x, y, hTO⟩, ⟨o1, e1, _, d1⟩, ⟨o2, e2, _, d2⟩⟩ := st
    have e' : c = z ∨ c = TI ∨ c = TO ∨ c = i1 ∨ c = i2 := by simpa using hc
    rcases e' with q | q | q | q | q
    · rw [q]; exact ⟨_, hz, fun v q => nomatch q⟩
    · rw [q]; exact ⟨_, hTI, fun v q => nomatch q⟩
    · rw [q]; exact ⟨_, hTO, fun v q => nomatch q⟩
    · rw [q]; exact ⟨o1, e1, fun v q => by rw [d1] at q; cases q⟩
    · rw [q]; exact ⟨o2, e2, fun v q => by rw [d2] at q; cases q⟩
  keep := fun i h h' st k => by
    obtain ⟨hz, hTI, ⟨x, y, hTO⟩, h1, h2⟩ := st
    exact ⟨k z (by simp) _ hz, k TI (by simp) _ hTI, ⟨x, y, k TO (by simp) _ hTO⟩, h1.at fun o q => k i1 (by simp) o q, h2.at fun o q => k i2 (by simp) o q⟩
  item := by
    intro X hP hw hK hc i pins s σ H E I hf st hg
    subst hP hw hK
    obtain ⟨hz, hTI, ⟨x0, y0, hTO⟩, h1, h2⟩ := st
    obtain ⟨xs, ys, x, y, hqx, hqy, hx, hy⟩ := hg
    obtain ⟨its, rv, p, _⟩ := I.tuple hqx
    obtain ⟨its2, rv2, p2, _⟩ := I.list hqy
    obtain ⟨u, hu, ru⟩ := rv.get hx
    obtain ⟨u2, hu2, ru2⟩ := rv2.get hy
    have hzl : z < s.heap.objs.size := Heap.lt_size hz
    refine pyNext_zipM_item D hz hTI hTO h1 h2 p p2.isList (x := u) (y := u2) (by simpa using hu) (by simpa using hu2) fun h' z' TO' h1' h2' hT hsz hk => ?_
    refine ⟨_, rfl, wpAny_letOwnedTupleGo_zip (s := { s with heap := h' }) z' fun h'' z'' sb => ?_⟩
    have hT2 : h''.get? s.heap.objs.size = some { cls := .type "tuple", data := .seq #[u, u2] } := (sb.2 _ (Nat.ne_of_gt hzl)).trans hT
    have new : ObjOk X.prog X.w (upd H s.heap.objs.size (.tup [x, y])) h'' s.heap.objs.size (.tup [x, y]) :=
      ⟨by show 2 ≤ sizeLine; decide, [u, u2], .cons ru (.cons ru2 .nil), ⟨_, hT2, rfl, _, rfl⟩⟩
    have I1 : Inv X pins σ (upd H s.heap.objs.size (.tup [x, y])) { s with heap := h'' } :=
      I.turnedNew (t' := s.toks) (ch := [z, TI, TO, i1, i2]) (fun c o hb q => (sb.2 c (fun q' => hb (by simp [q']))).trans (hk c o (fun q' => hb (by simp [q'])) (fun q' => hb (by simp [q'])) (fun q' => hb (by simp [q'])) (fun q' => hb (by simp [q'])) q)) hf (Nat.le_refl _) new
    refine ⟨.ref s.heap.objs.size, _, I1, rfl, ⟨_, x, y, rfl, I.hok.fresh (Nat.le_refl _), rfl, fun l hl => by rw [I.tuple_inj hl hqx]; exact hx, fun l hl => by rw [I.list_inj hl hqy]; exact hy⟩, ⟨z'', ?_, ⟨u, u2, ?_⟩, ?_, ?_⟩, fun c hcm => ?_⟩
    · exact (sb.2 _ D.TIz).trans (hk _ _ D.TIz D.TITO D.TIi1 D.TIi2 hTI)
    · exact (sb.2 _ D.TOz).trans TO'
    · exact h1'.at fun o q => (sb.2 _ D.i1z).trans q
    · exact h2'.at fun o q => (sb.2 _ D.i2z).trans q
    · have hlt : c < s.heap.objs.size := by
        have e' : c = z ∨ c = TI ∨ c = TO ∨ c = i1 ∨ c = i2 := by simpa using hcm
        rcases e' with q | q | q | q | q
        · rw [q]; exact hzl
        · rw [q]; exact Heap.lt_size hTI
        · rw [q]; exact Heap.lt_size hTO
        · rw [q]; obtain ⟨_, e1, _⟩ := h1; exact Heap.lt_size e1
        · rw [q]; obtain ⟨_, e2, _⟩ := h2; exact Heap.lt_size e2
      rw [upd_ne (Nat.ne_of_lt hlt)]
      exact (hf c hcm).1
  done := by
    intro X hP hw hK hc i pins s σ H E I hf st hg
    subst hP hw hK
    obtain ⟨hz, hTI, ⟨x0, y0, hTO⟩, h1, h2⟩ := st
    obtain ⟨xs, ys, hqx, hqy, hend⟩ := hg
    obtain ⟨its, rv, p, _⟩ := I.tuple hqx
    obtain ⟨its2, rv2, p2, _⟩ := I.list hqy
    have l1 := rv.length
    have l2 := rv2.length
    have he : its.toArray[i]? = none ∨ its2.toArray[i]? = none := by
      rcases hend with q | q
      · exact .inl (by simp; omega)
      · exact .inr (by simp; omega)
    exact pyNext_zipM_end (I.ok.hd hc) D hz hTI hTO h1 h2 p p2.isList he fun h' hk => ⟨rfl, I.turnedL (t' := s.toks) (ch := [z, TI, TO, i1, i2]) (fun c o hb q =>
      hk c o (fun q' => hb (by simp [q'])) (fun q' => hb (by simp [q'])) (fun q' => hb (by simp [q'])) (fun q' => hb (by simp [q'])) q) hf⟩
  self := fun A i s Q E st h => wpAny_pyIter_zip st.1 h

def iZipM (K : PySem.W.Frag) (ta : TA) : TI := fun σ H R => ta σ H fun vs H1 => ∃ a b xs ys, vs = [.ref a, .ref b] ∧ SqT K H1 a xs ∧ SqL K H1 b ys ∧ R (ItzM K a b) H1
theorem pi_zipM {X : Cx} {e e2 : Expr} {ta : TA} {p pos tpos : Pos} {elts : List Expr} {kk : Nat} (hg : Gl X "zip") (hm : X.mg "zip" = none) (ha : PA X [e, e2] ta)
    (hs : starEach [e, e2] X.env = (false, eval e X.env) :: starEach [e2] X.env := by rfl) (hpl : (backTo pos (starEach [e2] X.env)).any (·.1) = false := by rfl) :
    PI X (.Tuple elts kk tpos) (.Call (.Name "zip" p) [e, e2] [] pos) (iZipM X.K ta) := by
  refine ⟨fun pins s σ H R I h => ?_⟩
  refine Call_ (ld_blt I hg hm PyProof.Rows.boot_zip (PyProof.Rows.callWith_type1 (thn (ha.run pos pins s σ H _ I h) fun us s1 ⟨vs, H1, I1, r1, q1⟩ => ?_) hs hpl))
  obtain ⟨a, b, xs, ys, ex, hqx, hqy, q⟩ := q1
  subst ex
  cases r1 with
  | cons r rr =>
    cases rr with
    | cons r' rr =>
      cases rr
      cases r
      cases r'
      have fresh5 : ∀ c, c ∈ [s1.heap.objs.size + 4, s1.heap.objs.size + 2, s1.heap.objs.size + 3, s1.heap.objs.size, s1.heap.objs.size + 1] → FpOk X pins H1 c := fun c hcm => by
        have e' : c = s1.heap.objs.size + 4 ∨ c = s1.heap.objs.size + 2 ∨ c = s1.heap.objs.size + 3 ∨ c = s1.heap.objs.size ∨ c = s1.heap.objs.size + 1 := by simpa using hcm
        have hle : s1.heap.objs.size ≤ c := by
          rcases e' with z | z | z | z | z
          · rw [z]; exact Nat.le_add_right _ _
          · rw [z]; exact Nat.le_add_right _ _
          · rw [z]; exact Nat.le_add_right _ _
          · rw [z]; exact Nat.le_refl _
          · rw [z]; exact Nat.le_add_right _ _
        exact I1.fpOk hle (I1.hok.fresh hle)
      obtain ⟨its, rv, p1, _⟩ := I1.tuple hqx
      obtain ⟨its2, rv2, p2, _⟩ := I1.list hqy
      obtain ⟨o1, ho1, _⟩ := id p1
      refine call_zipM (show s1.heap.IsTuple a its.toArray from p1) p2.isList fun h' hz hTI hTO h1 h2 hsz hk => wpAny_pyIter_zip hz ?_
      have I2 : Inv X pins σ H1 { s1 with heap := h' } := I1.kept (t' := s1.toks) hk
      exact ⟨s1.heap.objs.size + 4, [s1.heap.objs.size + 4, s1.heap.objs.size + 2, s1.heap.objs.size + 3, s1.heap.objs.size, s1.heap.objs.size + 1], _, _, H1, rfl, I2, turn_zipM (PySem.W.ktu_apart s1.heap.objs.size a b (Heap.lt_size ho1) p2.lt), ⟨hz, hTI, ⟨_, _, hTO⟩, h1, h2⟩, fresh5, q⟩
end
section
open PySem L2
variable {K : PySem.W.Frag} {E : Wish} {X : Cx} {e : Expr}
theorem it_zipM {w : Wd} {a b : Addr} {vs us : List V} {ds es : List D} (hs : SqT K w.G a vs) (rl : RepL K w.A w.G vs ds) (hs' : SqL K w.G b us) (rl' : RepL K w.A w.G us es) : IterOk K w (ItzM K a b) (zipL ds es) := fun w2 le ok2 i => by
  have h2 : SqT K w2.H a vs := sqT_mono ok2.sub (sqT_mono le.2 hs)
  have h2' : SqL K w2.H b us := ok2.sub.seq (le.2.seq hs')
  refine ⟨fun d ed => ?_, fun hl => ⟨vs, us, h2, h2', by rw [zipL_len] at hl; rw [rl.length, rl'.length]; omega⟩⟩
  obtain ⟨x, y, ex, ey, rfl⟩ := zipL_get ds es i d ed
  obtain ⟨v, ev, rv⟩ := (le.repL rl).get ex
  obtain ⟨u, eu, ru⟩ := (le.repL rl').get ey
  refine ⟨⟨vs, us, v, u, h2, h2', ev, eu⟩, fun z H' hy => ?_⟩
  obtain ⟨T, x', y', rfl, hT, rfl, y1, y2⟩ := hy
  have q1 := y1 vs h2
  rw [ev] at q1
  cases q1
  have q2 := y2 us h2'
  rw [eu] at q2
  cases q2
  have st := ok2.fresh hT (.tup [v, u])
  exact ⟨_, st, rfl, rfl, .tup upd_same (.cons (st.rep rv) (.one (st.rep ru)))⟩
def dZipM (fs : FL) : FL := fun ρ M => (fs ρ M).bind fun ds M => match ds with
  | [.kt xs, .lst ys] => .ok (zipL xs ys) M
  | [.tup xs, .lst ys] => .ok (zipL xs ys) M
  | _ => .bad
@[simp] theorem dZipM_eq (fs : FL) (ρ : EnvD) (M : Store) : dZipM fs ρ M = (fs ρ M).bind fun ds M => match ds with
  | [.kt xs, .lst ys] => .ok (zipL xs ys) M
  | [.tup xs, .lst ys] => .ok (zipL xs ys) M
  | _ => .bad := rfl
theorem x_zipM {tg : Expr} {fs : FL} (h : PI X tg e (iZipM K (tAF K E fs))) : PI X tg e (tI K E (dZipM fs)) := PI.wk h fun σ H Q ⟨ρ, w, e1, ok, sr, a⟩ =>
  ⟨ρ, w, e1, ok, sr, a.bind.imp fun ds w1 s1 a1 vs rvs => by
    split at a1
    · cases rvs with
      | cons r1 r2 =>
        cases r2 with
        | cons r2 r3 =>
          cases r3
          cases r1 with
          | kt hs rl =>
            cases r2 with
            | lst hs' rl' => exact ⟨_, _, _, _, rfl, sqT_mono s1.ok.sub hs, .inl (.inl (s1.ok.sub _ _ hs')), a1 w1 (Step.refl s1.ok) rfl _ (it_zipM hs rl (.inl (.inl hs')) rl')⟩
    · cases rvs with
      | cons r1 r2 =>
        cases r2 with
        | cons r2 r3 =>
          cases r3
          cases r1 with
          | tup hs rl =>
            cases r2 with
            | lst hs' rl' => exact ⟨_, _, _, _, rfl, .inl (.inl (s1.ok.sub _ _ hs)), .inl (.inl (s1.ok.sub _ _ hs')), a1 w1 (Step.refl s1.ok) rfl _ (it_zipM (.inl (.inl hs)) rl (.inl (.inl hs')) rl')⟩
    · exact a1.elim⟩
end
end TP
/-! TPgf: str(x) of an int or a text. -/
namespace TP
open PySem L2
section
variable {X : Cx} {K : PySem.W.Frag}
def rStr1 : List V → Hp → VK → Prop := fun xs H Q => (∃ i, xs = [.int i] ∧ i.natAbs.log2 < 1920 ∧ Q (.str (toString i)) H) ∨ ∃ a, xs = [.str a] ∧ Q (.str a) H
theorem call_strA : CallR X (.type "str") rStr1 := call_str_int.or SkE.call_str_str
def strD (_ : Store) (ds : List D) : Option Slot := match ds with
  | [.int i] => if i.natAbs.log2 < 1920 then some (.val (.str (toString i))) else none
  | [.str a] => some (.val (.str a))
  | _ => none
theorem p_str : PrimN K rStr1 strD := by
  intro w vs ds s Q ok rl h k
  unfold strD at h
  split at h
  · split at h
    · rename_i hz
      cases h
      obtain ⟨v, rfl, rv⟩ := rl.one
      cases int_at rv
      exact .inl ⟨_, rfl, hz, ans ok k fun _ _ => .str _⟩
    · cases h
  · cases h
    obtain ⟨v, rfl, rv⟩ := rl.one
    cases str_at rv
    exact .inr ⟨_, rfl, ans ok k fun _ _ => .str _⟩
  · cases h
end
@[simp] theorem strD_int (M : Store) (i : Int) : strD M [.int i] = if i.natAbs.log2 < 1920 then some (.val (.str (toString i))) else none := rfl
@[simp] theorem strD_str (M : Store) (a : Str) : strD M [.str a] = some (.val (.str a)) := rfl
section
open PySem.Spec PyProof.Rows
variable {X : Cx} {K : PySem.W.Frag}
/-- a text times 0 or 1 -/
def rRepS : R2 := fun x y H Q => ∃ a k, x = .str a ∧ y = .int k ∧ (k = 0 ∨ k = 1) ∧ Q (.str (if k = 0 then Str.empty else a)) H
theorem op_repS : OpR X (binaryOp .Mult) rRepS := by
  intro pins s σ H x y v u Q I rx ry h
  obtain ⟨a, k, rfl, rfl, hk, q⟩ := h
  obtain ⟨t, rfl⟩ := rx
  obtain ⟨t2, rfl⟩ := ry
  rcases hk with rfl | rfl
  · exact PySem.P.mul_str_none (by decide) (by decide) ⟨.str _, H, I.tok _, ⟨_, rfl⟩, q⟩
  · refine PySem.P.mul_str (by decide) (fun _ h => by simp at h) (fun _ h => by simp at h) ?_
    exact ⟨.str a, H, I, ⟨_, rfl⟩, q⟩
def rMulS : R2 := fun x y H Q => rMulA x y H Q ∨ rRepS x y H Q
theorem op_mulS : OpR X (binaryOp .Mult) rMulS := op_mulA.or op_repS
def mulSD (M : Store) (x y : D) : Option Slot := match x, y with
  | .str a, .int k => if k = 0 then some (.val (.str Str.empty)) else if k = 1 then some (.val (.str a)) else none
  | x, y => mulD M x y
theorem p_mulS : Prim2 K rMulS mulSD := by
  intro w vx vy x y s Q ok rx ry h k
  unfold mulSD at h
  split at h
  · rename_i a j
    cases str_at rx
    cases int_at ry
    refine .inr ⟨a, j, rfl, rfl, ?_⟩
    split at h
    · rename_i hj
      cases h
      rw [if_pos hj]
      exact ⟨.inl hj, ans ok k fun _ _ => .str _⟩
    · rename_i hj
      split at h
      · rename_i hj2
        cases h
        rw [if_neg hj]
        exact ⟨.inr hj2, ans ok k fun _ _ => .str _⟩
      · cases h
  · exact .inl (p_mul w vx vy _ _ s Q ok rx ry h k)
@[simp] theorem mulSD_str (M : Store) (a : Str) (k : Int) : mulSD M (.str a) (.int k) = if k = 0 then some (.val (.str Str.empty)) else if k = 1 then some (.val (.str a)) else none := rfl
end
end TP
/-! TPx: the expressions of a program, plain. -/
namespace TP
open PySem L2
inductive Ex where
  | num (n : Int)
  | use (x : Str)
  | op (s : Str) (a b : Ex)
  | lt (x : Str) (a b : Ex)
  | ite (a b c : Ex)
  | times (a : Ex) (i s : Str) (b c : Ex)
  | tell (a b : Ex)
  | stop (a : Ex)
  | call (m f : Str) (as : List Ex)
namespace Ex
mutual
def toD : Ex → D
  | num n => .tup [.str "num", .int n]
  | use x => .tup [.str "use", .str x]
  | op s a b => .tup [.str "op", .str s, toD a, toD b]
  | lt x a b => .tup [.str "let", .str x, toD a, toD b]
  | ite a b c => .tup [.str "if", toD a, toD b, toD c]
  | times a i s b c => .tup [.str "times", toD a, .str i, .str s, toD b, toD c]
  | tell a b => .tup [.str "tell", toD a, toD b]
  | stop a => .tup [.str "stop", toD a]
  | call m f as => .tup [.str "call", .str m, .str f, .tup (toDs as)]
def toDs : List Ex → List D
  | [] => []
  | e :: es => toD e :: toDs es
end
def parts : Ex → List Ex
  | num _ => []
  | use _ => []
  | op _ a b => [a, b]
  | lt _ a b => [a, b]
  | ite a b c => [a, b, c]
  | times a _ _ b c => [a, b, c]
  | tell a b => [a, b]
  | stop a => [a]
  | call _ _ as => as
mutual
def dep : Ex → Nat
  | num _ => 0
  | use _ => 0
  | op _ a b => max (dep a) (dep b) + 1
  | lt _ a b => max (dep a) (dep b) + 1
  | ite a b c => max (dep a) (max (dep b) (dep c)) + 1
  | times a _ _ b c => max (dep a) (max (dep b) (dep c)) + 1
  | tell a b => max (dep a) (dep b) + 1
  | stop a => dep a + 1
  | call _ _ as => deps as + 1
def deps : List Ex → Nat
  | [] => 0
  | e :: es => max (dep e) (deps es)
end
theorem toDs_eq : ∀ es : List Ex, toDs es = es.map toD
  | [] => rfl
  | e :: es => by rw [toDs, toDs_eq es, List.map_cons]
theorem deps_mem : ∀ {es : List Ex} {e : Ex}, e ∈ es → dep e ≤ deps es
  | e' :: es, e, h => by
    rw [deps]
    rcases List.mem_cons.mp h with rfl | h
    · omega
    · have := deps_mem h; omega
theorem parts_dep {e p : Ex} (h : p ∈ parts e) : dep p < dep e := by
  cases e <;> simp only [parts, List.mem_cons, List.not_mem_nil, or_false] at h <;> simp only [dep]
  case op => rcases h with rfl | rfl <;> omega
  case lt => rcases h with rfl | rfl <;> omega
  case ite => rcases h with rfl | rfl | rfl <;> omega
  case times => rcases h with rfl | rfl | rfl <;> omega
  case tell => rcases h with rfl | rfl <;> omega
  case stop => subst h; omega
  case call => have := deps_mem h; omega
end Ex
@[simp] theorem ix0 {x : D} {xs : List D} : atI (x :: xs) 0 = some x := atI_nat (j := 0) rfl
@[simp] theorem ix1 {x y : D} {xs : List D} : atI (x :: y :: xs) 1 = some y := atI_nat (j := 1) rfl
@[simp] theorem ix2 {x y z : D} {xs : List D} : atI (x :: y :: z :: xs) 2 = some z := atI_nat (j := 2) rfl
@[simp] theorem ix3 {x y z u : D} {xs : List D} : atI (x :: y :: z :: u :: xs) 3 = some u := atI_nat (j := 3) rfl
@[simp] theorem ix4 {x y z u v : D} {xs : List D} : atI (x :: y :: z :: u :: v :: xs) 4 = some v := atI_nat (j := 4) rfl
@[simp] theorem ix5 {x y z u v a : D} {xs : List D} : atI (x :: y :: z :: u :: v :: a :: xs) 5 = some a := atI_nat (j := 5) rfl
theorem atI_mem {α : Type} {xs : List α} {i : Int} (h0 : 0 ≤ i) (h1 : i < xs.length) : ∃ v, v ∈ xs ∧ atI xs i = some v := by
  have hi : i.toNat < xs.length := by omega
  have e : ((i.toNat : Nat) : Int) = i := by omega
  generalize i.toNat = j at hi e
  subst e
  exact ⟨xs[j], List.getElem_mem hi, atI_nat (List.getElem?_eq_getElem hi)⟩
theorem atI_map {α β : Type} (f : α → β) (xs : List α) (i : Int) : atI (xs.map f) i = (atI xs i).map f := by
  unfold atI
  rw [List.length_map]
  cases ixN xs.length i with
  | none => rfl
  | some j => simp
theorem set_set {M : Store} {j : Nat} {a b : MO} : (M.set j a).set j b = M.set j b := List.set_set ..
theorem get_set {M : Store} {j : Nat} {a b : MO} (h : M[j]? = some a) : (M.set j b)[j]? = some b := List.getElem?_set_self (List.getElem?_eq_some_iff.mp h).1
theorem get_app {M M' : Store} {j : Nat} {a : MO} (h : M[j]? = some a) : (M ++ M')[j]? = some a := by
  rw [List.getElem?_append_left (List.getElem?_eq_some_iff.mp h).1]; exact h
theorem set_self {M : Store} {j : Nat} {a : MO} (h : M[j]? = some a) : M.set j a = M := by
  apply List.ext_getElem?
  intro i
  by_cases hi : j = i
  · subst hi; rw [get_set h, h]
  · rw [List.getElem?_set_ne hi]
theorem at_end (M : Store) (o : MO) : (M ++ [o])[M.length]? = some o := by
  rw [List.getElem?_append_right (Nat.le_refl _), Nat.sub_self]; rfl
theorem set_end (M : Store) (o p : MO) : (M ++ [o]).set M.length p = M ++ [p] := by
  rw [List.set_append_right _ _ (Nat.le_refl _), Nat.sub_self]; rfl
/-- of two words that are written out -/
theorem eqW {s t : Str} {b : Bool} (h : (okStr s && okStr t && (decide (s = t) == b)) = true) (M : Store) : eqD M (.str s) (.str t) = some (.val (.bl b)) := by
  simp only [Bool.and_eq_true, beq_iff_eq] at h
  rw [eqD_str M h.1.1 h.1.2, h.2]
end TP
/-! TPy: drawn expressions, plain. -/
namespace TP
open PySem L2
def signs : List Str := ["+", "-", "*", "=", "<", "/", "&"]
namespace Ex
mutual
/-- well formed: numbers, names, binders and calls as drawn -/
def Wf (nm : Str → Prop) (ah : Str → Str → Nat → Prop) : List Str → Ex → Prop
  | sc, num n => -(10 ^ 30) ≤ n ∧ n ≤ 10 ^ 30
  | sc, use x => x ∈ sc
  | sc, op s a b => s ∈ signs ∧ Wf nm ah sc a ∧ Wf nm ah sc b
  | sc, lt x a b => nm x ∧ Wf nm ah sc a ∧ Wf nm ah (x :: sc) b
  | sc, ite a b c => Wf nm ah sc a ∧ Wf nm ah sc b ∧ Wf nm ah sc c
  | sc, times a i s b c => nm i ∧ nm s ∧ i ≠ s ∧ Wf nm ah sc a ∧ Wf nm ah sc b ∧ Wf nm ah (i :: s :: sc) c
  | sc, tell a b => Wf nm ah sc a ∧ Wf nm ah sc b
  | sc, stop a => Wf nm ah sc a
  | sc, call m f as => ah m f as.length ∧ Wfs nm ah sc as
def Wfs (nm : Str → Prop) (ah : Str → Str → Nat → Prop) : List Str → List Ex → Prop
  | sc, [] => True
  | sc, e :: es => Wf nm ah sc e ∧ Wfs nm ah sc es
end
mutual
theorem Wf.mono {nm : Str → Prop} {ah ah' : Str → Str → Nat → Prop} (ha : ∀ m f n, ah m f n → ah' m f n) : ∀ (e : Ex) (sc sc' : List Str), (∀ x, x ∈ sc → x ∈ sc') → Wf nm ah sc e → Wf nm ah' sc' e
  | num n, _, _, _, h => by rw [Wf] at *; exact h
  | use x, _, _, hs, h => by rw [Wf] at *; exact hs _ h
  | op s a b, sc, sc', hs, h => by rw [Wf] at *; exact ⟨h.1, Wf.mono ha a _ _ hs h.2.1, Wf.mono ha b _ _ hs h.2.2⟩
  | lt x a b, sc, sc', hs, h => by
    rw [Wf] at *
    refine ⟨h.1, Wf.mono ha a _ _ hs h.2.1, Wf.mono ha b _ _ (fun y hy => ?_) h.2.2⟩
    rcases List.mem_cons.mp hy with rfl | hy
    · exact List.mem_cons_self
    · exact List.mem_cons_of_mem _ (hs _ hy)
  | ite a b c, sc, sc', hs, h => by rw [Wf] at *; exact ⟨Wf.mono ha a _ _ hs h.1, Wf.mono ha b _ _ hs h.2.1, Wf.mono ha c _ _ hs h.2.2⟩
  | times a i s b c, sc, sc', hs, h => by
    rw [Wf] at *
    refine ⟨h.1, h.2.1, h.2.2.1, Wf.mono ha a _ _ hs h.2.2.2.1, Wf.mono ha b _ _ hs h.2.2.2.2.1, Wf.mono ha c _ _ (fun y hy => ?_) h.2.2.2.2.2⟩
    rcases List.mem_cons.mp hy with rfl | hy
    · exact List.mem_cons_self
    · rcases List.mem_cons.mp hy with rfl | hy
      · exact List.mem_cons_of_mem _ List.mem_cons_self
      · exact List.mem_cons_of_mem _ (List.mem_cons_of_mem _ (hs _ hy))
  | tell a b, sc, sc', hs, h => by rw [Wf] at *; exact ⟨Wf.mono ha a _ _ hs h.1, Wf.mono ha b _ _ hs h.2⟩
  | stop a, sc, sc', hs, h => by rw [Wf] at *; exact Wf.mono ha a _ _ hs h
  | call m f as, sc, sc', hs, h => by rw [Wf] at *; exact ⟨ha _ _ _ h.1, Wfs.mono ha as _ _ hs h.2⟩
theorem Wfs.mono {nm : Str → Prop} {ah ah' : Str → Str → Nat → Prop} (ha : ∀ m f n, ah m f n → ah' m f n) : ∀ (es : List Ex) (sc sc' : List Str), (∀ x, x ∈ sc → x ∈ sc') → Wfs nm ah sc es → Wfs nm ah' sc' es
  | [], _, _, _, h => by rw [Wfs]; trivial
  | e :: es, sc, sc', hs, h => by rw [Wfs] at *; exact ⟨Wf.mono ha e _ _ hs h.1, Wfs.mono ha es _ _ hs h.2⟩
end
end Ex
/-! ### the names -/
def pools : List (List Str) := [["q", "z", "b", "m", "x", "k", "c", "w", "h", "v", "j", "p", "g", "y", "l", "d"],
  ["nqor", "nzor", "nbor", "nmor", "nxor", "nkor", "ncor", "nwor", "nhor", "nvor", "njor", "npor", "ngor", "nyor", "nlor", "ndor"],
  ["g", "gr", "gra", "grap", "graph", "graphi", "graphit", "graphite", "s", "sa", "san", "sand", "sandw", "sandwi", "sandwic", "sandwich"]]
def pool (n : Int) : List Str := (atI pools (n % 3)).getD []
def spotAt (n k : Int) : Int := (n / 3 + (2 * (n / 48 % 8) + 1) * k) % 16
def nameAt (n k : Int) : Str := (atI (pool n) (spotAt n k)).getD ""
def namesL (n : Int) : List Str := (List.range 16).map fun k => nameAt n (k : Nat)
theorem pool_mem (n : Int) : pool n ∈ pools ∧ atI pools (n % 3) = some (pool n) := by
  obtain ⟨p, hp, ha⟩ := atI_mem (xs := pools) (i := n % 3) (by omega) (by show _ < (3 : Int); omega)
  unfold pool
  rw [ha]
  exact ⟨hp, rfl⟩
theorem pool_len (n : Int) : (pool n).length = 16 := by
  have h : pools.all (fun p => p.length == 16) = true := by decide +kernel
  simpa using List.all_eq_true.mp h _ (pool_mem n).1
theorem nameAt_mem (n k : Int) : nameAt n k ∈ pool n ∧ atI (pool n) (spotAt n k) = some (nameAt n k) := by
  obtain ⟨p, hp, ha⟩ := atI_mem (xs := pool n) (i := spotAt n k) (by unfold spotAt; omega) (by rw [pool_len]; unfold spotAt; omega)
  unfold nameAt
  rw [ha]
  exact ⟨hp, rfl⟩
theorem pools_ok : pools.all (fun p => p.all fun x => okStr x && decide (x.length ≤ 8)) = true := by decide +kernel
theorem nameAt_ok (n k : Int) : okStr (nameAt n k) = true := by
  have := List.all_eq_true.mp (List.all_eq_true.mp pools_ok _ (pool_mem n).1) _ (nameAt_mem n k).1
  simp only [Bool.and_eq_true] at this
  exact this.1
theorem namesL_len (n : Int) : (namesL n).length = 16 := by unfold namesL; rw [List.length_map, List.length_range]
theorem namesL_ok {n : Int} {x : Str} (h : x ∈ namesL n) : okStr x = true := by
  unfold namesL at h
  obtain ⟨k, _, rfl⟩ := List.mem_map.mp h
  exact nameAt_ok _ _
theorem namesL_at {n i : Int} (h0 : 0 ≤ i) (h1 : i < 16) : atI ((namesL n).map D.str) i = some (.str (nameAt n i)) := by
  have e : ((i.toNat : Nat) : Int) = i := by omega
  have hi : i.toNat < 16 := by omega
  generalize i.toNat = j at e hi
  subst e
  refine atI_nat ?_
  unfold namesL
  rw [List.getElem?_map, List.getElem?_map, List.getElem?_range hi]
  rfl
theorem nameAt_names {n i : Int} (h0 : 0 ≤ i) (h1 : i < 16) : nameAt n i ∈ namesL n := by
  unfold namesL
  refine List.mem_map.mpr ⟨i.toNat, List.mem_range.mpr (by omega), ?_⟩
  rw [show ((i.toNat : Nat) : Int) = i by omega]
theorem lcGo_fmap {α : Type} {b : D → EnvD → Option EnvD} {c : FB} {f : FD} {ρ0 : EnvD} {M : Store} (t : α → D) (p : α → Bool) (g : α → D) : ∀ (xs : List α) (acc : List D),
    (∀ x ∈ xs, ∃ ρ1, b (t x) ρ0 = some ρ1 ∧ c ρ1 M = .ok (p x) M ∧ (p x = true → f ρ1 M = .ok (g x) M)) → acc.length + xs.length ≤ sizeLine → lcGo b c f ρ0 (xs.map t) acc M = .ok (acc ++ (xs.filter p).map g) M
  | [], acc, _, _ => by simp [lcGo]
  | x :: xs, acc, h, hl => by
    obtain ⟨ρ1, h1, h2, h3⟩ := h x List.mem_cons_self
    rw [List.map_cons]
    unfold lcGo
    rw [h1]
    simp only
    rw [h2]
    rw [List.length_cons] at hl
    cases hp : p x with
    | false =>
      simp only
      rw [lcGo_fmap t p g xs acc (fun y hy => h y (List.mem_cons_of_mem _ hy)) (by omega), List.filter_cons_of_neg (by rw [hp]; decide)]
    | true =>
      simp only
      rw [h3 hp]
      simp only
      rw [if_pos (by omega), lcGo_fmap t p g xs (acc ++ [g x]) (fun y hy => h y (List.mem_cons_of_mem _ hy)) (by rw [List.length_append, List.length_singleton]; omega), List.filter_cons_of_pos hp, List.map_cons, List.append_assoc]
      rfl
namespace Ex
mutual
/-- how many expressions -/
def cnt : Ex → Nat
  | num _ => 1
  | use _ => 1
  | op _ a b => cnt a + cnt b + 1
  | lt _ a b => cnt a + cnt b + 1
  | ite a b c => cnt a + cnt b + cnt c + 1
  | times a _ _ b c => cnt a + cnt b + cnt c + 1
  | tell a b => cnt a + cnt b + 1
  | stop a => cnt a + 1
  | call _ _ as => cnts as + 1
def cnts : List Ex → Nat
  | [] => 0
  | e :: es => cnt e + cnts es
end
theorem cnts_le {n : Nat} : ∀ {es : List Ex}, (∀ e ∈ es, cnt e ≤ n) → cnts es ≤ es.length * n
  | [], _ => by rw [cnts]; omega
  | e :: es, h => by
    have h1 := h e List.mem_cons_self
    have h2 := cnts_le (es := es) fun x hx => h x (List.mem_cons_of_mem _ hx)
    rw [cnts, List.length_cons, Nat.succ_mul]
    omega
theorem Wfs_of {nm : Str → Prop} {ah : Str → Str → Nat → Prop} {sc : List Str} : ∀ {es : List Ex}, (∀ e ∈ es, Wf nm ah sc e) → Wfs nm ah sc es
  | [], _ => by rw [Wfs]; trivial
  | e :: es, h => by rw [Wfs]; exact ⟨h e List.mem_cons_self, Wfs_of fun x hx => h x (List.mem_cons_of_mem _ hx)⟩
theorem Wfs_mem {nm : Str → Prop} {ah : Str → Str → Nat → Prop} {sc : List Str} : ∀ {es : List Ex} {e : Ex}, Wfs nm ah sc es → e ∈ es → Wf nm ah sc e
  | e' :: es, e, h, hm => by
    rw [Wfs] at h
    rcases List.mem_cons.mp hm with rfl | hm
    · exact h.1
    · exact Wfs_mem h.2 hm
theorem deps_le {n : Nat} : ∀ {es : List Ex}, (∀ e ∈ es, dep e ≤ n) → deps es ≤ n
  | [], _ => by rw [deps]; omega
  | e :: es, h => by
    have h1 := h e List.mem_cons_self
    have h2 := deps_le (es := es) fun x hx => h x (List.mem_cons_of_mem _ hx)
    rw [deps]
    omega
end Ex
theorem spot_inj {n i j : Int} (hi : 0 ≤ i) (hi2 : i < 16) (hj : 0 ≤ j) (hj2 : j < 16) (h : spotAt n i = spotAt n j) : i = j := by
  unfold spotAt at h
  have hb : n / 48 % 8 = 0 ∨ n / 48 % 8 = 1 ∨ n / 48 % 8 = 2 ∨ n / 48 % 8 = 3 ∨ n / 48 % 8 = 4 ∨ n / 48 % 8 = 5 ∨ n / 48 % 8 = 6 ∨ n / 48 % 8 = 7 := by omega
  generalize n / 3 = x at h
  rcases hb with hb | hb | hb | hb | hb | hb | hb | hb <;> rw [hb] at h <;> omega
theorem pools_nodup : pools.all (fun p => decide p.Nodup) = true := by decide +kernel
theorem atI_inj {α : Type} {xs : List α} (hn : xs.Nodup) {i j : Int} (hi : 0 ≤ i) (hi2 : i < xs.length) (hj : 0 ≤ j) (hj2 : j < xs.length) (h : atI xs i = atI xs j) : i = j := by
  have ei : ((i.toNat : Nat) : Int) = i := by omega
  have ej : ((j.toNat : Nat) : Int) = j := by omega
  have li : i.toNat < xs.length := by omega
  have lj : j.toNat < xs.length := by omega
  generalize i.toNat = a at ei li
  generalize j.toNat = b at ej lj
  subst ei ej
  rw [atI_nat (List.getElem?_eq_getElem li), atI_nat (List.getElem?_eq_getElem lj)] at h
  have := (List.getElem_inj hn).mp (Option.some.inj h)
  omega
theorem nameAt_inj {n i j : Int} (hi : 0 ≤ i) (hi2 : i < 16) (hj : 0 ≤ j) (hj2 : j < 16) (h : nameAt n i = nameAt n j) : i = j := by
  have h1 := (nameAt_mem n i).2
  have h2 := (nameAt_mem n j).2
  rw [h, ← h2] at h1
  have hn : (pool n).Nodup := by simpa using List.all_eq_true.mp pools_nodup _ (pool_mem n).1
  refine spot_inj hi hi2 hj hj2 (atI_inj hn ?_ ?_ ?_ ?_ h1) <;> (try rw [pool_len]) <;> unfold spotAt <;> omega
end TP
/-! TPz: programs, plain. -/
namespace TP
open PySem L2
structure Row where
  f : Str
  ps : List Str
  b : Ex
def Row.toD (r : Row) : D := .tup [.str r.f, .tup (r.ps.map .str), r.b.toD]
abbrev Pr := List (Str × List Row)
def rmD (m : Str × List Row) : D := .tup [.str m.1, .tup (m.2.map Row.toD)]
def pgD (P : Pr) : D := .tup (P.map rmD)
def flat : Pr → List (Str × Row)
  | [] => []
  | (m, rs) :: P => rs.map (fun r => (m, r)) ++ flat P
theorem itemsD_lst (ds : List D) : itemsD (.lst ds) = some ds := rfl
theorem itemsD_tup (ds : List D) : itemsD (.tup ds) = some ds := rfl
theorem itemsD_fro (ds : List D) : itemsD (.fro ds) = some ds := rfl
theorem itemsD_kt (ds : List D) : itemsD (.kt ds) = some ds := rfl
theorem itemsD_pg (P : Pr) : itemsD (pgD P) = some (P.map rmD) := rfl
theorem flat_append : ∀ (P Q : Pr), flat (P ++ Q) = flat P ++ flat Q
  | [], Q => rfl
  | (m, rs) :: P, Q => by rw [List.cons_append, flat, flat, flat_append P Q, List.append_assoc]
def fnD (x : Str × Row) : D := .tup [.str x.1, .str x.2.f, .tup (x.2.ps.map .str), x.2.b.toD]
theorem row_add (M : Store) (m : Str) (r : Row) : addD M (.tup [.str m]) r.toD = some (.val (fnD (m, r))) := by simp [Row.toD, addD, fnD]
/-- the functions of a row, with how many params -/
def rowP (xs : List (Str × Row)) (m f : Str) (k : Nat) : Prop := ∃ x ∈ xs, x.1 = m ∧ x.2.f = f ∧ x.2.ps.length = k
/-- one function behind others, as drawn -/
structure RowWf (n : Int) (pre : List (Str × Row)) (x : Str × Row) : Prop where
  nd : x.2.ps.Nodup
  len : x.2.ps.length ≤ 5
  ps : ∀ y ∈ x.2.ps, y ∈ namesL n
  wf : Ex.Wf (· ∈ namesL n) (rowP pre) x.2.ps x.2.b
  dep : x.2.b.dep ≤ 5
  cnt : x.2.b.cnt ≤ 7776
  m : x.1 ∈ namesL (n / 7)
  f : x.2.f ∈ namesL (n / 7)
/-- all functions, one behind the other -/
def RowsWf (n : Int) : List (Str × Row) → List (Str × Row) → Prop
  | _, [] => True
  | pre, x :: xs => RowWf n pre x ∧ RowsWf n (pre ++ [x]) xs
theorem RowsWf.snoc {n : Int} {x : Str × Row} : ∀ {xs pre : List (Str × Row)}, RowsWf n pre xs → RowWf n (pre ++ xs) x → RowsWf n pre (xs ++ [x])
  | [], pre, _, h => by
    rw [List.append_nil] at h
    exact ⟨h, True.intro⟩
  | y :: xs, pre, h, hx => by
    refine ⟨h.1, RowsWf.snoc h.2 ?_⟩
    rw [List.append_assoc]
    exact hx
theorem RowWf.mono {n : Int} {pre pre' : List (Str × Row)} {x : Str × Row} (h : RowWf n pre x) (hp : ∀ y ∈ pre, y ∈ pre') : RowWf n pre' x :=
  ⟨h.nd, h.len, h.ps, Ex.Wf.mono (fun m f k ⟨y, hy, e⟩ => ⟨y, hp y hy, e⟩) _ _ _ (fun _ z => z) h.wf, h.dep, h.cnt, h.m, h.f⟩
theorem RowsWf.mem {n : Int} {x : Str × Row} : ∀ {xs pre : List (Str × Row)}, RowsWf n pre xs → x ∈ xs → RowWf n (pre ++ xs) x
  | y :: xs, pre, h, hm => by
    rcases List.mem_cons.mp hm with rfl | hm
    · exact h.1.mono fun z hz => List.mem_append_left _ hz
    · have := RowsWf.mem h.2 hm
      rw [List.append_assoc] at this
      exact this
/-- a drawn program -/
structure PrWf (n : Int) (most : Nat) (P : Pr) : Prop where
  rows : RowsWf n [] (flat P)
  mods : (P.map (·.1)).Nodup
  names : ∀ q ∈ P, (q.2.map Row.f).Nodup ∧ q.1 ∈ namesL (n / 7)
  len : P.length ≤ 3
  each : ∀ q ∈ P, q.2.length ≤ max 1 most
  one : ∃ q Q, P = q :: Q ∧ q.2 ≠ []
theorem flat_len {k : Nat} : ∀ {P : Pr}, (∀ q ∈ P, q.2.length ≤ k) → (flat P).length ≤ P.length * k
  | [], _ => by rw [flat]; exact Nat.zero_le _
  | (m, rs) :: P, h => by
    have h1 : rs.length ≤ k := h (m, rs) List.mem_cons_self
    have h2 := flat_len (P := P) fun q hq => h q (List.mem_cons_of_mem _ hq)
    rw [flat, List.length_append, List.length_map, List.length_cons, Nat.succ_mul]
    omega
theorem set_app {M X : Store} {j : Nat} {o : MO} (h : j < M.length) : (M ++ X).set j o = M.set j o ++ X := by
  rw [List.set_append_left _ _ h]
namespace Ex
/-- where the parts stand in the tuple, but a call's -/
def spots : Ex → List Int
  | num _ => []
  | use _ => []
  | op _ _ _ => [2, 3]
  | lt _ _ _ => [2, 3]
  | ite _ _ _ => [1, 2, 3]
  | times _ _ _ _ _ => [1, 4, 5]
  | tell _ _ => [1, 2]
  | stop _ => [1]
  | call _ _ _ => []
mutual
/-- the rows of numbers of all parts -/
def rows : Ex → List (List Nat)
  | num _ => [[]]
  | use _ => [[]]
  | op _ a b => [] :: ((rows a).map (0 :: ·) ++ ((rows b).map (1 :: ·) ++ []))
  | lt _ a b => [] :: ((rows a).map (0 :: ·) ++ ((rows b).map (1 :: ·) ++ []))
  | ite a b c => [] :: ((rows a).map (0 :: ·) ++ ((rows b).map (1 :: ·) ++ ((rows c).map (2 :: ·) ++ [])))
  | times a _ _ b c => [] :: ((rows a).map (0 :: ·) ++ ((rows b).map (1 :: ·) ++ ((rows c).map (2 :: ·) ++ [])))
  | tell a b => [] :: ((rows a).map (0 :: ·) ++ ((rows b).map (1 :: ·) ++ []))
  | stop a => [] :: ((rows a).map (0 :: ·) ++ [])
  | call _ _ as => [] :: rowsL 0 as
def rowsL : Nat → List Ex → List (List Nat)
  | _, [] => []
  | k, e :: es => (rows e).map (k :: ·) ++ rowsL (k + 1) es
end
theorem rows_eq (e : Ex) : rows e = [] :: rowsL 0 e.parts := by
  cases e <;> simp [rows, rowsL, parts]
/-- the expression at a row -/
def sub : Ex → List Nat → Option Ex
  | e, [] => some e
  | e, i :: r => match e.parts[i]? with
    | some p => sub p r
    | none => none
theorem rowsL_sub : ∀ {es : List Ex} {k : Nat} {r : List Nat}, r ∈ rowsL k es → ∃ (i : Nat) (p : Ex) (r' : List Nat), r = (k + i) :: r' ∧ es[i]? = some p ∧ r' ∈ rows p
  | e :: es, k, r, h => by
    rw [rowsL] at h
    rcases List.mem_append.mp h with h | h
    · obtain ⟨r', hr, rfl⟩ := List.mem_map.mp h
      exact ⟨0, e, r', rfl, rfl, hr⟩
    · obtain ⟨i, p, r', rfl, h1, h2⟩ := rowsL_sub h
      exact ⟨i + 1, p, r', by rw [Nat.add_assoc, Nat.add_comm 1], by simpa using h1, h2⟩
theorem rows_sub : ∀ (n : Nat) {e : Ex} {r : List Nat}, e.dep ≤ n → r ∈ rows e → ∃ p, sub e r = some p
  | n, e, r, hn, h => by
    rw [rows_eq] at h
    rcases List.mem_cons.mp h with rfl | h
    · exact ⟨e, by rw [sub]⟩
    · obtain ⟨i, p, r', rfl, h1, h2⟩ := rowsL_sub h
      have hd := parts_dep (List.mem_of_getElem? h1)
      obtain ⟨m, rfl⟩ : ∃ m, n = m + 1 := ⟨n - 1, by omega⟩
      obtain ⟨q, hq⟩ := rows_sub m (by omega) h2
      refine ⟨q, ?_⟩
      rw [sub, Nat.zero_add, h1]
      exact hq
theorem sub_dep : ∀ {r : List Nat} {e p : Ex}, sub e r = some p → p.dep ≤ e.dep
  | [], e, p, h => by rw [sub] at h; cases h; exact Nat.le_refl _
  | i :: r, e, p, h => by
    rw [sub] at h
    split at h
    · rename_i q hq
      have := parts_dep (List.mem_of_getElem? hq)
      have := sub_dep h
      omega
    · cases h
theorem rowsL_len : ∀ (es : List Ex) (k : Nat), (∀ e ∈ es, (rows e).length = cnt e) → (rowsL k es).length = cnts es
  | [], k, _ => by rw [rowsL, cnts]; rfl
  | e :: es, k, h => by
    rw [rowsL, cnts, List.length_append, List.length_map, h e List.mem_cons_self, rowsL_len es (k + 1) fun x hx => h x (List.mem_cons_of_mem _ hx)]
theorem cnt_eq (e : Ex) : cnt e = 1 + cnts e.parts := by
  cases e <;> simp only [cnt, cnts, parts] <;> omega
theorem rows_len : ∀ (n : Nat) {e : Ex}, e.dep ≤ n → (rows e).length = cnt e
  | n, e, hn => by
    rw [rows_eq, List.length_cons, cnt_eq, rowsL_len e.parts 0 fun p hp => ?_, Nat.add_comm]
    have hd := parts_dep hp
    obtain ⟨m, rfl⟩ : ∃ m, n = m + 1 := ⟨n - 1, by omega⟩
    exact rows_len m (by omega)
theorem cnts_mem : ∀ {es : List Ex} {e : Ex}, e ∈ es → cnt e ≤ cnts es
  | e' :: es, e, h => by
    rw [cnts]
    rcases List.mem_cons.mp h with rfl | h
    · omega
    · have := cnts_mem h; omega
theorem parts_cnt {e p : Ex} (h : p ∈ e.parts) : cnt p < cnt e := by
  rw [cnt_eq e]
  have := cnts_mem h
  omega
theorem parts_len {e : Ex} : e.parts.length ≤ cnt e := by
  rw [cnt_eq]
  have : ∀ es : List Ex, es.length ≤ cnts es := fun es => by
    induction es with
    | nil => simp
    | cons e es ih =>
      rw [cnts, List.length_cons]
      have : 1 ≤ cnt e := by rw [cnt_eq]; omega
      omega
  have := this e.parts
  omega
end Ex
def rowD (r : List Nat) : D := .tup (r.map fun i => .int (i : Nat))
def enumF : Nat → List D → List D
  | _, [] => []
  | k, d :: ds => .tup [.int (k : Nat), d] :: enumF (k + 1) ds
theorem enumF_eq : ∀ (ds : List D) (k : Nat), ((List.range ds.length).map fun i => D.tup [.int ((k + i : Nat) : Int), ds.getD i .non]) = enumF k ds
  | [], k => rfl
  | d :: ds, k => by
    rw [List.length_cons, List.range_succ_eq_map, List.map_cons, enumF, ← enumF_eq ds (k + 1), List.map_map]
    congr 1
    apply List.map_congr_left
    intro i _
    show D.tup [.int ((k + (i + 1) : Nat) : Int), (d :: ds).getD (i + 1) .non] = _
    rw [show k + (i + 1) = k + 1 + i by omega]
    rfl
theorem enumL_eq (ds : List D) : enumL ds = enumF 0 ds := by
  rw [← enumF_eq]
  unfold enumL
  apply List.map_congr_left
  intro i _
  rw [Nat.zero_add]
theorem lcGo_mp {α : Type} {b : D → EnvD → Option EnvD} {f : FD} {ρ0 : EnvD} {M : Store} (t : α → D) (g : α → D) (xs : List α) (h : ∀ x ∈ xs, ∃ ρ1, b (t x) ρ0 = some ρ1 ∧ f ρ1 M = .ok (g x) M) (hl : xs.length ≤ 1000000) :
    lcGo b dYes f ρ0 (xs.map t) [] M = .ok (xs.map g) M := by
  have := lcGo_fmap (b := b) (c := dYes) (f := f) (ρ0 := ρ0) (M := M) t (fun _ => true) g xs [] (fun x hx => by
    obtain ⟨ρ1, h1, h2⟩ := h x hx
    exact ⟨ρ1, h1, rfl, fun _ => h2⟩) (by rw [szL, List.length_nil]; omega)
  rw [this, List.filter_eq_self.mpr (fun _ _ => rfl), List.nil_append]
namespace Ex
theorem rowsL_lens : ∀ {es : List Ex} {k n : Nat} {r : List Nat}, (∀ e ∈ es, ∀ r ∈ rows e, r.length ≤ n) → r ∈ rowsL k es → r.length ≤ n + 1
  | es, k, n, r, h, hr => by
    obtain ⟨i, p, r', rfl, h1, h2⟩ := rowsL_sub hr
    rw [List.length_cons]
    have := h p (List.mem_of_getElem? h1) r' h2
    omega
theorem rows_lens : ∀ (n : Nat) {e : Ex} {r : List Nat}, e.dep ≤ n → r ∈ rows e → r.length ≤ n
  | n, e, r, hn, h => by
    rw [rows_eq] at h
    rcases List.mem_cons.mp h with rfl | h
    · exact Nat.zero_le _
    · obtain ⟨i, p, r', rfl, h1, h2⟩ := rowsL_sub h
      have hd := parts_dep (List.mem_of_getElem? h1)
      obtain ⟨m, rfl⟩ : ∃ m, n = m + 1 := ⟨n - 1, by omega⟩
      have := rows_lens m (by omega) h2
      rw [List.length_cons]
      omega
end Ex
section
variable {κ : Type} [DecidableEq κ]
theorem look_cons (p : κ × D) (kvs : List (κ × D)) (k : κ) : lookD (p :: kvs) k = if p.1 = k then some p.2 else lookD kvs k := by
  unfold lookD
  rw [List.find?_cons]
  by_cases h : p.1 = k
  · rw [decide_eq_true h, if_pos h]; rfl
  · rw [decide_eq_false h, if_neg h]
theorem look_map : ∀ (kvs : List (κ × D)) (k k' : κ) (v : D), lookD (kvs.map fun kv => if kv.1 = k then (kv.1, v) else kv) k' = if k = k' ∧ (kvs.any fun kv => decide (kv.1 = k)) = true then some v else lookD kvs k'
  | [], k, k', v => by simp [lookD]
  | p :: kvs, k, k', v => by
    rw [List.map_cons, look_cons, look_cons, look_map kvs k k' v, List.any_cons]
    by_cases h1 : p.1 = k
    · by_cases h2 : k = k'
      · simp [h1, h2]
      · simp [h1, h2]
    · by_cases h2 : k = k'
      · subst h2
        simp only [if_neg h1, decide_eq_false h1, Bool.false_or]
      · simp [h1, h2]
theorem look_none : ∀ (kvs : List (κ × D)) (k : κ), ¬ (kvs.any fun kv => decide (kv.1 = k)) = true → lookD kvs k = none
  | [], _, _ => rfl
  | p :: kvs, k, h => by
    rw [List.any_cons, Bool.or_eq_true, not_or] at h
    rw [look_cons, if_neg (by simpa using h.1), look_none kvs k h.2]
theorem look_app : ∀ (a b : List (κ × D)) (k : κ), lookD (a ++ b) k = (lookD a k).or (lookD b k)
  | [], b, k => rfl
  | p :: a, b, k => by
    rw [List.cons_append, look_cons, look_cons, look_app a b k]
    split <;> rfl
theorem look_put (kvs : List (κ × D)) (k k' : κ) (v : D) : lookD (putD kvs k v) k' = if k = k' then some v else lookD kvs k' := by
  unfold putD
  split
  · rename_i h
    rw [look_map]
    simp only [h, and_true]
  · rename_i h
    rw [look_app, look_cons]
    by_cases hk : k = k'
    · subst hk
      rw [look_none kvs k h]
      simp
    · simp only [if_neg hk]
      show (lookD kvs k').or none = _
      rw [Option.or_none]
end
theorem mem_flat : ∀ {P : Pr} {q : Str × List Row} {r : Row}, q ∈ P → r ∈ q.2 → (q.1, r) ∈ flat P
  | (m, rs) :: P, q, r, hq, hr => by
    rw [flat]
    rcases List.mem_cons.mp hq with rfl | hq
    · exact List.mem_append_left _ (List.mem_map.mpr ⟨r, hr, rfl⟩)
    · exact List.mem_append_right _ (mem_flat hq hr)
end TP
/-! TPw: words that are written out. -/
namespace TP
open PySem L2
theorem neW {s t : Str} {b : Bool} (h : (okStr s && okStr t && (decide (s = t) == b)) = true) (M : Store) : neD M (.str s) (.str t) = some (.val (.bl !b)) := by
  simp only [Bool.and_eq_true, beq_iff_eq] at h
  rw [neD_str M h.1.1 h.1.2, h.2]
@[simp] theorem ew0 (M : Store) : eqD M (.str "num") (.str "num") = some (.val (.bl true)) := eqW (by decide +kernel) M
@[simp] theorem nw0 (M : Store) : neD M (.str "num") (.str "num") = some (.val (.bl (!true))) := neW (by decide +kernel) M
@[simp] theorem ew1 (M : Store) : eqD M (.str "num") (.str "use") = some (.val (.bl false)) := eqW (by decide +kernel) M
@[simp] theorem nw1 (M : Store) : neD M (.str "num") (.str "use") = some (.val (.bl (!false))) := neW (by decide +kernel) M
@[simp] theorem ew2 (M : Store) : eqD M (.str "num") (.str "op") = some (.val (.bl false)) := eqW (by decide +kernel) M
@[simp] theorem nw2 (M : Store) : neD M (.str "num") (.str "op") = some (.val (.bl (!false))) := neW (by decide +kernel) M
@[simp] theorem ew3 (M : Store) : eqD M (.str "num") (.str "let") = some (.val (.bl false)) := eqW (by decide +kernel) M
@[simp] theorem nw3 (M : Store) : neD M (.str "num") (.str "let") = some (.val (.bl (!false))) := neW (by decide +kernel) M
@[simp] theorem ew4 (M : Store) : eqD M (.str "num") (.str "if") = some (.val (.bl false)) := eqW (by decide +kernel) M
@[simp] theorem nw4 (M : Store) : neD M (.str "num") (.str "if") = some (.val (.bl (!false))) := neW (by decide +kernel) M
@[simp] theorem ew5 (M : Store) : eqD M (.str "num") (.str "times") = some (.val (.bl false)) := eqW (by decide +kernel) M
@[simp] theorem nw5 (M : Store) : neD M (.str "num") (.str "times") = some (.val (.bl (!false))) := neW (by decide +kernel) M
@[simp] theorem ew6 (M : Store) : eqD M (.str "num") (.str "tell") = some (.val (.bl false)) := eqW (by decide +kernel) M
@[simp] theorem nw6 (M : Store) : neD M (.str "num") (.str "tell") = some (.val (.bl (!false))) := neW (by decide +kernel) M
@[simp] theorem ew7 (M : Store) : eqD M (.str "num") (.str "stop") = some (.val (.bl false)) := eqW (by decide +kernel) M
@[simp] theorem nw7 (M : Store) : neD M (.str "num") (.str "stop") = some (.val (.bl (!false))) := neW (by decide +kernel) M
@[simp] theorem ew8 (M : Store) : eqD M (.str "num") (.str "call") = some (.val (.bl false)) := eqW (by decide +kernel) M
@[simp] theorem nw8 (M : Store) : neD M (.str "num") (.str "call") = some (.val (.bl (!false))) := neW (by decide +kernel) M
@[simp] theorem ew9 (M : Store) : eqD M (.str "use") (.str "num") = some (.val (.bl false)) := eqW (by decide +kernel) M
@[simp] theorem nw9 (M : Store) : neD M (.str "use") (.str "num") = some (.val (.bl (!false))) := neW (by decide +kernel) M
@[simp] theorem ew10 (M : Store) : eqD M (.str "use") (.str "use") = some (.val (.bl true)) := eqW (by decide +kernel) M
@[simp] theorem nw10 (M : Store) : neD M (.str "use") (.str "use") = some (.val (.bl (!true))) := neW (by decide +kernel) M
@[simp] theorem ew11 (M : Store) : eqD M (.str "use") (.str "op") = some (.val (.bl false)) := eqW (by decide +kernel) M
@[simp] theorem nw11 (M : Store) : neD M (.str "use") (.str "op") = some (.val (.bl (!false))) := neW (by decide +kernel) M
@[simp] theorem ew12 (M : Store) : eqD M (.str "use") (.str "let") = some (.val (.bl false)) := eqW (by decide +kernel) M
@[simp] theorem nw12 (M : Store) : neD M (.str "use") (.str "let") = some (.val (.bl (!false))) := neW (by decide +kernel) M
@[simp] theorem ew13 (M : Store) : eqD M (.str "use") (.str "if") = some (.val (.bl false)) := eqW (by decide +kernel) M
@[simp] theorem nw13 (M : Store) : neD M (.str "use") (.str "if") = some (.val (.bl (!false))) := neW (by decide +kernel) M
@[simp] theorem ew14 (M : Store) : eqD M (.str "use") (.str "times") = some (.val (.bl false)) := eqW (by decide +kernel) M
@[simp] theorem nw14 (M : Store) : neD M (.str "use") (.str "times") = some (.val (.bl (!false))) := neW (by decide +kernel) M
@[simp] theorem ew15 (M : Store) : eqD M (.str "use") (.str "tell") = some (.val (.bl false)) := eqW (by decide +kernel) M
@[simp] theorem nw15 (M : Store) : neD M (.str "use") (.str "tell") = some (.val (.bl (!false))) := neW (by decide +kernel) M
@[simp] theorem ew16 (M : Store) : eqD M (.str "use") (.str "stop") = some (.val (.bl false)) := eqW (by decide +kernel) M
@[simp] theorem nw16 (M : Store) : neD M (.str "use") (.str "stop") = some (.val (.bl (!false))) := neW (by decide +kernel) M
@[simp] theorem ew17 (M : Store) : eqD M (.str "use") (.str "call") = some (.val (.bl false)) := eqW (by decide +kernel) M
@[simp] theorem nw17 (M : Store) : neD M (.str "use") (.str "call") = some (.val (.bl (!false))) := neW (by decide +kernel) M
@[simp] theorem ew18 (M : Store) : eqD M (.str "op") (.str "num") = some (.val (.bl false)) := eqW (by decide +kernel) M
@[simp] theorem nw18 (M : Store) : neD M (.str "op") (.str "num") = some (.val (.bl (!false))) := neW (by decide +kernel) M
@[simp] theorem ew19 (M : Store) : eqD M (.str "op") (.str "use") = some (.val (.bl false)) := eqW (by decide +kernel) M
@[simp] theorem nw19 (M : Store) : neD M (.str "op") (.str "use") = some (.val (.bl (!false))) := neW (by decide +kernel) M
@[simp] theorem ew20 (M : Store) : eqD M (.str "op") (.str "op") = some (.val (.bl true)) := eqW (by decide +kernel) M
@[simp] theorem nw20 (M : Store) : neD M (.str "op") (.str "op") = some (.val (.bl (!true))) := neW (by decide +kernel) M
@[simp] theorem ew21 (M : Store) : eqD M (.str "op") (.str "let") = some (.val (.bl false)) := eqW (by decide +kernel) M
@[simp] theorem nw21 (M : Store) : neD M (.str "op") (.str "let") = some (.val (.bl (!false))) := neW (by decide +kernel) M
@[simp] theorem ew22 (M : Store) : eqD M (.str "op") (.str "if") = some (.val (.bl false)) := eqW (by decide +kernel) M
@[simp] theorem nw22 (M : Store) : neD M (.str "op") (.str "if") = some (.val (.bl (!false))) := neW (by decide +kernel) M
@[simp] theorem ew23 (M : Store) : eqD M (.str "op") (.str "times") = some (.val (.bl false)) := eqW (by decide +kernel) M
@[simp] theorem nw23 (M : Store) : neD M (.str "op") (.str "times") = some (.val (.bl (!false))) := neW (by decide +kernel) M
@[simp] theorem ew24 (M : Store) : eqD M (.str "op") (.str "tell") = some (.val (.bl false)) := eqW (by decide +kernel) M
@[simp] theorem nw24 (M : Store) : neD M (.str "op") (.str "tell") = some (.val (.bl (!false))) := neW (by decide +kernel) M
@[simp] theorem ew25 (M : Store) : eqD M (.str "op") (.str "stop") = some (.val (.bl false)) := eqW (by decide +kernel) M
@[simp] theorem nw25 (M : Store) : neD M (.str "op") (.str "stop") = some (.val (.bl (!false))) := neW (by decide +kernel) M
@[simp] theorem ew26 (M : Store) : eqD M (.str "op") (.str "call") = some (.val (.bl false)) := eqW (by decide +kernel) M
@[simp] theorem nw26 (M : Store) : neD M (.str "op") (.str "call") = some (.val (.bl (!false))) := neW (by decide +kernel) M
@[simp] theorem ew27 (M : Store) : eqD M (.str "let") (.str "num") = some (.val (.bl false)) := eqW (by decide +kernel) M
@[simp] theorem nw27 (M : Store) : neD M (.str "let") (.str "num") = some (.val (.bl (!false))) := neW (by decide +kernel) M
@[simp] theorem ew28 (M : Store) : eqD M (.str "let") (.str "use") = some (.val (.bl false)) := eqW (by decide +kernel) M
@[simp] theorem nw28 (M : Store) : neD M (.str "let") (.str "use") = some (.val (.bl (!false))) := neW (by decide +kernel) M
@[simp] theorem ew29 (M : Store) : eqD M (.str "let") (.str "op") = some (.val (.bl false)) := eqW (by decide +kernel) M
@[simp] theorem nw29 (M : Store) : neD M (.str "let") (.str "op") = some (.val (.bl (!false))) := neW (by decide +kernel) M
@[simp] theorem ew30 (M : Store) : eqD M (.str "let") (.str "let") = some (.val (.bl true)) := eqW (by decide +kernel) M
@[simp] theorem nw30 (M : Store) : neD M (.str "let") (.str "let") = some (.val (.bl (!true))) := neW (by decide +kernel) M
@[simp] theorem ew31 (M : Store) : eqD M (.str "let") (.str "if") = some (.val (.bl false)) := eqW (by decide +kernel) M
@[simp] theorem nw31 (M : Store) : neD M (.str "let") (.str "if") = some (.val (.bl (!false))) := neW (by decide +kernel) M
@[simp] theorem ew32 (M : Store) : eqD M (.str "let") (.str "times") = some (.val (.bl false)) := eqW (by decide +kernel) M
@[simp] theorem nw32 (M : Store) : neD M (.str "let") (.str "times") = some (.val (.bl (!false))) := neW (by decide +kernel) M
@[simp] theorem ew33 (M : Store) : eqD M (.str "let") (.str "tell") = some (.val (.bl false)) := eqW (by decide +kernel) M
@[simp] theorem nw33 (M : Store) : neD M (.str "let") (.str "tell") = some (.val (.bl (!false))) := neW (by decide +kernel) M
@[simp] theorem ew34 (M : Store) : eqD M (.str "let") (.str "stop") = some (.val (.bl false)) := eqW (by decide +kernel) M
@[simp] theorem nw34 (M : Store) : neD M (.str "let") (.str "stop") = some (.val (.bl (!false))) := neW (by decide +kernel) M
@[simp] theorem ew35 (M : Store) : eqD M (.str "let") (.str "call") = some (.val (.bl false)) := eqW (by decide +kernel) M
@[simp] theorem nw35 (M : Store) : neD M (.str "let") (.str "call") = some (.val (.bl (!false))) := neW (by decide +kernel) M
@[simp] theorem ew36 (M : Store) : eqD M (.str "if") (.str "num") = some (.val (.bl false)) := eqW (by decide +kernel) M
@[simp] theorem nw36 (M : Store) : neD M (.str "if") (.str "num") = some (.val (.bl (!false))) := neW (by decide +kernel) M
@[simp] theorem ew37 (M : Store) : eqD M (.str "if") (.str "use") = some (.val (.bl false)) := eqW (by decide +kernel) M
@[simp] theorem nw37 (M : Store) : neD M (.str "if") (.str "use") = some (.val (.bl (!false))) := neW (by decide +kernel) M
@[simp] theorem ew38 (M : Store) : eqD M (.str "if") (.str "op") = some (.val (.bl false)) := eqW (by decide +kernel) M
@[simp] theorem nw38 (M : Store) : neD M (.str "if") (.str "op") = some (.val (.bl (!false))) := neW (by decide +kernel) M
@[simp] theorem ew39 (M : Store) : eqD M (.str "if") (.str "let") = some (.val (.bl false)) := eqW (by decide +kernel) M
@[simp] theorem nw39 (M : Store) : neD M (.str "if") (.str "let") = some (.val (.bl (!false))) := neW (by decide +kernel) M
@[simp] theorem ew40 (M : Store) : eqD M (.str "if") (.str "if") = some (.val (.bl true)) := eqW (by decide +kernel) M
@[simp] theorem nw40 (M : Store) : neD M (.str "if") (.str "if") = some (.val (.bl (!true))) := neW (by decide +kernel) M
@[simp] theorem ew41 (M : Store) : eqD M (.str "if") (.str "times") = some (.val (.bl false)) := eqW (by decide +kernel) M
@[simp] theorem nw41 (M : Store) : neD M (.str "if") (.str "times") = some (.val (.bl (!false))) := neW (by decide +kernel) M
@[simp] theorem ew42 (M : Store) : eqD M (.str "if") (.str "tell") = some (.val (.bl false)) := eqW (by decide +kernel) M
@[simp] theorem nw42 (M : Store) : neD M (.str "if") (.str "tell") = some (.val (.bl (!false))) := neW (by decide +kernel) M
@[simp] theorem ew43 (M : Store) : eqD M (.str "if") (.str "stop") = some (.val (.bl false)) := eqW (by decide +kernel) M
@[simp] theorem nw43 (M : Store) : neD M (.str "if") (.str "stop") = some (.val (.bl (!false))) := neW (by decide +kernel) M
@[simp] theorem ew44 (M : Store) : eqD M (.str "if") (.str "call") = some (.val (.bl false)) := eqW (by decide +kernel) M
@[simp] theorem nw44 (M : Store) : neD M (.str "if") (.str "call") = some (.val (.bl (!false))) := neW (by decide +kernel) M
@[simp] theorem ew45 (M : Store) : eqD M (.str "times") (.str "num") = some (.val (.bl false)) := eqW (by decide +kernel) M
@[simp] theorem nw45 (M : Store) : neD M (.str "times") (.str "num") = some (.val (.bl (!false))) := neW (by decide +kernel) M
@[simp] theorem ew46 (M : Store) : eqD M (.str "times") (.str "use") = some (.val (.bl false)) := eqW (by decide +kernel) M
@[simp] theorem nw46 (M : Store) : neD M (.str "times") (.str "use") = some (.val (.bl (!false))) := neW (by decide +kernel) M
@[simp] theorem ew47 (M : Store) : eqD M (.str "times") (.str "op") = some (.val (.bl false)) := eqW (by decide +kernel) M
@[simp] theorem nw47 (M : Store) : neD M (.str "times") (.str "op") = some (.val (.bl (!false))) := neW (by decide +kernel) M
@[simp] theorem ew48 (M : Store) : eqD M (.str "times") (.str "let") = some (.val (.bl false)) := eqW (by decide +kernel) M
@[simp] theorem nw48 (M : Store) : neD M (.str "times") (.str "let") = some (.val (.bl (!false))) := neW (by decide +kernel) M
@[simp] theorem ew49 (M : Store) : eqD M (.str "times") (.str "if") = some (.val (.bl false)) := eqW (by decide +kernel) M
@[simp] theorem nw49 (M : Store) : neD M (.str "times") (.str "if") = some (.val (.bl (!false))) := neW (by decide +kernel) M
@[simp] theorem ew50 (M : Store) : eqD M (.str "times") (.str "times") = some (.val (.bl true)) := eqW (by decide +kernel) M
@[simp] theorem nw50 (M : Store) : neD M (.str "times") (.str "times") = some (.val (.bl (!true))) := neW (by decide +kernel) M
@[simp] theorem ew51 (M : Store) : eqD M (.str "times") (.str "tell") = some (.val (.bl false)) := eqW (by decide +kernel) M
@[simp] theorem nw51 (M : Store) : neD M (.str "times") (.str "tell") = some (.val (.bl (!false))) := neW (by decide +kernel) M
@[simp] theorem ew52 (M : Store) : eqD M (.str "times") (.str "stop") = some (.val (.bl false)) := eqW (by decide +kernel) M
@[simp] theorem nw52 (M : Store) : neD M (.str "times") (.str "stop") = some (.val (.bl (!false))) := neW (by decide +kernel) M
@[simp] theorem ew53 (M : Store) : eqD M (.str "times") (.str "call") = some (.val (.bl false)) := eqW (by decide +kernel) M
@[simp] theorem nw53 (M : Store) : neD M (.str "times") (.str "call") = some (.val (.bl (!false))) := neW (by decide +kernel) M
@[simp] theorem ew54 (M : Store) : eqD M (.str "tell") (.str "num") = some (.val (.bl false)) := eqW (by decide +kernel) M
@[simp] theorem nw54 (M : Store) : neD M (.str "tell") (.str "num") = some (.val (.bl (!false))) := neW (by decide +kernel) M
@[simp] theorem ew55 (M : Store) : eqD M (.str "tell") (.str "use") = some (.val (.bl false)) := eqW (by decide +kernel) M
@[simp] theorem nw55 (M : Store) : neD M (.str "tell") (.str "use") = some (.val (.bl (!false))) := neW (by decide +kernel) M
@[simp] theorem ew56 (M : Store) : eqD M (.str "tell") (.str "op") = some (.val (.bl false)) := eqW (by decide +kernel) M
@[simp] theorem nw56 (M : Store) : neD M (.str "tell") (.str "op") = some (.val (.bl (!false))) := neW (by decide +kernel) M
@[simp] theorem ew57 (M : Store) : eqD M (.str "tell") (.str "let") = some (.val (.bl false)) := eqW (by decide +kernel) M
@[simp] theorem nw57 (M : Store) : neD M (.str "tell") (.str "let") = some (.val (.bl (!false))) := neW (by decide +kernel) M
@[simp] theorem ew58 (M : Store) : eqD M (.str "tell") (.str "if") = some (.val (.bl false)) := eqW (by decide +kernel) M
@[simp] theorem nw58 (M : Store) : neD M (.str "tell") (.str "if") = some (.val (.bl (!false))) := neW (by decide +kernel) M
@[simp] theorem ew59 (M : Store) : eqD M (.str "tell") (.str "times") = some (.val (.bl false)) := eqW (by decide +kernel) M
@[simp] theorem nw59 (M : Store) : neD M (.str "tell") (.str "times") = some (.val (.bl (!false))) := neW (by decide +kernel) M
@[simp] theorem ew60 (M : Store) : eqD M (.str "tell") (.str "tell") = some (.val (.bl true)) := eqW (by decide +kernel) M
@[simp] theorem nw60 (M : Store) : neD M (.str "tell") (.str "tell") = some (.val (.bl (!true))) := neW (by decide +kernel) M
@[simp] theorem ew61 (M : Store) : eqD M (.str "tell") (.str "stop") = some (.val (.bl false)) := eqW (by decide +kernel) M
@[simp] theorem nw61 (M : Store) : neD M (.str "tell") (.str "stop") = some (.val (.bl (!false))) := neW (by decide +kernel) M
@[simp] theorem ew62 (M : Store) : eqD M (.str "tell") (.str "call") = some (.val (.bl false)) := eqW (by decide +kernel) M
@[simp] theorem nw62 (M : Store) : neD M (.str "tell") (.str "call") = some (.val (.bl (!false))) := neW (by decide +kernel) M
@[simp] theorem ew63 (M : Store) : eqD M (.str "stop") (.str "num") = some (.val (.bl false)) := eqW (by decide +kernel) M
@[simp] theorem nw63 (M : Store) : neD M (.str "stop") (.str "num") = some (.val (.bl (!false))) := neW (by decide +kernel) M
@[simp] theorem ew64 (M : Store) : eqD M (.str "stop") (.str "use") = some (.val (.bl false)) := eqW (by decide +kernel) M
@[simp] theorem nw64 (M : Store) : neD M (.str "stop") (.str "use") = some (.val (.bl (!false))) := neW (by decide +kernel) M
@[simp] theorem ew65 (M : Store) : eqD M (.str "stop") (.str "op") = some (.val (.bl false)) := eqW (by decide +kernel) M
@[simp] theorem nw65 (M : Store) : neD M (.str "stop") (.str "op") = some (.val (.bl (!false))) := neW (by decide +kernel) M
@[simp] theorem ew66 (M : Store) : eqD M (.str "stop") (.str "let") = some (.val (.bl false)) := eqW (by decide +kernel) M
@[simp] theorem nw66 (M : Store) : neD M (.str "stop") (.str "let") = some (.val (.bl (!false))) := neW (by decide +kernel) M
@[simp] theorem ew67 (M : Store) : eqD M (.str "stop") (.str "if") = some (.val (.bl false)) := eqW (by decide +kernel) M
@[simp] theorem nw67 (M : Store) : neD M (.str "stop") (.str "if") = some (.val (.bl (!false))) := neW (by decide +kernel) M
@[simp] theorem ew68 (M : Store) : eqD M (.str "stop") (.str "times") = some (.val (.bl false)) := eqW (by decide +kernel) M
@[simp] theorem nw68 (M : Store) : neD M (.str "stop") (.str "times") = some (.val (.bl (!false))) := neW (by decide +kernel) M
@[simp] theorem ew69 (M : Store) : eqD M (.str "stop") (.str "tell") = some (.val (.bl false)) := eqW (by decide +kernel) M
@[simp] theorem nw69 (M : Store) : neD M (.str "stop") (.str "tell") = some (.val (.bl (!false))) := neW (by decide +kernel) M
@[simp] theorem ew70 (M : Store) : eqD M (.str "stop") (.str "stop") = some (.val (.bl true)) := eqW (by decide +kernel) M
@[simp] theorem nw70 (M : Store) : neD M (.str "stop") (.str "stop") = some (.val (.bl (!true))) := neW (by decide +kernel) M
@[simp] theorem ew71 (M : Store) : eqD M (.str "stop") (.str "call") = some (.val (.bl false)) := eqW (by decide +kernel) M
@[simp] theorem nw71 (M : Store) : neD M (.str "stop") (.str "call") = some (.val (.bl (!false))) := neW (by decide +kernel) M
@[simp] theorem ew72 (M : Store) : eqD M (.str "call") (.str "num") = some (.val (.bl false)) := eqW (by decide +kernel) M
@[simp] theorem nw72 (M : Store) : neD M (.str "call") (.str "num") = some (.val (.bl (!false))) := neW (by decide +kernel) M
@[simp] theorem ew73 (M : Store) : eqD M (.str "call") (.str "use") = some (.val (.bl false)) := eqW (by decide +kernel) M
@[simp] theorem nw73 (M : Store) : neD M (.str "call") (.str "use") = some (.val (.bl (!false))) := neW (by decide +kernel) M
@[simp] theorem ew74 (M : Store) : eqD M (.str "call") (.str "op") = some (.val (.bl false)) := eqW (by decide +kernel) M
@[simp] theorem nw74 (M : Store) : neD M (.str "call") (.str "op") = some (.val (.bl (!false))) := neW (by decide +kernel) M
@[simp] theorem ew75 (M : Store) : eqD M (.str "call") (.str "let") = some (.val (.bl false)) := eqW (by decide +kernel) M
@[simp] theorem nw75 (M : Store) : neD M (.str "call") (.str "let") = some (.val (.bl (!false))) := neW (by decide +kernel) M
@[simp] theorem ew76 (M : Store) : eqD M (.str "call") (.str "if") = some (.val (.bl false)) := eqW (by decide +kernel) M
@[simp] theorem nw76 (M : Store) : neD M (.str "call") (.str "if") = some (.val (.bl (!false))) := neW (by decide +kernel) M
@[simp] theorem ew77 (M : Store) : eqD M (.str "call") (.str "times") = some (.val (.bl false)) := eqW (by decide +kernel) M
@[simp] theorem nw77 (M : Store) : neD M (.str "call") (.str "times") = some (.val (.bl (!false))) := neW (by decide +kernel) M
@[simp] theorem ew78 (M : Store) : eqD M (.str "call") (.str "tell") = some (.val (.bl false)) := eqW (by decide +kernel) M
@[simp] theorem nw78 (M : Store) : neD M (.str "call") (.str "tell") = some (.val (.bl (!false))) := neW (by decide +kernel) M
@[simp] theorem ew79 (M : Store) : eqD M (.str "call") (.str "stop") = some (.val (.bl false)) := eqW (by decide +kernel) M
@[simp] theorem nw79 (M : Store) : neD M (.str "call") (.str "stop") = some (.val (.bl (!false))) := neW (by decide +kernel) M
@[simp] theorem ew80 (M : Store) : eqD M (.str "call") (.str "call") = some (.val (.bl true)) := eqW (by decide +kernel) M
@[simp] theorem nw80 (M : Store) : neD M (.str "call") (.str "call") = some (.val (.bl (!true))) := neW (by decide +kernel) M
end TP
/-! TPs: how long texts of data are (repr). -/
namespace TP
open PySem L2
mutual
/-- at least as long as it is shown -/
def bigD : D → Nat
  | .non => 4
  | .bl _ => 5
  | .int i => (Str.ofString (toString i)).length
  | .str x => (reprText x).length
  | .lst xs => bigL xs + 3
  | .tup xs => bigL xs + 3
  | .fro _ => 4
  | .kt _ => 4
  | .ref _ => 4
def bigL : List D → Nat
  | [] => 0
  | x :: xs => bigD x + 2 + bigL xs
end
mutual
theorem shown_big : ∀ d : D, (toPy d).shown.length ≤ bigD d
  | .non => by simp only [toPy, bigD]; decide
  | .bl b => by simp only [toPy, bigD]; cases b <;> decide
  | .int i => by simp only [toPy, bigD, PyData.shown]; exact Nat.le_refl _
  | .str x => by simp only [toPy, bigD, PyData.shown]; exact Nat.le_refl _
  | .lst xs => by
    simp only [toPy, bigD, PyData.shown]
    have h1 := listText_len_le (PyData.shownAll (toPyL xs))
    have h2 := shownL_big xs
    omega
  | .tup xs => by
    simp only [toPy, bigD, PyData.shown]
    have h1 := tupleText_len_le (PyData.shownAll (toPyL xs))
    have h2 := shownL_big xs
    omega
  | .fro _ => by simp only [toPy, bigD]; decide
  | .kt _ => by simp only [toPy, bigD]; decide
  | .ref _ => by simp only [toPy, bigD]; decide
theorem shownL_big : ∀ xs : List D, ((PyData.shownAll (toPyL xs)).map (·.length)).sum + 2 * (PyData.shownAll (toPyL xs)).length ≤ bigL xs
  | [] => by simp [toPyL, PyData.shownAll, bigL]
  | x :: xs => by
    have h1 := shown_big x
    have h2 := shownL_big xs
    simp only [toPyL, PyData.shownAll, bigL, List.map_cons, List.sum_cons, List.length_cons]
    omega
end
/-- may be shown: at most so long, so deep -/
structure Fit (n k : Nat) (d : D) : Prop where
  good : goodD d = true
  show_ : (toPy d).showable = true
  dp : dpD d ≤ k
  big : bigD d ≤ n
theorem Fit.mono {n k n' k' : Nat} {d : D} (h : Fit n k d) (hn : n ≤ n') (hk : k ≤ k') : Fit n' k' d := ⟨h.good, h.show_, Nat.le_trans h.dp hk, Nat.le_trans h.big hn⟩
theorem Fit.repr {n k : Nat} {d : D} (h : Fit n k d) (hn : n ≤ 16777216) (hk : k ≤ 190) (M : Store) : reprD M [d] = some (.val (.str (toPy d).shown)) := by
  show (if shwD (derD M d) then some (Slot.val (D.str (toPy (derD M d)).shown)) else none) = _
  rw [der_good M h.good]
  have hs : shwD d = true := by
    unfold shwD
    simp only [Bool.and_eq_true, decide_eq_true_eq]
    refine ⟨⟨⟨h.good, h.show_⟩, Nat.le_trans h.dp hk⟩, ?_⟩
    rw [szL]
    exact Nat.le_trans (shown_big d) (Nat.le_trans h.big hn)
  rw [hs]
  rfl
structure FitL (n k : Nat) (ds : List D) : Prop where
  good : goodL ds = true
  show_ : PyData.showableAll (toPyL ds) = true
  dp : dpL ds ≤ k
  big : bigL ds ≤ n
theorem FitL.nil {k : Nat} : FitL 0 k [] := ⟨rfl, rfl, Nat.zero_le _, Nat.le_refl _⟩
theorem FitL.cons {n m k : Nat} {d : D} {ds : List D} (h : Fit n k d) (hs : FitL m k ds) : FitL (n + 2 + m) k (d :: ds) := by
  refine ⟨?_, ?_, ?_, ?_⟩
  · rw [goodL, h.good, hs.good]; rfl
  · simp only [toPyL, PyData.showableAll, h.show_, hs.show_]; rfl
  · have h1 := h.dp
    have h2 := hs.dp
    rw [dpL]; omega
  · have h1 := h.big
    have h2 := hs.big
    rw [bigL]; omega
theorem FitL.each {n k : Nat} : ∀ {ds : List D}, (∀ d ∈ ds, Fit n k d) → FitL (ds.length * (n + 2)) k ds
  | [], _ => ⟨rfl, rfl, Nat.zero_le _, by rw [List.length_nil, Nat.zero_mul]; exact Nat.le_refl _⟩
  | d :: ds, h => by
    have h1 := FitL.cons (h d List.mem_cons_self) (FitL.each fun x hx => h x (List.mem_cons_of_mem _ hx))
    rw [List.length_cons, Nat.succ_mul, Nat.add_comm]
    exact h1
theorem FitL.upto {n k c m : Nat} {ds : List D} (h : ∀ d ∈ ds, Fit n k d) (hl : ds.length ≤ c) (hm : c * (n + 2) ≤ m) : FitL m k ds := by
  have h1 := FitL.each h
  exact ⟨h1.good, h1.show_, h1.dp, Nat.le_trans h1.big (Nat.le_trans (Nat.mul_le_mul_right _ hl) hm)⟩
theorem FitL.mono {n k n' k' : Nat} {d : List D} (h : FitL n k d) (hn : n ≤ n') (hk : k ≤ k') : FitL n' k' d := ⟨h.good, h.show_, Nat.le_trans h.dp hk, Nat.le_trans h.big hn⟩
theorem FitL.tup {n k : Nat} {ds : List D} (h : FitL n k ds) : Fit (n + 3) (k + 1) (.tup ds) := by
  refine ⟨?_, ?_, ?_, ?_⟩
  · rw [goodD]; exact h.good
  · simp only [toPy, PyData.showable]; exact h.show_
  · have := h.dp; rw [dpD]; omega
  · have := h.big; rw [bigD]; omega
theorem FitL.lst {n k : Nat} {ds : List D} (h : FitL n k ds) : Fit (n + 3) (k + 1) (.lst ds) := by
  refine ⟨?_, ?_, ?_, ?_⟩
  · rw [goodD]; exact h.good
  · simp only [toPy, PyData.showable]; exact h.show_
  · have := h.dp; rw [dpD]; omega
  · have := h.big; rw [bigD]; omega
theorem Fit.non {k : Nat} : Fit 4 k .non := ⟨rfl, rfl, Nat.zero_le _, Nat.le_refl _⟩
theorem Fit.bl {k : Nat} {b : Bool} : Fit 5 k (.bl b) := ⟨rfl, rfl, Nat.zero_le _, Nat.le_refl _⟩
theorem Fit.int {k j : Nat} {i : Int} (hj : 0 < j) (hj2 : j ≤ 500) (h : i.natAbs < 10 ^ j) : Fit (j + 1) k (.int i) := by
  refine ⟨rfl, ?_, Nat.zero_le _, ?_⟩
  · simp only [toPy, PyData.showable, decide_eq_true_eq]
    have h1 : i.natAbs < 2 ^ 1920 := Nat.lt_of_lt_of_le h (Nat.le_trans (Nat.pow_le_pow_right (by decide) hj2) (by decide +kernel))
    by_cases h0 : i.natAbs = 0
    · rw [h0]; decide
    · exact (Nat.log2_lt h0).mpr h1
  · have := int_text_length_le10 hj h
    rw [bigD]
    have e : (Str.ofString (toString i)).length = (toString i).length := PySem.ofString_length _
    omega
/-- a name or a word -/
def nmB (n : Nat) (x : Str) : Bool := okStr x && decide ((reprText x).length ≤ n)
theorem Fit.str {n k : Nat} {x : Str} (h : nmB n x = true) : Fit n k (.str x) := by
  unfold nmB at h
  rw [Bool.and_eq_true, decide_eq_true_eq] at h
  exact ⟨h.1, rfl, Nat.zero_le _, h.2⟩
namespace Ex
mutual
/-- all its names are some, all its numbers are some -/
def Al (p : Str → Prop) (q : Int → Prop) : Ex → Prop
  | num n => q n
  | use x => p x
  | op s a b => p s ∧ Al p q a ∧ Al p q b
  | lt x a b => p x ∧ Al p q a ∧ Al p q b
  | ite a b c => Al p q a ∧ Al p q b ∧ Al p q c
  | times a i s b c => p i ∧ p s ∧ Al p q a ∧ Al p q b ∧ Al p q c
  | tell a b => Al p q a ∧ Al p q b
  | stop a => Al p q a
  | call m f as => p m ∧ p f ∧ Als p q as
def Als (p : Str → Prop) (q : Int → Prop) : List Ex → Prop
  | [] => True
  | e :: es => Al p q e ∧ Als p q es
end
mutual
theorem Wf.al {nm : Str → Prop} {ah : Str → Str → Nat → Prop} {p : Str → Prop} {q : Int → Prop} (h1 : ∀ x, nm x → p x) (h2 : ∀ m f k, ah m f k → p m ∧ p f) (h3 : ∀ s ∈ signs, p s) (h4 : ∀ n, -(10 ^ 30) ≤ n → n ≤ 10 ^ 30 → q n) : ∀ (e : Ex) (sc : List Str), (∀ x ∈ sc, p x) → Wf nm ah sc e → Al p q e
  | num n, sc, hs, h => by rw [Wf] at h; rw [Al]; exact h4 n h.1 h.2
  | use x, sc, hs, h => by rw [Wf] at h; rw [Al]; exact hs x h
  | op s a b, sc, hs, h => by rw [Wf] at h; rw [Al]; exact ⟨h3 s h.1, Wf.al h1 h2 h3 h4 a sc hs h.2.1, Wf.al h1 h2 h3 h4 b sc hs h.2.2⟩
  | lt x a b, sc, hs, h => by
    rw [Wf] at h; rw [Al]
    exact ⟨h1 x h.1, Wf.al h1 h2 h3 h4 a sc hs h.2.1, Wf.al h1 h2 h3 h4 b _ (fun y hy => by rcases List.mem_cons.mp hy with rfl | hy; exact h1 _ h.1; exact hs y hy) h.2.2⟩
  | ite a b c, sc, hs, h => by rw [Wf] at h; rw [Al]; exact ⟨Wf.al h1 h2 h3 h4 a sc hs h.1, Wf.al h1 h2 h3 h4 b sc hs h.2.1, Wf.al h1 h2 h3 h4 c sc hs h.2.2⟩
  | times a i s b c, sc, hs, h => by
    rw [Wf] at h; rw [Al]
    exact ⟨h1 i h.1, h1 s h.2.1, Wf.al h1 h2 h3 h4 a sc hs h.2.2.2.1, Wf.al h1 h2 h3 h4 b sc hs h.2.2.2.2.1, Wf.al h1 h2 h3 h4 c _ (fun y hy => by
      rcases List.mem_cons.mp hy with rfl | hy
      · exact h1 _ h.1
      · rcases List.mem_cons.mp hy with rfl | hy
        · exact h1 _ h.2.1
        · exact hs y hy) h.2.2.2.2.2⟩
  | tell a b, sc, hs, h => by rw [Wf] at h; rw [Al]; exact ⟨Wf.al h1 h2 h3 h4 a sc hs h.1, Wf.al h1 h2 h3 h4 b sc hs h.2⟩
  | stop a, sc, hs, h => by rw [Wf] at h; rw [Al]; exact Wf.al h1 h2 h3 h4 a sc hs h
  | call m f as, sc, hs, h => by rw [Wf] at h; rw [Al]; exact ⟨(h2 _ _ _ h.1).1, (h2 _ _ _ h.1).2, Wfs.al h1 h2 h3 h4 as sc hs h.2⟩
theorem Wfs.al {nm : Str → Prop} {ah : Str → Str → Nat → Prop} {p : Str → Prop} {q : Int → Prop} (h1 : ∀ x, nm x → p x) (h2 : ∀ m f k, ah m f k → p m ∧ p f) (h3 : ∀ s ∈ signs, p s) (h4 : ∀ n, -(10 ^ 30) ≤ n → n ≤ 10 ^ 30 → q n) : ∀ (es : List Ex) (sc : List Str), (∀ x ∈ sc, p x) → Wfs nm ah sc es → Als p q es
  | [], _, _, _ => by rw [Als]; trivial
  | e :: es, sc, hs, h => by rw [Wfs] at h; rw [Als]; exact ⟨Wf.al h1 h2 h3 h4 e sc hs h.1, Wfs.al h1 h2 h3 h4 es sc hs h.2⟩
end
theorem wNum : nmB 12 "num" = true := by decide +kernel
theorem wUse : nmB 12 "use" = true := by decide +kernel
theorem wOp : nmB 12 "op" = true := by decide +kernel
theorem wLet : nmB 12 "let" = true := by decide +kernel
theorem wIf : nmB 12 "if" = true := by decide +kernel
theorem wTimes : nmB 12 "times" = true := by decide +kernel
theorem wTell : nmB 12 "tell" = true := by decide +kernel
theorem wStop : nmB 12 "stop" = true := by decide +kernel
theorem wCall : nmB 12 "call" = true := by decide +kernel
theorem cnt_pos (e : Ex) : 1 ≤ cnt e := by rw [cnt_eq]; omega
mutual
theorem fit : ∀ (e : Ex), Al (fun x => nmB 12 x = true) (fun n => n.natAbs < 10 ^ 31) e → Fit (80 * cnt e - 2) (2 * dep e + 2) e.toD
  | num n, h => by
    rw [Al] at h; rw [toD, cnt, dep]
    exact ((FitL.cons (.str wNum) (.cons (.int (by decide) (by decide) h) .nil)).tup (k := 0)).mono (by decide) (by decide)
  | use x, h => by
    rw [Al] at h; rw [toD, cnt, dep]
    exact ((FitL.cons (.str wUse) (.cons (.str h) .nil)).tup (k := 0)).mono (by decide) (by decide)
  | op s a b, h => by
    rw [Al] at h; rw [toD, cnt, dep]
    have pa := cnt_pos a
    have pb := cnt_pos b
    have ha := (fit a h.2.1).mono (Nat.le_refl _) (show _ ≤ 2 * max (dep a) (dep b) + 2 by omega)
    have hb := (fit b h.2.2).mono (Nat.le_refl _) (show _ ≤ 2 * max (dep a) (dep b) + 2 by omega)
    exact (FitL.cons (.str wOp) (.cons (.str h.1) (.cons ha (.cons hb .nil)))).tup.mono (by omega) (by omega)
  | lt s a b, h => by
    rw [Al] at h; rw [toD, cnt, dep]
    have pa := cnt_pos a
    have pb := cnt_pos b
    have ha := (fit a h.2.1).mono (Nat.le_refl _) (show _ ≤ 2 * max (dep a) (dep b) + 2 by omega)
    have hb := (fit b h.2.2).mono (Nat.le_refl _) (show _ ≤ 2 * max (dep a) (dep b) + 2 by omega)
    exact (FitL.cons (.str wLet) (.cons (.str h.1) (.cons ha (.cons hb .nil)))).tup.mono (by omega) (by omega)
  | ite a b c, h => by
    rw [Al] at h; rw [toD, cnt, dep]
    have pa := cnt_pos a
    have pb := cnt_pos b
    have pc := cnt_pos c
    have ha := (fit a h.1).mono (Nat.le_refl _) (show _ ≤ 2 * max (dep a) (max (dep b) (dep c)) + 2 by omega)
    have hb := (fit b h.2.1).mono (Nat.le_refl _) (show _ ≤ 2 * max (dep a) (max (dep b) (dep c)) + 2 by omega)
    have hc := (fit c h.2.2).mono (Nat.le_refl _) (show _ ≤ 2 * max (dep a) (max (dep b) (dep c)) + 2 by omega)
    exact (FitL.cons (.str wIf) (.cons ha (.cons hb (.cons hc .nil)))).tup.mono (by omega) (by omega)
  | times a i s b c, h => by
    rw [Al] at h; rw [toD, cnt, dep]
    have pa := cnt_pos a
    have pb := cnt_pos b
    have pc := cnt_pos c
    have ha := (fit a h.2.2.1).mono (Nat.le_refl _) (show _ ≤ 2 * max (dep a) (max (dep b) (dep c)) + 2 by omega)
    have hb := (fit b h.2.2.2.1).mono (Nat.le_refl _) (show _ ≤ 2 * max (dep a) (max (dep b) (dep c)) + 2 by omega)
    have hc := (fit c h.2.2.2.2).mono (Nat.le_refl _) (show _ ≤ 2 * max (dep a) (max (dep b) (dep c)) + 2 by omega)
    exact (FitL.cons (.str wTimes) (.cons ha (.cons (.str h.1) (.cons (.str h.2.1) (.cons hb (.cons hc .nil)))))).tup.mono (by omega) (by omega)
  | tell a b, h => by
    rw [Al] at h; rw [toD, cnt, dep]
    have pa := cnt_pos a
    have pb := cnt_pos b
    have ha := (fit a h.1).mono (Nat.le_refl _) (show _ ≤ 2 * max (dep a) (dep b) + 2 by omega)
    have hb := (fit b h.2).mono (Nat.le_refl _) (show _ ≤ 2 * max (dep a) (dep b) + 2 by omega)
    exact (FitL.cons (.str wTell) (.cons ha (.cons hb .nil))).tup.mono (by omega) (by omega)
  | stop a, h => by
    rw [Al] at h; rw [toD, cnt, dep]
    have pa := cnt_pos a
    have ha := fit a h
    exact (FitL.cons (.str wStop) (.cons ha .nil)).tup.mono (by omega) (by omega)
  | call m f as, h => by
    rw [Al] at h; rw [toD, cnt, dep]
    have ha := (fits as h.2.2).tup
    exact (FitL.cons (.str wCall) (.cons (.str h.1) (.cons (.str h.2.1) (.cons ha .nil)))).tup.mono (by omega) (by omega)
theorem fits : ∀ (es : List Ex), Als (fun x => nmB 12 x = true) (fun n => n.natAbs < 10 ^ 31) es → FitL (80 * cnts es) (2 * deps es + 2) (toDs es)
  | [], _ => by rw [toDs, cnts, deps]; exact FitL.nil
  | e :: es, h => by
    rw [Als] at h; rw [toDs, cnts, deps]
    have h1 := (fit e h.1).mono (Nat.le_refl _) (show _ ≤ 2 * max (dep e) (deps es) + 2 by omega)
    have h2 := (fits es h.2).mono (Nat.le_refl _) (show _ ≤ 2 * max (dep e) (deps es) + 2 by omega)
    have hp := cnt_pos e
    exact (FitL.cons h1 h2).mono (by omega) (Nat.le_refl _)
end
end Ex
/-! ### drawn programs -/
theorem pools_nm : pools.all (fun p => p.all (nmB 12)) = true := by decide +kernel
theorem namesL_nm {n : Int} {x : Str} (h : x ∈ namesL n) : nmB 12 x = true := by
  unfold namesL at h
  obtain ⟨k, _, rfl⟩ := List.mem_map.mp h
  exact List.all_eq_true.mp (List.all_eq_true.mp pools_nm _ (pool_mem n).1) _ (nameAt_mem n k).1
theorem signs_nm : ∀ s ∈ signs, nmB 12 s = true := by decide +kernel
theorem RowWf.al {n : Int} {pre : List (Str × Row)} {x : Str × Row} (h : RowWf n pre x) (hp : ∀ y ∈ pre, y.1 ∈ namesL (n / 7) ∧ y.2.f ∈ namesL (n / 7)) : Ex.Al (fun x => nmB 12 x = true) (fun n => n.natAbs < 10 ^ 31) x.2.b :=
  Ex.Wf.al (fun _ => namesL_nm) (fun m f k ⟨y, hy, e1, e2, _⟩ => by subst e1 e2; exact ⟨namesL_nm (hp y hy).1, namesL_nm (hp y hy).2⟩) signs_nm (fun n h1 h2 => by omega) x.2.b x.2.ps (fun y hy => namesL_nm (h.ps y hy)) h.wf
theorem strs_fit {k : Nat} {xs : List Str} (h : ∀ x ∈ xs, nmB 12 x = true) : FitL (xs.length * 14) k (xs.map D.str) := by
  have := FitL.each (n := 12) (k := k) (ds := xs.map D.str) fun d hd => by
    obtain ⟨x, hx, rfl⟩ := List.mem_map.mp hd
    exact .str (h x hx)
  rw [List.length_map] at this
  exact this
/-- a function that may be shown -/
structure RowFit (x : Str × Row) : Prop where
  row : Fit 622300 13 x.2.toD
  fn : Fit 622320 13 (fnD x)
  body : Fit 622080 12 x.2.b.toD
theorem rowFit {x : Str × Row} (hm : nmB 12 x.1 = true) (hf : nmB 12 x.2.f = true) (hp : ∀ y ∈ x.2.ps, nmB 12 y = true) (hl : x.2.ps.length ≤ 5) (hd : x.2.b.dep ≤ 5) (hc : x.2.b.cnt ≤ 7776) (ha : Ex.Al (fun x => nmB 12 x = true) (fun n => n.natAbs < 10 ^ 31) x.2.b) : RowFit x := by
  have hb : Fit 622078 12 x.2.b.toD := (Ex.fit x.2.b ha).mono (by omega) (by omega)
  have hps : Fit 73 12 (.tup (x.2.ps.map D.str)) := ((strs_fit (k := 0) hp).tup).mono (by omega) (by omega)
  exact ⟨(FitL.cons (.str hf) (.cons hps (.cons hb .nil))).tup.mono (by omega) (by omega), (FitL.cons (.str hm) (.cons (.str hf) (.cons hps (.cons hb .nil)))).tup.mono (by omega) (by omega), hb.mono (by omega) (by omega)⟩
theorem RowsWf.names {n : Int} : ∀ {xs pre : List (Str × Row)}, RowsWf n pre xs → ∀ x ∈ xs, x.1 ∈ namesL (n / 7) ∧ x.2.f ∈ namesL (n / 7)
  | y :: xs, pre, h, x, hx => by
    rcases List.mem_cons.mp hx with rfl | hx
    · exact ⟨h.1.m, h.1.f⟩
    · exact RowsWf.names h.2 x hx
theorem RowsWf.fit {n : Int} {xs : List (Str × Row)} (h : RowsWf n [] xs) : ∀ x ∈ xs, RowFit x := fun x hx => by
  have hr := h.mem hx
  rw [List.nil_append] at hr
  have hn := h.names x hx
  exact rowFit (namesL_nm hn.1) (namesL_nm hn.2) (fun y hy => namesL_nm (hr.ps y hy)) (by have := hr.len; omega) hr.dep hr.cnt (hr.al h.names)
/-- a program that may be shown: at most n functions in all, each within so much -/
theorem rooms_fit {n k : Nat} : ∀ {P : Pr}, (∀ q ∈ P, nmB 12 q.1 = true ∧ ∀ r ∈ q.2, Fit n k r.toD) → FitL ((flat P).length * (n + 2) + P.length * 24) (k + 2) (P.map rmD)
  | [], _ => ⟨rfl, rfl, Nat.zero_le _, Nat.zero_le _⟩
  | (m, rs) :: P, h => by
    have h1 := h (m, rs) List.mem_cons_self
    have h2 : FitL (rs.length * (n + 2)) k (rs.map Row.toD) := by
      have := FitL.each (n := n) (k := k) (ds := rs.map Row.toD) fun d hd => by
        obtain ⟨r, hr, rfl⟩ := List.mem_map.mp hd
        exact h1.2 r hr
      rw [List.length_map] at this
      exact this
    have h3 : Fit (rs.length * (n + 2) + 22) (k + 2) (rmD (m, rs)) := (FitL.cons (.str h1.1) (.cons h2.tup .nil)).tup.mono (by omega) (by omega)
    have h4 := rooms_fit (P := P) fun q hq => h q (List.mem_cons_of_mem _ hq)
    rw [List.map_cons, flat, List.length_append, List.length_map, List.length_cons, Nat.add_mul]
    exact (FitL.cons h3 h4).mono (by omega) (Nat.le_refl _)
theorem pg_fit {n k j : Nat} {P : Pr} (hl : (flat P).length ≤ k) (hP : P.length ≤ 8) (h : ∀ q ∈ P, nmB 12 q.1 = true ∧ ∀ r ∈ q.2, Fit n j r.toD) : Fit (k * (n + 2) + 200) (j + 3) (pgD P) := by
  have h1 := (rooms_fit h).tup
  have h2 : (flat P).length * (n + 2) ≤ k * (n + 2) := Nat.mul_le_mul_right _ hl
  exact h1.mono (by omega) (Nat.le_refl _)
end TP
set_option maxHeartbeats 4000000
namespace K46
open PySem L2 TP
def topS (i : Nat) : Stmt := PySem.Challenge.pw_turnpaper_k46_programs_written.main.body.getD i (.Pass ⟨0, 0, 0, 0⟩)
def k_LEVELS : List (Str × D) := [("=", (.int (1))), ("<", (.int (1))), ("+", (.int (2))), ("-", (.int (2))), ("*", (.int (3))), ("/", (.int (3))), ("&", (.int (3)))]
def k_FREE : D := (.kt [(.str "let"), (.str "if"), (.str "times"), (.str "tell"), (.str "stop")])
abbrev f_level_of : Nat := 0
abbrev s_level_of : Stmt := topS 5
theorem sc_level_of : FnScope ["expression"] ["expression"] (defScope s_level_of) := ⟨rfl, rfl, rfl, by decide +kernel, rfl, by decide +kernel, by decide +kernel⟩
abbrev f_side_text : Nat := 1
abbrev s_side_text : Stmt := topS 6
theorem sc_side_text : FnScope ["m", "expression", "level", "text"] ["m", "expression", "level"] (defScope s_side_text) := ⟨rfl, rfl, rfl, by decide +kernel, rfl, by decide +kernel, by decide +kernel⟩
abbrev f_call_text : Nat := 2
abbrev s_call_text : Stmt := topS 7
theorem sc_call_text : FnScope ["m", "expression", "name", "one"] ["m", "expression"] (defScope s_call_text) := ⟨rfl, rfl, rfl, by decide +kernel, rfl, by decide +kernel, by decide +kernel⟩
abbrev f_sign_text : Nat := 3
abbrev s_sign_text : Stmt := topS 8
theorem sc_sign_text : FnScope ["m", "expression", "level", "left", "sign", "one", "other"] ["m", "expression"] (defScope s_sign_text) := ⟨rfl, rfl, rfl, by decide +kernel, rfl, by decide +kernel, by decide +kernel⟩
abbrev f_expression_text : Nat := 4
abbrev s_expression_text : Stmt := topS 9
theorem sc_expression_text : FnScope ["m", "expression", "word", "texts", "many", "total", "body", "part", "spot"] ["m", "expression"] (defScope s_expression_text) := ⟨rfl, rfl, rfl, by decide +kernel, rfl, by decide +kernel, by decide +kernel⟩
abbrev f_text_of : Nat := 5
abbrev s_text_of : Stmt := topS 10
theorem sc_text_of : FnScope ["program", "lines", "m", "rows", "f", "params", "body"] ["program"] (defScope s_text_of) := ⟨rfl, rfl, rfl, by decide +kernel, rfl, by decide +kernel, by decide +kernel⟩
abbrev f__law_cell : Nat := 6
abbrev s__law_cell : Stmt := topS 12
theorem sc__law_cell : FnScope ["_law_cells", "_law_spot", "_law_k", "_law_base", "_law_own", "_law_turn"] ["_law_cells", "_law_spot"] (defScope s__law_cell) := ⟨rfl, rfl, rfl, by decide +kernel, rfl, by decide +kernel, by decide +kernel⟩
abbrev f__law_names : Nat := 7
abbrev s__law_names : Stmt := topS 13
theorem sc__law_names : FnScope ["_law_n", "_law_letters", "_law_some", "_law_words", "_law_k", "_law_sign"] ["_law_n"] (defScope s__law_names) := ⟨rfl, rfl, rfl, by decide +kernel, rfl, by decide +kernel, by decide +kernel⟩
abbrev f__law_number : Nat := 8
abbrev s__law_number : Stmt := topS 14
theorem sc__law_number : FnScope ["_law_n"] ["_law_n"] (defScope s__law_number) := ⟨rfl, rfl, rfl, by decide +kernel, rfl, by decide +kernel, by decide +kernel⟩
abbrev f__law_leaf : Nat := 9
abbrev s__law_leaf : Stmt := topS 15
theorem sc__law_leaf : FnScope ["_law_at", "_law_scope", "_law_n"] ["_law_at", "_law_scope", "_law_n"] (defScope s__law_leaf) := ⟨rfl, rfl, rfl, by decide +kernel, rfl, by decide +kernel, by decide +kernel⟩
abbrev f__law_op : Nat := 10
abbrev s__law_op : Stmt := topS 16
theorem sc__law_op : FnScope ["_law_cells", "_law_spot", "_law_at", "_law_scope", "_law_deep", "_law_n", "_law_sign", "_law_one"] ["_law_cells", "_law_spot", "_law_at", "_law_scope", "_law_deep", "_law_n"] (defScope s__law_op) := ⟨rfl, rfl, rfl, by decide +kernel, rfl, by decide +kernel, by decide +kernel⟩
abbrev f__law_times : Nat := 11
abbrev s__law_times : Stmt := topS 17
theorem sc__law_times : FnScope ["_law_cells", "_law_spot", "_law_at", "_law_scope", "_law_deep", "_law_n", "_law_names_here", "_law_second", "_law_many", "_law_one", "_law_inner", "_law_other", "_law_first", "_law_behind", "_law_name"] ["_law_cells", "_law_spot", "_law_at", "_law_scope", "_law_deep", "_law_n"] (defScope s__law_times) := ⟨rfl, rfl, rfl, by decide +kernel, rfl, by decide +kernel, by decide +kernel⟩
abbrev f__law_call : Nat := 12
abbrev s__law_call : Stmt := topS 18
theorem sc__law_call : FnScope ["_law_cells", "_law_spot", "_law_at", "_law_scope", "_law_deep", "_law_n", "_law_some", "_law_m", "_law_f", "_law_many", "_law_calm", "_law_row", "_law_k"] ["_law_cells", "_law_spot", "_law_at", "_law_scope", "_law_deep", "_law_n"] (defScope s__law_call) := ⟨rfl, rfl, rfl, by decide +kernel, rfl, by decide +kernel, by decide +kernel⟩
abbrev f__law_expression : Nat := 13
abbrev s__law_expression : Stmt := topS 19
theorem sc__law_expression : FnScope ["_law_cells", "_law_spot", "_law_at", "_law_scope", "_law_deep", "_law_n", "_law_way", "_law_more", "_law_name", "_law_one", "_law_inner", "_law_other", "_law_k"] ["_law_cells", "_law_spot", "_law_at", "_law_scope", "_law_deep"] (defScope s__law_expression) := ⟨rfl, rfl, rfl, by decide +kernel, rfl, by decide +kernel, by decide +kernel⟩
abbrev f__law_level : Nat := 14
abbrev s__law_level : Stmt := topS 20
theorem sc__law_level : FnScope ["_law_e"] ["_law_e"] (defScope s__law_level) := ⟨rfl, rfl, rfl, by decide +kernel, rfl, by decide +kernel, by decide +kernel⟩
abbrev f__law_side : Nat := 15
abbrev s__law_side : Stmt := topS 21
theorem sc__law_side : FnScope ["_law_m", "_law_e", "_law_least", "_law_more", "_law_text_here"] ["_law_m", "_law_e", "_law_least", "_law_more"] (defScope s__law_side) := ⟨rfl, rfl, rfl, by decide +kernel, rfl, by decide +kernel, by decide +kernel⟩
abbrev f__law_free_text : Nat := 16
abbrev s__law_free_text : Stmt := topS 22
theorem sc__law_free_text : FnScope ["_law_m", "_law_e", "_law_more", "_law_text_here"] ["_law_m", "_law_e", "_law_more"] (defScope s__law_free_text) := ⟨rfl, rfl, rfl, by decide +kernel, rfl, by decide +kernel, by decide +kernel⟩
abbrev f__law_text : Nat := 17
abbrev s__law_text : Stmt := topS 23
theorem sc__law_text : FnScope ["_law_m", "_law_e", "_law_more", "_law_texts", "_law_words", "_law_own", "_law_left", "_law_is_far", "_law_args", "_law_one", "_law_word", "_law_text_here"] ["_law_m", "_law_e", "_law_more"] (defScope s__law_text) := ⟨rfl, rfl, rfl, by decide +kernel, rfl, by decide +kernel, by decide +kernel⟩
abbrev f__law_program_text : Nat := 18
abbrev s__law_program_text : Stmt := topS 24
theorem sc__law_program_text : FnScope ["_law_program", "_law_more", "_law_lines", "_law_m", "_law_room", "_law_f", "_law_params", "_law_body"] ["_law_program", "_law_more"] (defScope s__law_program_text) := ⟨rfl, rfl, rfl, by decide +kernel, rfl, by decide +kernel, by decide +kernel⟩
abbrev f__law_sided : Nat := 19
abbrev s__law_sided : Stmt := topS 25
theorem sc__law_sided : FnScope ["_law_cells", "_law_spot", "_law_at", "_law_scope", "_law_deep", "_law_n", "_law_one", "_law_other", "_law_k"] ["_law_cells", "_law_spot", "_law_at", "_law_scope", "_law_deep"] (defScope s__law_sided) := ⟨rfl, rfl, rfl, by decide +kernel, rfl, by decide +kernel, by decide +kernel⟩
abbrev f__law_chain : Nat := 20
abbrev s__law_chain : Stmt := topS 26
theorem sc__law_chain : FnScope ["_law_cells", "_law_spot", "_law_at", "_law_scope", "_law_many", "_law_found", "_law_turn", "_law_n", "_law_some", "_law_leaf_here", "_law_sign", "_law_name"] ["_law_cells", "_law_spot", "_law_at", "_law_scope", "_law_many"] (defScope s__law_chain) := ⟨rfl, rfl, rfl, by decide +kernel, rfl, by decide +kernel, by decide +kernel⟩
abbrev f__law_full : Nat := 21
abbrev s__law_full : Stmt := topS 27
theorem sc__law_full : FnScope ["_law_n", "_law_names_here", "_law_modules", "_law_i", "_law_m", "_law_room", "_law_j", "_law_f", "_law_body"] ["_law_n"] (defScope s__law_full) := ⟨rfl, rfl, rfl, by decide +kernel, rfl, by decide +kernel, by decide +kernel⟩
abbrev f__law_sided_program : Nat := 22
abbrev s__law_sided_program : Stmt := topS 28
theorem sc__law_sided_program : FnScope ["_law_cells", "_law_spot", "_law_n", "_law_ahead", "_law_modules", "_law_k", "_law_names_here", "_law_rooms", "_law_room", "_law_j", "_law_more", "_law_params", "_law_at", "_law_name", "_law_body", "_law_i"] ["_law_cells", "_law_spot"] (defScope s__law_sided_program) := ⟨rfl, rfl, rfl, by decide +kernel, rfl, by decide +kernel, by decide +kernel⟩
abbrev f_law : Nat := 23
abbrev s_law : Stmt := topS 29
theorem sc_law : FnScope ["_law_script", "_law_spot", "_law_k", "_law_program", "_law_turn", "_law_m", "_law_room", "_law_f", "_law_params", "_law_body"] ["_law_script"] (defScope s_law) := ⟨rfl, rfl, rfl, by decide +kernel, rfl, by decide +kernel, by decide +kernel⟩
def m_level_of (Φ : Nat → Fn) : FS := (sSeq (sIf (dBo (dOp2 inD (dEF (dOp2 idxD (dVarB 0) (dC (.int 0)))) (dC k_FREE))) (sSeq (sRet (dFE (dC (.int 0)))) sNil) sNil) (sSeq (sRet (dIf (dBo (dOp2 eqD (dEF (dOp2 idxD (dVarB 0) (dC (.int 0)))) (dC (.str "op")))) (dFE (dTab k_LEVELS (dEF (dOp2 idxD (dVarB 0) (dC (.int 1)))))) (dFE (dC (.int 4))))) sNil))
def m_side_text (Φ : Nat → Fn) : FS := (sSeq (sSet 3 (dFE (dEF (dCall 2 (Φ f_expression_text) (dCons (dVar 0) (dCons (dVar 1) dNil)))))) (sSeq (sRet (dIf (dBo (dOp2 (cmpD fun i j => decide (i < j)) (dEF (dCall 1 (Φ f_level_of) (dCons (dVar 1) dNil))) (dVarB 2))) (dOp2 addD (dEF (dOp2 addD (dC (.str "(")) (dVarB 3))) (dC (.str ")"))) (dFE (dVar 3)))) sNil))
def el_call_text_0 (Φ : Nat → Fn) : FD := (dEF (dCall 2 (Φ f_expression_text) (dCons (dVar 0) (dCons (dVar 3) dNil))))
theorem el_call_text_0_eq (Φ : Nat → Fn) (ρ : EnvD) (M : Store) : el_call_text_0 Φ ρ M = (dEF (dCall 2 (Φ f_expression_text) (dCons (dVar 0) (dCons (dVar 3) dNil)))) ρ M := rfl
def m_call_text (Φ : Nat → Fn) : FS := (sSeq (sSet 2 (dFE (dEF (dIf (dBo (dOp2 eqD (dEF (dOp2 idxD (dVarB 1) (dC (.int 1)))) (dVarB 0))) (dOp2 idxD (dVarB 1) (dC (.int 2))) (dOp2 addD (dEF (dOp2 addD (dEF (dOp2 idxD (dVarB 1) (dC (.int 1)))) (dC (.str ".")))) (dEF (dOp2 idxD (dVarB 1) (dC (.int 2))))))))) (sSeq (sRet (dOp2 addD (dEF (dOp2 addD (dEF (dOp2 addD (dVarB 2) (dC (.str "(")))) (dEF (dMeth "str" joinD (dC (.str ", ")) (dCons (dEF (dLc (dIt (dEF (dOp2 idxD (dVarB 1) (dC (.int 3))))) (bName 3) dYes (el_call_text_0 Φ) [3])) dNil))))) (dC (.str ")")))) sNil))
def m_sign_text (Φ : Nat → Fn) : FS := (sSeq (sAsg (bTup [4, 5, 6]) (dEF (dSl slD (dVarB 1) (dSo (dC (.int 1))) dNo))) (sSeq (sSet 2 (dFE (dTab k_LEVELS (dVarB 4)))) (sSeq (sSet 3 (dFE (dEF (dCall 3 (Φ f_side_text) (dCons (dVar 0) (dCons (dVar 5) (dCons (dEF (dOp2 addD (dVarB 2) (dEF (dPr intD (dCons (dEF (dOp2 eqD (dVarB 2) (dC (.int 1)))) dNil))))) dNil))))))) (sSeq (sRet (dOp2 addD (dEF (dOp2 addD (dEF (dOp2 addD (dEF (dOp2 addD (dVarB 3) (dC (.str " ")))) (dVarB 4))) (dC (.str " ")))) (dEF (dCall 3 (Φ f_side_text) (dCons (dVar 0) (dCons (dVar 6) (dCons (dEF (dOp2 addD (dVarB 2) (dC (.int 1)))) dNil))))))) sNil))))
def el_expression_text_0 (Φ : Nat → Fn) : FD := (dEF (dCall 2 (Φ f_expression_text) (dCons (dVar 0) (dCons (dEF (dOp2 idxD (dVarB 1) (dVarB 8))) dNil))))
theorem el_expression_text_0_eq (Φ : Nat → Fn) (ρ : EnvD) (M : Store) : el_expression_text_0 Φ ρ M = (dEF (dCall 2 (Φ f_expression_text) (dCons (dVar 0) (dCons (dEF (dOp2 idxD (dVarB 1) (dVarB 8))) dNil)))) ρ M := rfl
def el_expression_text_1 (Φ : Nat → Fn) : FD := (dEF (dCall 2 (Φ f_expression_text) (dCons (dVar 0) (dCons (dVar 7) dNil))))
theorem el_expression_text_1_eq (Φ : Nat → Fn) (ρ : EnvD) (M : Store) : el_expression_text_1 Φ ρ M = (dEF (dCall 2 (Φ f_expression_text) (dCons (dVar 0) (dCons (dVar 7) dNil)))) ρ M := rfl
def m_expression_text (Φ : Nat → Fn) : FS := (sSeq (sSet 2 (dFE (dEF (dOp2 idxD (dVarB 1) (dC (.int 0)))))) (sSeq (sIf (dBo (dOp2 inD (dVarB 2) (dTup (dCons (dC (.str "num")) (dCons (dC (.str "use")) dNil))))) (sSeq (sRet (dPr strD (dCons (dEF (dOp2 idxD (dVarB 1) (dC (.int 1)))) dNil))) sNil) sNil) (sSeq (sIf (dBo (dOp2 eqD (dVarB 2) (dC (.str "op")))) (sSeq (sRet (dCall 2 (Φ f_sign_text) (dCons (dVar 0) (dCons (dVar 1) dNil)))) sNil) sNil) (sSeq (sIf (dBo (dOp2 eqD (dVarB 2) (dC (.str "call")))) (sSeq (sRet (dCall 2 (Φ f_call_text) (dCons (dVar 0) (dCons (dVar 1) dNil)))) sNil) sNil) (sSeq (sIf (dBo (dOp2 eqD (dVarB 2) (dC (.str "times")))) (sSeq (sAsg (bLst [4, 5, 6]) (dEF (dLc (dIt (dTup (dCons (dC (.int 1)) (dCons (dC (.int 4)) (dCons (dC (.int 5)) dNil))))) (bName 8) dYes (el_expression_text_0 Φ) [8]))) (sSeq (sRet (dOp2 addD (dEF (dOp2 addD (dEF (dOp2 addD (dEF (dOp2 addD (dEF (dOp2 addD (dEF (dOp2 addD (dEF (dOp2 addD (dEF (dOp2 addD (dEF (dOp2 addD (dC (.str "times ")) (dVarB 4))) (dC (.str " as ")))) (dEF (dOp2 idxD (dVarB 1) (dC (.int 2)))))) (dC (.str ", ")))) (dEF (dOp2 idxD (dVarB 1) (dC (.int 3)))))) (dC (.str " from ")))) (dVarB 5))) (dC (.str " do ")))) (dVarB 6))) sNil)) sNil) (sSeq (sSet 3 (dLc (dIt (dEF (dSl slD (dVarB 1) (dSo (dEF (dOp2 addD (dC (.int 1)) (dEF (dPr intD (dCons (dEF (dOp2 eqD (dVarB 2) (dC (.str "let")))) dNil)))))) dNo))) (bName 7) dYes (el_expression_text_1 Φ) [7])) (sSeq (sIf (dBo (dOp2 eqD (dVarB 2) (dC (.str "let")))) (sSeq (sRet (dOp2 addD (dEF (dOp2 addD (dEF (dOp2 addD (dEF (dOp2 addD (dEF (dOp2 addD (dC (.str "let ")) (dEF (dOp2 idxD (dVarB 1) (dC (.int 1)))))) (dC (.str " = ")))) (dEF (dOp2 idxD (dVarB 3) (dC (.int 0)))))) (dC (.str " in ")))) (dEF (dOp2 idxD (dVarB 3) (dC (.int 1)))))) sNil) sNil) (sSeq (sIf (dBo (dOp2 eqD (dVarB 2) (dC (.str "if")))) (sSeq (sRet (dOp2 addD (dEF (dOp2 addD (dEF (dOp2 addD (dEF (dOp2 addD (dEF (dOp2 addD (dC (.str "if ")) (dEF (dOp2 idxD (dVarB 3) (dC (.int 0)))))) (dC (.str " then ")))) (dEF (dOp2 idxD (dVarB 3) (dC (.int 1)))))) (dC (.str " else ")))) (dEF (dOp2 idxD (dVarB 3) (dC (.int 2)))))) sNil) sNil) (sSeq (sRet (dIf (dBo (dOp2 eqD (dVarB 2) (dC (.str "tell")))) (dOp2 addD (dEF (dOp2 addD (dEF (dOp2 addD (dC (.str "tell ")) (dEF (dOp2 idxD (dVarB 3) (dC (.int 0)))))) (dC (.str " in ")))) (dEF (dOp2 idxD (dVarB 3) (dC (.int 1))))) (dOp2 addD (dC (.str "stop ")) (dEF (dOp2 idxD (dVarB 3) (dC (.int 0))))))) sNil)))))))))
def lp_text_of_0 (Φ : Nat → Fn) : FS := (sSeq (sApp 1 (dEF (dOp2 addD (dEF (dOp2 addD (dEF (dOp2 addD (dEF (dOp2 addD (dEF (dOp2 addD (dC (.str "def ")) (dVarB 4))) (dC (.str "(")))) (dEF (dMeth "str" joinD (dC (.str ", ")) (dCons (dVarB 5) dNil))))) (dC (.str ") = ")))) (dEF (dCall 2 (Φ f_expression_text) (dCons (dVar 2) (dCons (dVar 6) dNil))))))) sNil)
theorem lp_text_of_0_eq (Φ : Nat → Fn) (ρ : EnvD) (M : Store) : lp_text_of_0 Φ ρ M = (sSeq (sApp 1 (dEF (dOp2 addD (dEF (dOp2 addD (dEF (dOp2 addD (dEF (dOp2 addD (dEF (dOp2 addD (dC (.str "def ")) (dVarB 4))) (dC (.str "(")))) (dEF (dMeth "str" joinD (dC (.str ", ")) (dCons (dVarB 5) dNil))))) (dC (.str ") = ")))) (dEF (dCall 2 (Φ f_expression_text) (dCons (dVar 2) (dCons (dVar 6) dNil))))))) sNil) ρ M := rfl
def lp_text_of_1 (Φ : Nat → Fn) : FS := (sSeq (sApp 1 (dEF (dOp2 addD (dC (.str "module ")) (dVarB 2)))) (sSeq (sFor (dIt (dVar 3)) (bTup [4, 5, 6]) (lp_text_of_0 Φ)) sNil))
theorem lp_text_of_1_eq (Φ : Nat → Fn) (ρ : EnvD) (M : Store) : lp_text_of_1 Φ ρ M = (sSeq (sApp 1 (dEF (dOp2 addD (dC (.str "module ")) (dVarB 2)))) (sSeq (sFor (dIt (dVar 3)) (bTup [4, 5, 6]) (lp_text_of_0 Φ)) sNil)) ρ M := rfl
def m_text_of (Φ : Nat → Fn) : FS := (sSeq (sSet 1 (dLst dNil)) (sSeq (sFor (dIt (dVar 0)) (bTup [2, 3]) (lp_text_of_1 Φ)) (sSeq (sRet (dMeth "str" joinD (dC (.str "\n")) (dCons (dVarB 1) dNil))) sNil)))
def lp__law_cell_0 (Φ : Nat → Fn) : FS := (sSeq (sSet 4 (dFE (dEF (dOp2 fdivD (dVarB 4) (dC (.int 306783379)))))) sNil)
theorem lp__law_cell_0_eq (Φ : Nat → Fn) (ρ : EnvD) (M : Store) : lp__law_cell_0 Φ ρ M = (sSeq (sSet 4 (dFE (dEF (dOp2 fdivD (dVarB 4) (dC (.int 306783379)))))) sNil) ρ M := rfl
def m__law_cell (Φ : Nat → Fn) : FS := (sSeq (sPutR (dEF (dOp2 addD (dEF (dOp2 idxD (dVarB 1) (dC (.int 0)))) (dC (.int 1)))) (dVarB 1) (dC (.int 0))) (sSeq (sSet 2 (dFE (dEF (dOp2 idxD (dVarB 1) (dC (.int 0)))))) (sSeq (sSet 3 (dFE (dEF (dOp2 addD (dEF (dOp2 mulD (dEF (dOp2 mulD (dC (.int 31)) (dVarB 2))) (dVarB 2))) (dEF (dOp2 mulD (dC (.int 7919)) (dVarB 2))))))) (sSeq (sIf (dAnd (dBo (dOp2 (cmpD fun i j => decide (j < i)) (dEF (dPr lenD (dCons (dVarB 0) dNil))) (dC (.int 0)))) (dAnd (dBo (dOp2 (cmpD fun i j => decide (j ≤ i)) (dEF (dOp2 idxD (dVarB 0) (dEF (dOp2 modD (dVarB 2) (dEF (dPr lenD (dCons (dVarB 0) dNil))))))) (dEF (dOp2 powD (dC (.int 10)) (dC (.int 18)))))) (dBo (dOp2 (cmpD fun i j => decide (i < j)) (dEF (dOp2 fdivD (dVarB 2) (dEF (dPr lenD (dCons (dVarB 0) dNil))))) (dC (.int 60)))))) (sSeq (sSet 4 (dFE (dEF (dOp2 idxD (dVarB 0) (dEF (dOp2 modD (dVarB 2) (dEF (dPr lenD (dCons (dVarB 0) dNil))))))))) (sSeq (sFor (dRng1 (dCons (dEF (dOp2 fdivD (dVarB 2) (dEF (dPr lenD (dCons (dVarB 0) dNil))))) dNil)) (bName 5) (lp__law_cell_0 Φ)) (sSeq (sIf (dBo (dOp2 (cmpD fun i j => decide (j < i)) (dVarB 4) (dC (.int 0)))) (sSeq (sRet (dOp2 modD (dVarB 4) (dC (.int 306783379)))) sNil) sNil) sNil))) sNil) (sSeq (sIf (dBo (dOp2 (cmpD fun i j => decide (j < i)) (dEF (dPr lenD (dCons (dVarB 0) dNil))) (dC (.int 0)))) (sSeq (sSet 3 (dFE (dEF (dOp2 addD (dVarB 3) (dEF (dOp2 mulD (dEF (dOp2 modD (dEF (dOp2 idxD (dVarB 0) (dEF (dOp2 modD (dVarB 2) (dEF (dPr lenD (dCons (dVarB 0) dNil))))))) (dC (.int 2147483629)))) (dEF (dOp2 addD (dC (.int 1)) (dEF (dOp2 fdivD (dVarB 2) (dEF (dPr lenD (dCons (dVarB 0) dNil))))))))))))) sNil) sNil) (sSeq (sRet (dOp2 fdivD (dEF (dOp2 modD (dEF (dOp2 mulD (dEF (dOp2 modD (dEF (dOp2 mulD (dVarB 3) (dC (.int 48271)))) (dC (.int 2147483647)))) (dC (.int 69621)))) (dC (.int 2147483629)))) (dC (.int 7)))) sNil))))))
def el__law_names_0 (Φ : Nat → Fn) : FD := (dEF (dOp2 idxD (dC (.str "abcdefghijklmnopqrstuvwxyz")) (dEF (dOp2 modD (dEF (dOp2 addD (dEF (dOp2 fdivD (dVarB 0) (dC (.int 1536)))) (dEF (dOp2 mulD (dC (.int 5)) (dVarB 4))))) (dC (.int 26))))))
theorem el__law_names_0_eq (Φ : Nat → Fn) (ρ : EnvD) (M : Store) : el__law_names_0 Φ ρ M = (dEF (dOp2 idxD (dC (.str "abcdefghijklmnopqrstuvwxyz")) (dEF (dOp2 modD (dEF (dOp2 addD (dEF (dOp2 fdivD (dVarB 0) (dC (.int 1536)))) (dEF (dOp2 mulD (dC (.int 5)) (dVarB 4))))) (dC (.int 26)))))) ρ M := rfl
def el__law_names_1 (Φ : Nat → Fn) : FD := (dEF (dOp2 addD (dEF (dOp2 addD (dC (.str "n")) (dVarB 5))) (dC (.str "or"))))
theorem el__law_names_1_eq (Φ : Nat → Fn) (ρ : EnvD) (M : Store) : el__law_names_1 Φ ρ M = (dEF (dOp2 addD (dEF (dOp2 addD (dC (.str "n")) (dVarB 5))) (dC (.str "or")))) ρ M := rfl
def el__law_names_2 (Φ : Nat → Fn) : FD := (dVar 5)
theorem el__law_names_2_eq (Φ : Nat → Fn) (ρ : EnvD) (M : Store) : el__law_names_2 Φ ρ M = (dVar 5) ρ M := rfl
def el__law_names_3 (Φ : Nat → Fn) : FD := (dEF (dSl slD (dC (.str "graphite")) dNo (dSo (dEF (dOp2 addD (dVarB 4) (dC (.int 1)))))))
theorem el__law_names_3_eq (Φ : Nat → Fn) (ρ : EnvD) (M : Store) : el__law_names_3 Φ ρ M = (dEF (dSl slD (dC (.str "graphite")) dNo (dSo (dEF (dOp2 addD (dVarB 4) (dC (.int 1))))))) ρ M := rfl
def el__law_names_4 (Φ : Nat → Fn) : FD := (dEF (dSl slD (dC (.str "sandwich")) dNo (dSo (dEF (dOp2 addD (dVarB 4) (dC (.int 1)))))))
theorem el__law_names_4_eq (Φ : Nat → Fn) (ρ : EnvD) (M : Store) : el__law_names_4 Φ ρ M = (dEF (dSl slD (dC (.str "sandwich")) dNo (dSo (dEF (dOp2 addD (dVarB 4) (dC (.int 1))))))) ρ M := rfl
def el__law_names_5 (Φ : Nat → Fn) : FD := (dEF (dOp2 idxD (dVarB 2) (dEF (dOp2 modD (dEF (dOp2 addD (dEF (dOp2 fdivD (dVarB 0) (dC (.int 3)))) (dEF (dOp2 mulD (dEF (dOp2 addD (dEF (dOp2 mulD (dC (.int 2)) (dEF (dOp2 modD (dEF (dOp2 fdivD (dVarB 0) (dC (.int 48)))) (dC (.int 8)))))) (dC (.int 1)))) (dVarB 4))))) (dC (.int 16))))))
theorem el__law_names_5_eq (Φ : Nat → Fn) (ρ : EnvD) (M : Store) : el__law_names_5 Φ ρ M = (dEF (dOp2 idxD (dVarB 2) (dEF (dOp2 modD (dEF (dOp2 addD (dEF (dOp2 fdivD (dVarB 0) (dC (.int 3)))) (dEF (dOp2 mulD (dEF (dOp2 addD (dEF (dOp2 mulD (dC (.int 2)) (dEF (dOp2 modD (dEF (dOp2 fdivD (dVarB 0) (dC (.int 48)))) (dC (.int 8)))))) (dC (.int 1)))) (dVarB 4))))) (dC (.int 16)))))) ρ M := rfl
def m__law_names (Φ : Nat → Fn) : FS := (sSeq (sSet 1 (dLc (dRng1 (dCons (dC (.int 16)) dNil)) (bName 4) dYes (el__law_names_0 Φ) [4])) (sSeq (sFz 1 (sSet 2 (dLst (dCons (dEF (dLc (dIt (dVar 1)) (bName 5) dYes (el__law_names_2 Φ) [5])) (dCons (dEF (dLc (dIt (dVar 1)) (bName 5) dYes (el__law_names_1 Φ) [5])) dNil))))) (sSeq (sApp 2 (dEF (dOp2 addD (dEF (dLc (dRng1 (dCons (dC (.int 8)) dNil)) (bName 4) dYes (el__law_names_3 Φ) [4])) (dEF (dLc (dRng1 (dCons (dC (.int 8)) dNil)) (bName 4) dYes (el__law_names_4 Φ) [4]))))) (sSeq (sSet 3 (dFE (dEF (dLst (dCons (dC (.str "modules")) (dCons (dC (.str "defs")) (dCons (dC (.str "letter")) (dCons (dC (.str "ins")) (dCons (dC (.str "iffy")) (dCons (dC (.str "thence")) (dCons (dC (.str "elsewhen")) (dCons (dC (.str "timesup")) (dCons (dC (.str "ass")) (dCons (dC (.str "fromm")) (dCons (dC (.str "dot")) dNil))))))))))))))) (sSeq (sApp 2 (dEF (dOp2 addD (dVarB 3) (dEF (dLst (dCons (dC (.str "tells")) (dCons (dC (.str "stopped")) (dCons (dC (.str "asas")) (dCons (dC (.str "dodo")) (dCons (dC (.str "inlet")) dNil)))))))))) (sSeq (sSet 2 (dOp2 idxD (dVarB 2) (dEF (dOp2 modD (dVarB 0) (dC (.int 4)))))) (sSeq (sRet (dLc (dRng1 (dCons (dC (.int 16)) dNil)) (bName 4) dYes (el__law_names_5 Φ) [4])) sNil)))))))
def m__law_number (Φ : Nat → Fn) : FS := (sSeq (sRet (dOp2 idxD (dEF (dLst (dCons (dEF (dOp2 modD (dEF (dOp2 fdivD (dVarB 0) (dC (.int 12)))) (dC (.int 5)))) (dCons (dEF (dOp2 subD (dEF (dOp2 modD (dEF (dOp2 fdivD (dVarB 0) (dC (.int 12)))) (dC (.int 5)))) (dC (.int 2)))) (dCons (dEF (dOp2 modD (dEF (dOp2 fdivD (dVarB 0) (dC (.int 12)))) (dC (.int 100)))) (dCons (dEF (dOp2 idxD (dEF (dLst (dCons (dEF (dOp2 powD (dC (.int 10)) (dC (.int 30)))) (dCons (dEF (dOp1 negD (dEF (dOp2 powD (dC (.int 10)) (dC (.int 30)))))) (dCons (dC (.int 1001)) (dCons (dC (.int 0)) dNil)))))) (dEF (dOp2 modD (dEF (dOp2 fdivD (dVarB 0) (dC (.int 12)))) (dC (.int 4)))))) dNil)))))) (dEF (dOp2 fdivD (dEF (dOp2 modD (dVarB 0) (dC (.int 12)))) (dC (.int 3)))))) sNil)
def m__law_leaf (Φ : Nat → Fn) : FS := (sSeq (sIf (dAnd (dBo (dOp2 neD (dVarB 1) (dEF (dLst dNil)))) (dBo (dOp2 (cmpD fun i j => decide (j < i)) (dEF (dOp2 modD (dVarB 2) (dC (.int 4)))) (dC (.int 0))))) (sSeq (sRet (dFE (dTup (dCons (dC (.str "use")) (dCons (dEF (dOp2 idxD (dVarB 1) (dEF (dOp2 modD (dEF (dOp2 fdivD (dVarB 2) (dC (.int 4)))) (dEF (dPr lenD (dCons (dVarB 1) dNil))))))) dNil))))) sNil) sNil) (sSeq (sRet (dFE (dTup (dCons (dC (.str "num")) (dCons (dEF (dCall 1 (Φ f__law_number) (dCons (dEF (dOp2 fdivD (dVarB 2) (dC (.int 4)))) dNil))) dNil))))) sNil))
def m__law_op (Φ : Nat → Fn) : FS := (sSeq (sSet 6 (dFE (dEF (dOp2 idxD (dC (.str "+-*=</&")) (dEF (dOp2 modD (dVarB 5) (dEF (dOp2 idxD (dEF (dLst (dCons (dC (.int 7)) (dCons (dC (.int 5)) dNil)))) (dEF (dPr intD (dCons (dEF (dOp2 dgetD (dVarB 2) (dC (.str "quiet")))) dNil))))))))))) (sSeq (sSet 7 (dFE (dEF (dCall 5 (Φ f__law_expression) (dCons (dVar 0) (dCons (dVar 1) (dCons (dVar 2) (dCons (dVar 3) (dCons (dEF (dOp2 subD (dVarB 4) (dC (.int 1)))) dNil))))))))) (sSeq (sIf (dBo (dOp2 eqD (dVarB 6) (dC (.str "*")))) (sSeq (sRet (dFE (dTup (dCons (dC (.str "op")) (dCons (dVar 6) (dCons (dVar 7) (dCons (dTup (dCons (dC (.str "num")) (dCons (dEF (dOp2 subD (dEF (dOp2 modD (dEF (dOp2 fdivD (dVarB 5) (dC (.int 7)))) (dC (.int 1000)))) (dC (.int 3)))) dNil))) dNil))))))) sNil) sNil) (sSeq (sRet (dFE (dTup (dCons (dC (.str "op")) (dCons (dVar 6) (dCons (dVar 7) (dCons (dEF (dCall 5 (Φ f__law_expression) (dCons (dVar 0) (dCons (dVar 1) (dCons (dVar 2) (dCons (dVar 3) (dCons (dEF (dOp2 subD (dVarB 4) (dC (.int 1)))) dNil))))))) dNil))))))) sNil))))
def el__law_times_0 (Φ : Nat → Fn) : FD := (dVar 14)
theorem el__law_times_0_eq (Φ : Nat → Fn) (ρ : EnvD) (M : Store) : el__law_times_0 Φ ρ M = (dVar 14) ρ M := rfl
def cd__law_times_0 (Φ : Nat → Fn) : FB := (dBo (dOp2 notInD (dVarB 14) (dTup (dCons (dEF (dOp2 idxD (dVarB 6) (dVarB 12))) (dCons (dEF (dOp2 idxD (dVarB 6) (dVarB 7))) dNil)))))
theorem cd__law_times_0_eq (Φ : Nat → Fn) (ρ : EnvD) (M : Store) : cd__law_times_0 Φ ρ M = (dBo (dOp2 notInD (dVarB 14) (dTup (dCons (dEF (dOp2 idxD (dVarB 6) (dVarB 12))) (dCons (dEF (dOp2 idxD (dVarB 6) (dVarB 7))) dNil))))) ρ M := rfl
def m__law_times (Φ : Nat → Fn) : FS := (sSeq (sSet 6 (dFE (dEF (dOp2 dgetD (dVarB 2) (dC (.str "names")))))) (sSeq (sAsg (bTup [12, 13]) (dTup (dCons (dEF (dOp2 modD (dEF (dOp2 fdivD (dVarB 5) (dC (.int 7)))) (dC (.int 5)))) (dCons (dEF (dOp2 modD (dEF (dOp2 fdivD (dVarB 5) (dC (.int 35)))) (dC (.int 4)))) dNil)))) (sSeq (sSet 7 (dFE (dEF (dOp2 modD (dEF (dOp2 addD (dEF (dOp2 addD (dVarB 12) (dC (.int 1)))) (dVarB 13))) (dC (.int 5)))))) (sSeq (sSet 8 (dFE (dTup (dCons (dC (.str "num")) (dCons (dEF (dOp2 modD (dVarB 5) (dC (.int 4)))) dNil))))) (sSeq (sIf (dAnd (dNot (dTru (dEF (dOp2 dgetD (dVarB 2) (dC (.str "quiet")))))) (dBo (dOp2 eqD (dEF (dOp2 modD (dEF (dOp2 fdivD (dVarB 5) (dC (.int 140)))) (dC (.int 3)))) (dC (.int 1))))) (sSeq (sSet 8 (dFE (dTup (dCons (dC (.str "op")) (dCons (dC (.str "&")) (dCons (dEF (dCall 5 (Φ f__law_expression) (dCons (dVar 0) (dCons (dVar 1) (dCons (dVar 2) (dCons (dVar 3) (dCons (dEF (dOp2 subD (dVarB 4) (dC (.int 2)))) dNil))))))) (dCons (dTup (dCons (dC (.str "num")) (dCons (dC (.int 4)) dNil))) dNil))))))) sNil) (sSeq (sIf (dAnd (dNot (dTru (dEF (dOp2 dgetD (dVarB 2) (dC (.str "quiet")))))) (dBo (dOp2 eqD (dEF (dOp2 modD (dEF (dOp2 fdivD (dVarB 5) (dC (.int 140)))) (dC (.int 12)))) (dC (.int 2))))) (sSeq (sSet 8 (dFE (dTup (dCons (dC (.str "num")) (dCons (dEF (dOp2 addD (dC (.int 1000)) (dEF (dOp2 modD (dEF (dOp2 fdivD (dVarB 5) (dC (.int 1680)))) (dC (.int 3)))))) dNil))))) sNil) sNil) sNil)) (sSeq (sSet 9 (dFE (dEF (dCall 5 (Φ f__law_expression) (dCons (dVar 0) (dCons (dVar 1) (dCons (dVar 2) (dCons (dVar 3) (dCons (dEF (dOp2 subD (dVarB 4) (dC (.int 1)))) dNil))))))))) (sSeq (sSet 10 (dFE (dEF (dOp2 addD (dEF (dLc (dIt (dVar 3)) (bName 14) (cd__law_times_0 Φ) (el__law_times_0 Φ) [14])) (dEF (dLst (dCons (dEF (dOp2 idxD (dVarB 6) (dVarB 12))) (dCons (dEF (dOp2 idxD (dVarB 6) (dVarB 7))) dNil)))))))) (sSeq (sSet 11 (dFE (dEF (dCall 5 (Φ f__law_expression) (dCons (dVar 0) (dCons (dVar 1) (dCons (dVar 2) (dCons (dVar 10) (dCons (dEF (dOp2 subD (dVarB 4) (dC (.int 1)))) dNil))))))))) (sSeq (sRet (dFE (dTup (dCons (dC (.str "times")) (dCons (dVar 8) (dCons (dEF (dOp2 idxD (dVarB 6) (dVarB 12))) (dCons (dEF (dOp2 idxD (dVarB 6) (dVarB 7))) (dCons (dVar 9) (dCons (dVar 11) dNil))))))))) sNil)))))))))
def el__law_call_0 (Φ : Nat → Fn) : FD := (dVar 11)
theorem el__law_call_0_eq (Φ : Nat → Fn) (ρ : EnvD) (M : Store) : el__law_call_0 Φ ρ M = (dVar 11) ρ M := rfl
def cd__law_call_0 (Φ : Nat → Fn) : FB := (dOr (dTru (dEF (dOp2 idxD (dVarB 11) (dC (.int 3))))) (dNot (dTru (dEF (dOp2 dgetD (dVarB 2) (dC (.str "quiet")))))))
theorem cd__law_call_0_eq (Φ : Nat → Fn) (ρ : EnvD) (M : Store) : cd__law_call_0 Φ ρ M = (dOr (dTru (dEF (dOp2 idxD (dVarB 11) (dC (.int 3))))) (dNot (dTru (dEF (dOp2 dgetD (dVarB 2) (dC (.str "quiet"))))))) ρ M := rfl
def el__law_call_1 (Φ : Nat → Fn) : FD := (dEF (dCall 5 (Φ f__law_expression) (dCons (dVar 0) (dCons (dVar 1) (dCons (dVar 2) (dCons (dVar 3) (dCons (dEF (dOp2 subD (dVarB 4) (dC (.int 1)))) dNil)))))))
theorem el__law_call_1_eq (Φ : Nat → Fn) (ρ : EnvD) (M : Store) : el__law_call_1 Φ ρ M = (dEF (dCall 5 (Φ f__law_expression) (dCons (dVar 0) (dCons (dVar 1) (dCons (dVar 2) (dCons (dVar 3) (dCons (dEF (dOp2 subD (dVarB 4) (dC (.int 1)))) dNil))))))) ρ M := rfl
def m__law_call (Φ : Nat → Fn) : FS := (sSeq (sSet 6 (dLc (dIt (dEF (dOp2 dgetD (dVarB 2) (dC (.str "ahead"))))) (bName 11) (cd__law_call_0 Φ) (el__law_call_0 Φ) [11])) (sSeq (sIf (dBo (dOp2 eqD (dVarB 6) (dEF (dLst dNil)))) (sSeq (sRet (dCall 3 (Φ f__law_leaf) (dCons (dVar 2) (dCons (dVar 3) (dCons (dVar 5) dNil))))) sNil) sNil) (sSeq (sAsg (bTup [7, 8, 9, 10]) (dEF (dOp2 idxD (dVarB 6) (dEF (dOp2 modD (dVarB 5) (dEF (dPr lenD (dCons (dVarB 6) dNil)))))))) (sSeq (sRet (dFE (dTup (dCons (dC (.str "call")) (dCons (dVar 7) (dCons (dVar 8) (dCons (dEF (dPr tupleD (dCons (dEF (dLc (dRng1 (dCons (dVarB 9) dNil)) (bName 12) dYes (el__law_call_1 Φ) [12])) dNil))) dNil))))))) sNil))))
def el__law_expression_0 (Φ : Nat → Fn) : FD := (dVar 11)
theorem el__law_expression_0_eq (Φ : Nat → Fn) (ρ : EnvD) (M : Store) : el__law_expression_0 Φ ρ M = (dVar 11) ρ M := rfl
def cd__law_expression_0 (Φ : Nat → Fn) : FB := (dBo (dOp2 neD (dVarB 11) (dVarB 8)))
theorem cd__law_expression_0_eq (Φ : Nat → Fn) (ρ : EnvD) (M : Store) : cd__law_expression_0 Φ ρ M = (dBo (dOp2 neD (dVarB 11) (dVarB 8))) ρ M := rfl
def el__law_expression_1 (Φ : Nat → Fn) : FD := (dEF (dCall 5 (Φ f__law_expression) (dCons (dVar 0) (dCons (dVar 1) (dCons (dVar 2) (dCons (dVar 3) (dCons (dEF (dOp2 subD (dVarB 4) (dC (.int 1)))) dNil)))))))
theorem el__law_expression_1_eq (Φ : Nat → Fn) (ρ : EnvD) (M : Store) : el__law_expression_1 Φ ρ M = (dEF (dCall 5 (Φ f__law_expression) (dCons (dVar 0) (dCons (dVar 1) (dCons (dVar 2) (dCons (dVar 3) (dCons (dEF (dOp2 subD (dVarB 4) (dC (.int 1)))) dNil))))))) ρ M := rfl
def m__law_expression (Φ : Nat → Fn) : FS := (sSeq (sSet 5 (dFE (dEF (dCall 2 (Φ f__law_cell) (dCons (dVar 0) (dCons (dVar 1) dNil)))))) (sSeq (sPar 6 7 (dCons (dEF (dOp2 modD (dVarB 5) (dC (.int 16)))) (dCons (dEF (dOp2 fdivD (dVarB 5) (dC (.int 16)))) dNil))) (sSeq (sIf (dOr (dBo (dOp2 (cmpD fun i j => decide (i < j)) (dVarB 4) (dC (.int 2)))) (dBo (dOp2 (cmpD fun i j => decide (i < j)) (dVarB 6) (dC (.int 3))))) (sSeq (sRet (dCall 3 (Φ f__law_leaf) (dCons (dVar 2) (dCons (dVar 3) (dCons (dVar 7) dNil))))) sNil) sNil) (sSeq (sIf (dBo (dOp2 (cmpD fun i j => decide (i < j)) (dVarB 6) (dC (.int 5)))) (sSeq (sRet (dCall 6 (Φ f__law_call) (dCons (dVar 0) (dCons (dVar 1) (dCons (dVar 2) (dCons (dVar 3) (dCons (dVar 4) (dCons (dVar 7) dNil)))))))) sNil) sNil) (sSeq (sIf (dBo (dOp2 eqD (dVarB 6) (dC (.int 5)))) (sSeq (sRet (dCall 6 (Φ f__law_times) (dCons (dVar 0) (dCons (dVar 1) (dCons (dVar 2) (dCons (dVar 3) (dCons (dVar 4) (dCons (dVar 7) dNil)))))))) sNil) sNil) (sSeq (sIf (dBo (dOp2 (cmpD fun i j => decide (i < j)) (dVarB 6) (dC (.int 9)))) (sSeq (sSet 8 (dFE (dEF (dOp2 idxD (dEF (dOp2 dgetD (dVarB 2) (dC (.str "names")))) (dEF (dOp2 modD (dVarB 7) (dC (.int 5)))))))) (sSeq (sSet 9 (dFE (dEF (dCall 5 (Φ f__law_expression) (dCons (dVar 0) (dCons (dVar 1) (dCons (dVar 2) (dCons (dVar 3) (dCons (dEF (dOp2 subD (dVarB 4) (dC (.int 1)))) dNil))))))))) (sSeq (sSet 10 (dFE (dEF (dOp2 addD (dEF (dLc (dIt (dVar 3)) (bName 11) (cd__law_expression_0 Φ) (el__law_expression_0 Φ) [11])) (dEF (dLst (dCons (dVar 8) dNil))))))) (sSeq (sRet (dFE (dTup (dCons (dC (.str "let")) (dCons (dVar 8) (dCons (dVar 9) (dCons (dEF (dCall 5 (Φ f__law_expression) (dCons (dVar 0) (dCons (dVar 1) (dCons (dVar 2) (dCons (dVar 10) (dCons (dEF (dOp2 subD (dVarB 4) (dC (.int 1)))) dNil))))))) dNil))))))) sNil)))) sNil) (sSeq (sIf (dBo (dOp2 eqD (dVarB 6) (dC (.int 9)))) (sSeq (sRet (dOp2 addD (dTup (dCons (dC (.str "if")) dNil)) (dEF (dPr tupleD (dCons (dEF (dLc (dRng1 (dCons (dC (.int 3)) dNil)) (bName 12) dYes (el__law_expression_1 Φ) [12])) dNil))))) sNil) sNil) (sSeq (sIf (dAnd (dBo (dOp2 (cmpD fun i j => decide (i < j)) (dVarB 6) (dC (.int 12)))) (dNot (dTru (dEF (dOp2 dgetD (dVarB 2) (dC (.str "quiet"))))))) (sSeq (sSet 9 (dFE (dEF (dCall 5 (Φ f__law_expression) (dCons (dVar 0) (dCons (dVar 1) (dCons (dVar 2) (dCons (dVar 3) (dCons (dEF (dOp2 subD (dVarB 4) (dC (.int 1)))) dNil))))))))) (sSeq (sRet (dFE (dTup (dCons (dC (.str "tell")) (dCons (dVar 9) (dCons (dEF (dCall 5 (Φ f__law_expression) (dCons (dVar 0) (dCons (dVar 1) (dCons (dVar 2) (dCons (dVar 3) (dCons (dEF (dOp2 subD (dVarB 4) (dC (.int 1)))) dNil))))))) dNil)))))) sNil)) sNil) (sSeq (sIf (dAnd (dBo (dOp2 eqD (dVarB 6) (dC (.int 12)))) (dAnd (dNot (dTru (dEF (dOp2 dgetD (dVarB 2) (dC (.str "quiet")))))) (dBo (dOp2 eqD (dEF (dOp2 modD (dVarB 7) (dC (.int 4)))) (dC (.int 1)))))) (sSeq (sRet (dFE (dTup (dCons (dC (.str "stop")) (dCons (dEF (dCall 5 (Φ f__law_expression) (dCons (dVar 0) (dCons (dVar 1) (dCons (dVar 2) (dCons (dVar 3) (dCons (dEF (dOp2 subD (dVarB 4) (dC (.int 1)))) dNil))))))) dNil))))) sNil) sNil) (sSeq (sRet (dCall 6 (Φ f__law_op) (dCons (dVar 0) (dCons (dVar 1) (dCons (dVar 2) (dCons (dVar 3) (dCons (dVar 4) (dCons (dVar 7) dNil)))))))) sNil))))))))))
def m__law_level (Φ : Nat → Fn) : FS := (sSeq (sIf (dBo (dOp2 inD (dEF (dOp2 idxD (dVarB 0) (dC (.int 0)))) (dTup (dCons (dC (.str "let")) (dCons (dC (.str "if")) (dCons (dC (.str "times")) (dCons (dC (.str "tell")) (dCons (dC (.str "stop")) dNil)))))))) (sSeq (sRet (dFE (dC (.int 0)))) sNil) sNil) (sSeq (sRet (dIf (dBo (dOp2 eqD (dEF (dOp2 idxD (dVarB 0) (dC (.int 0)))) (dC (.str "op")))) (dFE (dGet2 (dDisp ["=", "<", "+", "-"] [(dC (.int 1)), (dC (.int 1)), (dC (.int 2)), (dC (.int 2))]) (dEF (dOp2 idxD (dVarB 0) (dC (.int 1)))) (dC (.int 3)))) (dFE (dC (.int 4))))) sNil))
def m__law_side (Φ : Nat → Fn) : FS := (sSeq (sSet 4 (dFE (dEF (dCall 3 (Φ f__law_text) (dCons (dVar 0) (dCons (dVar 1) (dCons (dVar 3) dNil))))))) (sSeq (sIf (dOr (dBo (dOp2 (cmpD fun i j => decide (i < j)) (dEF (dCall 1 (Φ f__law_level) (dCons (dVar 1) dNil))) (dVarB 2))) (dAnd (dBo (dOp2 neD (dVarB 3) (dEF (dLst dNil)))) (dBo (dOp2 eqD (dEF (dOp2 modD (dPopR (dVarB 3)) (dC (.int 3)))) (dC (.int 0)))))) (sSeq (sRet (dOp2 addD (dEF (dOp2 addD (dC (.str "(")) (dVarB 4))) (dC (.str ")")))) sNil) sNil) (sSeq (sRetV 4) sNil)))
def m__law_free_text (Φ : Nat → Fn) : FS := (sSeq (sSet 3 (dFE (dEF (dCall 3 (Φ f__law_text) (dCons (dVar 0) (dCons (dVar 1) (dCons (dVar 2) dNil))))))) (sSeq (sRet (dIf (dAnd (dBo (dOp2 neD (dVarB 2) (dEF (dLst dNil)))) (dBo (dOp2 eqD (dEF (dOp2 modD (dPopR (dVarB 2)) (dC (.int 5)))) (dC (.int 0))))) (dOp2 addD (dEF (dOp2 addD (dC (.str "(")) (dVarB 3))) (dC (.str ")"))) (dFE (dVar 3)))) sNil))
def el__law_text_0 (Φ : Nat → Fn) : FD := (dEF (dCall 3 (Φ f__law_free_text) (dCons (dVar 0) (dCons (dVar 9) (dCons (dVar 2) dNil)))))
theorem el__law_text_0_eq (Φ : Nat → Fn) (ρ : EnvD) (M : Store) : el__law_text_0 Φ ρ M = (dEF (dCall 3 (Φ f__law_free_text) (dCons (dVar 0) (dCons (dVar 9) (dCons (dVar 2) dNil))))) ρ M := rfl
def el__law_text_1 (Φ : Nat → Fn) : FD := (dEF (dCall 3 (Φ f__law_free_text) (dCons (dVar 0) (dCons (dVar 9) (dCons (dVar 2) dNil)))))
theorem el__law_text_1_eq (Φ : Nat → Fn) (ρ : EnvD) (M : Store) : el__law_text_1 Φ ρ M = (dEF (dCall 3 (Φ f__law_free_text) (dCons (dVar 0) (dCons (dVar 9) (dCons (dVar 2) dNil))))) ρ M := rfl
def cd__law_text_0 (Φ : Nat → Fn) : FB := (dTru (dEF (dOp1 (isiD "tuple") (dVarB 9))))
theorem cd__law_text_0_eq (Φ : Nat → Fn) (ρ : EnvD) (M : Store) : cd__law_text_0 Φ ρ M = (dTru (dEF (dOp1 (isiD "tuple") (dVarB 9)))) ρ M := rfl
def el__law_text_2 (Φ : Nat → Fn) : FD := (dEF (dOp2 addD (dVarB 10) (dVarB 11)))
theorem el__law_text_2_eq (Φ : Nat → Fn) (ρ : EnvD) (M : Store) : el__law_text_2 Φ ρ M = (dEF (dOp2 addD (dVarB 10) (dVarB 11))) ρ M := rfl
def m__law_text (Φ : Nat → Fn) : FS := (sSeq (sIf (dBo (dOp2 inD (dEF (dOp2 idxD (dVarB 1) (dC (.int 0)))) (dTup (dCons (dC (.str "num")) (dCons (dC (.str "use")) dNil))))) (sSeq (sRet (dPr strD (dCons (dEF (dOp2 idxD (dVarB 1) (dC (.int 1)))) dNil))) sNil) sNil) (sSeq (sIf (dBo (dOp2 eqD (dEF (dOp2 idxD (dVarB 1) (dC (.int 0)))) (dC (.str "op")))) (sSeq (sSet 5 (dFE (dEF (dCall 1 (Φ f__law_level) (dCons (dVar 1) dNil))))) (sSeq (sSet 6 (dFE (dEF (dCall 4 (Φ f__law_side) (dCons (dVar 0) (dCons (dEF (dOp2 idxD (dVarB 1) (dC (.int 2)))) (dCons (dEF (dOp2 addD (dVarB 5) (dEF (dPr intD (dCons (dEF (dOp2 eqD (dVarB 5) (dC (.int 1)))) dNil))))) (dCons (dVar 2) dNil)))))))) (sSeq (sRet (dOp2 addD (dEF (dOp2 addD (dEF (dOp2 addD (dEF (dOp2 addD (dVarB 6) (dC (.str " ")))) (dEF (dOp2 idxD (dVarB 1) (dC (.int 1)))))) (dC (.str " ")))) (dEF (dCall 4 (Φ f__law_side) (dCons (dVar 0) (dCons (dEF (dOp2 idxD (dVarB 1) (dC (.int 3)))) (dCons (dEF (dOp2 addD (dVarB 5) (dC (.int 1)))) (dCons (dVar 2) dNil)))))))) sNil))) sNil) (sSeq (sIf (dBo (dOp2 eqD (dEF (dOp2 idxD (dVarB 1) (dC (.int 0)))) (dC (.str "call")))) (sSeq (sSet 7 (dFE (dEF (dOrV (dOp2 neD (dEF (dOp2 idxD (dVarB 1) (dC (.int 1)))) (dVarB 0)) (dAndV (dOp2 neD (dVarB 2) (dEF (dLst dNil))) (dOp2 eqD (dEF (dOp2 modD (dPopR (dVarB 2)) (dC (.int 2)))) (dC (.int 0)))))))) (sSeq (sSet 8 (dFE (dEF (dMeth "str" joinD (dC (.str ", ")) (dCons (dEF (dLc (dIt (dEF (dOp2 idxD (dVarB 1) (dC (.int 3))))) (bName 9) dYes (el__law_text_0 Φ) [9])) dNil))))) (sSeq (sRet (dOp2 addD (dEF (dOp2 addD (dEF (dOp2 addD (dEF (dOp2 addD (dEF (dOp2 mulSD (dEF (dOp2 addD (dEF (dOp2 idxD (dVarB 1) (dC (.int 1)))) (dC (.str ".")))) (dEF (dPr intD (dCons (dVarB 7) dNil))))) (dEF (dOp2 idxD (dVarB 1) (dC (.int 2)))))) (dC (.str "(")))) (dVarB 8))) (dC (.str ")")))) sNil))) sNil) (sSeq (sSet 3 (dLc (dIt (dEF (dSl slD (dVarB 1) (dSo (dC (.int 1))) dNo))) (bName 9) (cd__law_text_0 Φ) (el__law_text_1 Φ) [9])) (sSeq (sSet 4 (dFE (dGet2 (dDisp ["if", "tell", "stop"] [(dEF (dLst (dCons (dC (.str "if ")) (dCons (dC (.str " then ")) (dCons (dC (.str " else ")) dNil))))), (dEF (dLst (dCons (dC (.str "tell ")) (dCons (dC (.str " in ")) dNil)))), (dEF (dLst (dCons (dC (.str "stop ")) dNil)))]) (dEF (dOp2 idxD (dVarB 1) (dC (.int 0)))) (dEF (dLst dNil))))) (sSeq (sIf (dBo (dOp2 eqD (dEF (dOp2 idxD (dVarB 1) (dC (.int 0)))) (dC (.str "let")))) (sSeq (sSet 4 (dFE (dEF (dLst (dCons (dEF (dOp2 addD (dEF (dOp2 addD (dC (.str "let ")) (dEF (dOp2 idxD (dVarB 1) (dC (.int 1)))))) (dC (.str " = ")))) (dCons (dC (.str " in ")) dNil)))))) sNil) sNil) (sSeq (sIf (dBo (dOp2 eqD (dEF (dOp2 idxD (dVarB 1) (dC (.int 0)))) (dC (.str "times")))) (sSeq (sSet 4 (dFE (dEF (dLst (dCons (dC (.str "times ")) (dCons (dEF (dOp2 addD (dEF (dOp2 addD (dEF (dOp2 addD (dEF (dOp2 addD (dC (.str " as ")) (dEF (dOp2 idxD (dVarB 1) (dC (.int 2)))))) (dC (.str ", ")))) (dEF (dOp2 idxD (dVarB 1) (dC (.int 3)))))) (dC (.str " from ")))) (dCons (dC (.str " do ")) dNil))))))) sNil) sNil) (sSeq (sFz 3 (sRet (dMeth "str" joinD (dC (.str "")) (dCons (dEF (dLc (dZip (dCons (dVar 4) (dCons (dVar 3) dNil))) (bTup [10, 11]) dYes (el__law_text_2 Φ) [10, 11])) dNil)))) sNil))))))))
def lp__law_program_text_0 (Φ : Nat → Fn) : FS := (sSeq (sApp 2 (dEF (dOp2 addD (dEF (dOp2 addD (dEF (dOp2 addD (dEF (dOp2 addD (dEF (dOp2 addD (dC (.str "def ")) (dVarB 5))) (dC (.str "(")))) (dEF (dMeth "str" joinD (dC (.str ", ")) (dCons (dVarB 6) dNil))))) (dC (.str ") = ")))) (dEF (dCall 3 (Φ f__law_free_text) (dCons (dVar 3) (dCons (dVar 7) (dCons (dVar 1) dNil)))))))) sNil)
theorem lp__law_program_text_0_eq (Φ : Nat → Fn) (ρ : EnvD) (M : Store) : lp__law_program_text_0 Φ ρ M = (sSeq (sApp 2 (dEF (dOp2 addD (dEF (dOp2 addD (dEF (dOp2 addD (dEF (dOp2 addD (dEF (dOp2 addD (dC (.str "def ")) (dVarB 5))) (dC (.str "(")))) (dEF (dMeth "str" joinD (dC (.str ", ")) (dCons (dVarB 6) dNil))))) (dC (.str ") = ")))) (dEF (dCall 3 (Φ f__law_free_text) (dCons (dVar 3) (dCons (dVar 7) (dCons (dVar 1) dNil)))))))) sNil) ρ M := rfl
def lp__law_program_text_1 (Φ : Nat → Fn) : FS := (sSeq (sApp 2 (dEF (dOp2 addD (dC (.str "module ")) (dVarB 3)))) (sSeq (sFor (dIt (dVar 4)) (bTup [5, 6, 7]) (lp__law_program_text_0 Φ)) sNil))
theorem lp__law_program_text_1_eq (Φ : Nat → Fn) (ρ : EnvD) (M : Store) : lp__law_program_text_1 Φ ρ M = (sSeq (sApp 2 (dEF (dOp2 addD (dC (.str "module ")) (dVarB 3)))) (sSeq (sFor (dIt (dVar 4)) (bTup [5, 6, 7]) (lp__law_program_text_0 Φ)) sNil)) ρ M := rfl
def m__law_program_text (Φ : Nat → Fn) : FS := (sSeq (sSet 2 (dLst dNil)) (sSeq (sFor (dIt (dVar 0)) (bTup [3, 4]) (lp__law_program_text_1 Φ)) (sSeq (sRet (dMeth "str" joinD (dC (.str "\n")) (dCons (dVarB 2) dNil))) sNil)))
def el__law_sided_0 (Φ : Nat → Fn) : FD := (dEF (dCall 5 (Φ f__law_sided) (dCons (dVar 0) (dCons (dVar 1) (dCons (dVar 2) (dCons (dVar 3) (dCons (dEF (dOp2 subD (dVarB 4) (dC (.int 1)))) dNil)))))))
theorem el__law_sided_0_eq (Φ : Nat → Fn) (ρ : EnvD) (M : Store) : el__law_sided_0 Φ ρ M = (dEF (dCall 5 (Φ f__law_sided) (dCons (dVar 0) (dCons (dVar 1) (dCons (dVar 2) (dCons (dVar 3) (dCons (dEF (dOp2 subD (dVarB 4) (dC (.int 1)))) dNil))))))) ρ M := rfl
def m__law_sided (Φ : Nat → Fn) : FS := (sSeq (sSet 5 (dFE (dEF (dCall 2 (Φ f__law_cell) (dCons (dVar 0) (dCons (dVar 1) dNil)))))) (sSeq (sIf (dOr (dBo (dOp2 (cmpD fun i j => decide (i < j)) (dVarB 4) (dC (.int 1)))) (dBo (dOp2 eqD (dEF (dOp2 modD (dVarB 5) (dC (.int 8)))) (dC (.int 0))))) (sSeq (sRet (dCall 5 (Φ f__law_expression) (dCons (dVar 0) (dCons (dVar 1) (dCons (dVar 2) (dCons (dVar 3) (dCons (dEF (dOp2 addD (dC (.int 1)) (dEF (dOp2 modD (dEF (dOp2 fdivD (dVarB 5) (dC (.int 8)))) (dC (.int 3)))))) dNil))))))) sNil) sNil) (sSeq (sAsg (bLst [6, 7]) (dEF (dLc (dRng1 (dCons (dC (.int 2)) dNil)) (bName 8) dYes (el__law_sided_0 Φ) [8]))) (sSeq (sRet (dFE (dTup (dCons (dC (.str "op")) (dCons (dEF (dOp2 idxD (dC (.str "+-*/&=<")) (dEF (dOp2 modD (dEF (dOp2 fdivD (dVarB 5) (dC (.int 8)))) (dC (.int 7)))))) (dCons (dVar 6) (dCons (dVar 7) dNil))))))) sNil))))
def lp__law_chain_0 (Φ : Nat → Fn) : FS := (sSeq (sSet 7 (dFE (dEF (dCall 2 (Φ f__law_cell) (dCons (dVar 0) (dCons (dVar 1) dNil)))))) (sSeq (sPar3 9 10 11 (dCons (dEF (dCall 3 (Φ f__law_leaf) (dCons (dVar 2) (dCons (dVar 3) (dCons (dEF (dOp2 fdivD (dVarB 7) (dC (.int 77)))) dNil))))) (dCons (dEF (dOp2 idxD (dC (.str "+-*/&=<")) (dEF (dOp2 modD (dEF (dOp2 fdivD (dVarB 7) (dC (.int 11)))) (dC (.int 7)))))) (dCons (dEF (dOp2 idxD (dEF (dOp2 dgetD (dVarB 2) (dC (.str "names")))) (dEF (dOp2 modD (dEF (dOp2 fdivD (dVarB 7) (dC (.int 77)))) (dC (.int 4)))))) dNil)))) (sSeq (sSet 8 (dLst (dCons (dTup (dCons (dC (.str "op")) (dCons (dVar 10) (dCons (dVar 5) (dCons (dVar 9) dNil))))) (dCons (dTup (dCons (dC (.str "op")) (dCons (dVar 10) (dCons (dVar 9) (dCons (dVar 5) dNil))))) (dCons (dTup (dCons (dC (.str "let")) (dCons (dVar 11) (dCons (dVar 5) (dCons (dVar 9) dNil))))) dNil))))) (sSeq (sSet 8 (dOp2 addD (dVarB 8) (dEF (dLst (dCons (dTup (dCons (dC (.str "let")) (dCons (dVar 11) (dCons (dVar 9) (dCons (dVar 5) dNil))))) (dCons (dTup (dCons (dC (.str "if")) (dCons (dVar 5) (dCons (dVar 9) (dCons (dVar 9) dNil))))) (dCons (dTup (dCons (dC (.str "if")) (dCons (dVar 9) (dCons (dVar 9) (dCons (dVar 5) dNil))))) dNil))))))) (sSeq (sSet 8 (dOp2 addD (dVarB 8) (dEF (dLst (dCons (dTup (dCons (dC (.str "tell")) (dCons (dVar 9) (dCons (dVar 5) dNil)))) (dCons (dTup (dCons (dC (.str "tell")) (dCons (dVar 5) (dCons (dVar 9) dNil)))) (dCons (dTup (dCons (dC (.str "stop")) (dCons (dVar 5) dNil))) dNil))))))) (sSeq (sApp 8 (dTup (dCons (dC (.str "times")) (dCons (dTup (dCons (dC (.str "num")) (dCons (dC (.int 1)) dNil))) (dCons (dVar 11) (dCons (dEF (dOp2 idxD (dEF (dOp2 dgetD (dVarB 2) (dC (.str "names")))) (dC (.int 4)))) (dCons (dVar 5) (dCons (dVar 9) dNil)))))))) (sSeq (sSet 5 (dFE (dEF (dOp2 idxD (dEF (dOp2 addD (dVarB 8) (dEF (dLst (dCons (dTup (dCons (dC (.str "times")) (dCons (dVar 5) (dCons (dEF (dOp2 idxD (dEF (dOp2 dgetD (dVarB 2) (dC (.str "names")))) (dC (.int 4)))) (dCons (dVar 11) (dCons (dVar 9) (dCons (dVar 9) dNil))))))) dNil))))) (dEF (dOp2 modD (dVarB 7) (dC (.int 11)))))))) sNil)))))))
theorem lp__law_chain_0_eq (Φ : Nat → Fn) (ρ : EnvD) (M : Store) : lp__law_chain_0 Φ ρ M = (sSeq (sSet 7 (dFE (dEF (dCall 2 (Φ f__law_cell) (dCons (dVar 0) (dCons (dVar 1) dNil)))))) (sSeq (sPar3 9 10 11 (dCons (dEF (dCall 3 (Φ f__law_leaf) (dCons (dVar 2) (dCons (dVar 3) (dCons (dEF (dOp2 fdivD (dVarB 7) (dC (.int 77)))) dNil))))) (dCons (dEF (dOp2 idxD (dC (.str "+-*/&=<")) (dEF (dOp2 modD (dEF (dOp2 fdivD (dVarB 7) (dC (.int 11)))) (dC (.int 7)))))) (dCons (dEF (dOp2 idxD (dEF (dOp2 dgetD (dVarB 2) (dC (.str "names")))) (dEF (dOp2 modD (dEF (dOp2 fdivD (dVarB 7) (dC (.int 77)))) (dC (.int 4)))))) dNil)))) (sSeq (sSet 8 (dLst (dCons (dTup (dCons (dC (.str "op")) (dCons (dVar 10) (dCons (dVar 5) (dCons (dVar 9) dNil))))) (dCons (dTup (dCons (dC (.str "op")) (dCons (dVar 10) (dCons (dVar 9) (dCons (dVar 5) dNil))))) (dCons (dTup (dCons (dC (.str "let")) (dCons (dVar 11) (dCons (dVar 5) (dCons (dVar 9) dNil))))) dNil))))) (sSeq (sSet 8 (dOp2 addD (dVarB 8) (dEF (dLst (dCons (dTup (dCons (dC (.str "let")) (dCons (dVar 11) (dCons (dVar 9) (dCons (dVar 5) dNil))))) (dCons (dTup (dCons (dC (.str "if")) (dCons (dVar 5) (dCons (dVar 9) (dCons (dVar 9) dNil))))) (dCons (dTup (dCons (dC (.str "if")) (dCons (dVar 9) (dCons (dVar 9) (dCons (dVar 5) dNil))))) dNil))))))) (sSeq (sSet 8 (dOp2 addD (dVarB 8) (dEF (dLst (dCons (dTup (dCons (dC (.str "tell")) (dCons (dVar 9) (dCons (dVar 5) dNil)))) (dCons (dTup (dCons (dC (.str "tell")) (dCons (dVar 5) (dCons (dVar 9) dNil)))) (dCons (dTup (dCons (dC (.str "stop")) (dCons (dVar 5) dNil))) dNil))))))) (sSeq (sApp 8 (dTup (dCons (dC (.str "times")) (dCons (dTup (dCons (dC (.str "num")) (dCons (dC (.int 1)) dNil))) (dCons (dVar 11) (dCons (dEF (dOp2 idxD (dEF (dOp2 dgetD (dVarB 2) (dC (.str "names")))) (dC (.int 4)))) (dCons (dVar 5) (dCons (dVar 9) dNil)))))))) (sSeq (sSet 5 (dFE (dEF (dOp2 idxD (dEF (dOp2 addD (dVarB 8) (dEF (dLst (dCons (dTup (dCons (dC (.str "times")) (dCons (dVar 5) (dCons (dEF (dOp2 idxD (dEF (dOp2 dgetD (dVarB 2) (dC (.str "names")))) (dC (.int 4)))) (dCons (dVar 11) (dCons (dVar 9) (dCons (dVar 9) dNil))))))) dNil))))) (dEF (dOp2 modD (dVarB 7) (dC (.int 11)))))))) sNil))))))) ρ M := rfl
def m__law_chain (Φ : Nat → Fn) : FS := (sSeq (sSet 5 (dFE (dEF (dCall 3 (Φ f__law_leaf) (dCons (dVar 2) (dCons (dVar 3) (dCons (dEF (dCall 2 (Φ f__law_cell) (dCons (dVar 0) (dCons (dVar 1) dNil)))) dNil))))))) (sSeq (sFor (dRng1 (dCons (dVarB 4) dNil)) (bName 6) (lp__law_chain_0 Φ)) (sSeq (sRetV 5) sNil)))
def lp__law_full_0 (Φ : Nat → Fn) : FS := (sSeq (sSet 8 (dFE (dTup (dCons (dC (.str "op")) (dCons (dEF (dOp2 idxD (dC (.str "+-*")) (dEF (dOp2 modD (dEF (dOp2 fdivD (dVarB 0) (dC (.int 7)))) (dC (.int 3)))))) (dCons (dTup (dCons (dC (.str "use")) (dCons (dEF (dOp2 idxD (dVarB 1) (dEF (dOp2 modD (dEF (dOp2 addD (dVarB 0) (dVarB 6))) (dC (.int 5)))))) dNil))) (dCons (dTup (dCons (dC (.str "num")) (dCons (dEF (dOp2 modD (dEF (dOp2 addD (dEF (dOp2 addD (dVarB 0) (dEF (dOp2 mulD (dC (.int 12)) (dVarB 3))))) (dVarB 6))) (dC (.int 100)))) dNil))) dNil))))))) (sSeq (sApp 5 (dTup (dCons (dVar 7) (dCons (dEF (dPr tupleD (dCons (dEF (dSl slD (dVarB 1) dNo (dSo (dC (.int 5))))) dNil))) (dCons (dVar 8) dNil))))) sNil))
theorem lp__law_full_0_eq (Φ : Nat → Fn) (ρ : EnvD) (M : Store) : lp__law_full_0 Φ ρ M = (sSeq (sSet 8 (dFE (dTup (dCons (dC (.str "op")) (dCons (dEF (dOp2 idxD (dC (.str "+-*")) (dEF (dOp2 modD (dEF (dOp2 fdivD (dVarB 0) (dC (.int 7)))) (dC (.int 3)))))) (dCons (dTup (dCons (dC (.str "use")) (dCons (dEF (dOp2 idxD (dVarB 1) (dEF (dOp2 modD (dEF (dOp2 addD (dVarB 0) (dVarB 6))) (dC (.int 5)))))) dNil))) (dCons (dTup (dCons (dC (.str "num")) (dCons (dEF (dOp2 modD (dEF (dOp2 addD (dEF (dOp2 addD (dVarB 0) (dEF (dOp2 mulD (dC (.int 12)) (dVarB 3))))) (dVarB 6))) (dC (.int 100)))) dNil))) dNil))))))) (sSeq (sApp 5 (dTup (dCons (dVar 7) (dCons (dEF (dPr tupleD (dCons (dEF (dSl slD (dVarB 1) dNo (dSo (dC (.int 5))))) dNil))) (dCons (dVar 8) dNil))))) sNil)) ρ M := rfl
def lp__law_full_1 (Φ : Nat → Fn) : FS := (sSeq (sSet 5 (dLst dNil)) (sSeq (sFor (dEnumA (dCons (dEF (dSl slD (dVarB 1) (dSo (dC (.int 4))) dNo)) dNil)) (bTup [6, 7]) (lp__law_full_0 Φ)) (sSeq (sApp 2 (dTup (dCons (dVar 4) (dCons (dEF (dPr tupleD (dCons (dVarB 5) dNil))) dNil)))) sNil)))
theorem lp__law_full_1_eq (Φ : Nat → Fn) (ρ : EnvD) (M : Store) : lp__law_full_1 Φ ρ M = (sSeq (sSet 5 (dLst dNil)) (sSeq (sFor (dEnumA (dCons (dEF (dSl slD (dVarB 1) (dSo (dC (.int 4))) dNo)) dNil)) (bTup [6, 7]) (lp__law_full_0 Φ)) (sSeq (sApp 2 (dTup (dCons (dVar 4) (dCons (dEF (dPr tupleD (dCons (dVarB 5) dNil))) dNil)))) sNil))) ρ M := rfl
def m__law_full (Φ : Nat → Fn) : FS := (sSeq (sSet 1 (dFE (dEF (dCall 1 (Φ f__law_names) (dCons (dVar 0) dNil))))) (sSeq (sSet 2 (dLst dNil)) (sSeq (sFor (dEnumA (dCons (dEF (dSl slD (dVarB 1) dNo (dSo (dC (.int 8))))) dNil)) (bTup [3, 4]) (lp__law_full_1 Φ)) (sSeq (sRet (dPr tupleD (dCons (dVarB 2) dNil))) sNil))))
def el__law_sided_program_0 (Φ : Nat → Fn) : FD := (dEF (dOp2 idxD (dVarB 6) (dEF (dOp2 modD (dEF (dOp2 addD (dVarB 10) (dEF (dOp2 mulD (dC (.int 3)) (dVarB 15))))) (dC (.int 5))))))
theorem el__law_sided_program_0_eq (Φ : Nat → Fn) (ρ : EnvD) (M : Store) : el__law_sided_program_0 Φ ρ M = (dEF (dOp2 idxD (dVarB 6) (dEF (dOp2 modD (dEF (dOp2 addD (dVarB 10) (dEF (dOp2 mulD (dC (.int 3)) (dVarB 15))))) (dC (.int 5)))))) ρ M := rfl
def lp__law_sided_program_0 (Φ : Nat → Fn) : FS := (sSeq (sSet 10 (dFE (dEF (dCall 2 (Φ f__law_cell) (dCons (dVar 0) (dCons (dVar 1) dNil)))))) (sSeq (sSet 11 (dLc (dRng1 (dCons (dEF (dOp2 modD (dEF (dOp2 fdivD (dVarB 10) (dC (.int 5)))) (dC (.int 6)))) dNil)) (bName 15) dYes (el__law_sided_program_0 Φ) [15])) (sSeq (sSet 12 (dFE (dDisp ["names", "ahead", "quiet"] [(dVar 6), (dVar 3), (dC (.bl false))]))) (sSeq (sIf (dBo (dOp2 eqD (dEF (dOp2 modD (dEF (dOp2 fdivD (dVarB 10) (dC (.int 900)))) (dC (.int 4)))) (dC (.int 0)))) (sSeq (sFz 11 (sSet 14 (dFE (dEF (dCall 5 (Φ f__law_chain) (dCons (dVar 0) (dCons (dVar 1) (dCons (dVar 12) (dCons (dVar 11) (dCons (dEF (dOp2 addD (dC (.int 12)) (dEF (dOp2 modD (dEF (dOp2 fdivD (dVarB 10) (dC (.int 3600)))) (dC (.int 18)))))) dNil)))))))))) sNil) (sSeq (sFz 11 (sSet 14 (dFE (dEF (dCall 5 (Φ f__law_sided) (dCons (dVar 0) (dCons (dVar 1) (dCons (dVar 12) (dCons (dVar 11) (dCons (dEF (dPr min2D (dCons (dC (.int 3)) (dCons (dEF (dOp2 modD (dEF (dOp2 fdivD (dVarB 10) (dC (.int 60)))) (dC (.int 5)))) dNil)))) dNil)))))))))) sNil)) (sSeq (sSet 13 (dFE (dEF (dOp2 idxD (dVarB 7) (dEF (dOp2 modD (dEF (dOp2 addD (dEF (dOp2 addD (dEF (dOp2 modD (dEF (dOp2 fdivD (dVarB 10) (dC (.int 300)))) (dC (.int 3)))) (dC (.int 5)))) (dEF (dOp2 mulD (dC (.int 3)) (dVarB 9))))) (dC (.int 16)))))))) (sSeq (sApp 8 (dTup (dCons (dVar 13) (dCons (dEF (dPr tupleD (dCons (dVarB 11) dNil))) (dCons (dVar 14) dNil))))) (sSeq (sSet 3 (dFE (dEF (dOp2 addD (dVarB 3) (dEF (dLst (dCons (dTup (dCons (dEF (dOp2 idxD (dVarB 7) (dVarB 5))) (dCons (dVar 13) (dCons (dEF (dPr lenD (dCons (dVarB 11) dNil))) (dCons (dC (.bl false)) dNil))))) dNil))))))) sNil)))))))
theorem lp__law_sided_program_0_eq (Φ : Nat → Fn) (ρ : EnvD) (M : Store) : lp__law_sided_program_0 Φ ρ M = (sSeq (sSet 10 (dFE (dEF (dCall 2 (Φ f__law_cell) (dCons (dVar 0) (dCons (dVar 1) dNil)))))) (sSeq (sSet 11 (dLc (dRng1 (dCons (dEF (dOp2 modD (dEF (dOp2 fdivD (dVarB 10) (dC (.int 5)))) (dC (.int 6)))) dNil)) (bName 15) dYes (el__law_sided_program_0 Φ) [15])) (sSeq (sSet 12 (dFE (dDisp ["names", "ahead", "quiet"] [(dVar 6), (dVar 3), (dC (.bl false))]))) (sSeq (sIf (dBo (dOp2 eqD (dEF (dOp2 modD (dEF (dOp2 fdivD (dVarB 10) (dC (.int 900)))) (dC (.int 4)))) (dC (.int 0)))) (sSeq (sFz 11 (sSet 14 (dFE (dEF (dCall 5 (Φ f__law_chain) (dCons (dVar 0) (dCons (dVar 1) (dCons (dVar 12) (dCons (dVar 11) (dCons (dEF (dOp2 addD (dC (.int 12)) (dEF (dOp2 modD (dEF (dOp2 fdivD (dVarB 10) (dC (.int 3600)))) (dC (.int 18)))))) dNil)))))))))) sNil) (sSeq (sFz 11 (sSet 14 (dFE (dEF (dCall 5 (Φ f__law_sided) (dCons (dVar 0) (dCons (dVar 1) (dCons (dVar 12) (dCons (dVar 11) (dCons (dEF (dPr min2D (dCons (dC (.int 3)) (dCons (dEF (dOp2 modD (dEF (dOp2 fdivD (dVarB 10) (dC (.int 60)))) (dC (.int 5)))) dNil)))) dNil)))))))))) sNil)) (sSeq (sSet 13 (dFE (dEF (dOp2 idxD (dVarB 7) (dEF (dOp2 modD (dEF (dOp2 addD (dEF (dOp2 addD (dEF (dOp2 modD (dEF (dOp2 fdivD (dVarB 10) (dC (.int 300)))) (dC (.int 3)))) (dC (.int 5)))) (dEF (dOp2 mulD (dC (.int 3)) (dVarB 9))))) (dC (.int 16)))))))) (sSeq (sApp 8 (dTup (dCons (dVar 13) (dCons (dEF (dPr tupleD (dCons (dVarB 11) dNil))) (dCons (dVar 14) dNil))))) (sSeq (sSet 3 (dFE (dEF (dOp2 addD (dVarB 3) (dEF (dLst (dCons (dTup (dCons (dEF (dOp2 idxD (dVarB 7) (dVarB 5))) (dCons (dVar 13) (dCons (dEF (dPr lenD (dCons (dVarB 11) dNil))) (dCons (dC (.bl false)) dNil))))) dNil))))))) sNil))))))) ρ M := rfl
def lp__law_sided_program_1 (Φ : Nat → Fn) : FS := (sSeq (sSet 8 (dLst dNil)) (sSeq (sFor (dRng1 (dCons (dEF (dOp2 modD (dEF (dOp2 fdivD (dEF (dCall 2 (Φ f__law_cell) (dCons (dVar 0) (dCons (dVar 1) dNil)))) (dC (.int 5)))) (dC (.int 4)))) dNil)) (bName 9) (lp__law_sided_program_0 Φ)) (sSeq (sApp 4 (dTup (dCons (dEF (dOp2 idxD (dVarB 7) (dVarB 5))) (dCons (dEF (dPr tupleD (dCons (dVarB 8) dNil))) dNil)))) sNil)))
theorem lp__law_sided_program_1_eq (Φ : Nat → Fn) (ρ : EnvD) (M : Store) : lp__law_sided_program_1 Φ ρ M = (sSeq (sSet 8 (dLst dNil)) (sSeq (sFor (dRng1 (dCons (dEF (dOp2 modD (dEF (dOp2 fdivD (dEF (dCall 2 (Φ f__law_cell) (dCons (dVar 0) (dCons (dVar 1) dNil)))) (dC (.int 5)))) (dC (.int 4)))) dNil)) (bName 9) (lp__law_sided_program_0 Φ)) (sSeq (sApp 4 (dTup (dCons (dEF (dOp2 idxD (dVarB 7) (dVarB 5))) (dCons (dEF (dPr tupleD (dCons (dVarB 8) dNil))) dNil)))) sNil))) ρ M := rfl
def m__law_sided_program (Φ : Nat → Fn) : FS := (sSeq (sSet 2 (dFE (dEF (dCall 2 (Φ f__law_cell) (dCons (dVar 0) (dCons (dVar 1) dNil)))))) (sSeq (sAsg (bTup [6, 7]) (dTup (dCons (dEF (dCall 1 (Φ f__law_names) (dCons (dVar 2) dNil))) (dCons (dEF (dCall 1 (Φ f__law_names) (dCons (dEF (dOp2 fdivD (dVarB 2) (dC (.int 7)))) dNil))) dNil)))) (sSeq (sSet 3 (dFE (dEF (dLst dNil)))) (sSeq (sSet 4 (dLst dNil)) (sSeq (sFor (dRng1 (dCons (dEF (dOp2 modD (dEF (dOp2 fdivD (dVarB 2) (dC (.int 384)))) (dC (.int 4)))) dNil)) (bName 5) (lp__law_sided_program_1 Φ)) (sSeq (sRet (dPr tupleD (dCons (dVarB 4) dNil))) sNil))))))
def lp_law_0 (Φ : Nat → Fn) : FS := (sSeq (sIf (dBo (dOp2 neD (dEF (dCall 1 (Φ f_text_of) (dCons (dVar 3) dNil))) (dEF (dCall 2 (Φ f__law_program_text) (dCons (dVar 3) (dCons (dEF (dLst dNil)) dNil)))))) (sSeq (sRet (dFE (dC (.bl false)))) sNil) sNil) sNil)
theorem lp_law_0_eq (Φ : Nat → Fn) (ρ : EnvD) (M : Store) : lp_law_0 Φ ρ M = (sSeq (sIf (dBo (dOp2 neD (dEF (dCall 1 (Φ f_text_of) (dCons (dVar 3) dNil))) (dEF (dCall 2 (Φ f__law_program_text) (dCons (dVar 3) (dCons (dEF (dLst dNil)) dNil)))))) (sSeq (sRet (dFE (dC (.bl false)))) sNil) sNil) sNil) ρ M := rfl
def lp_law_1 (Φ : Nat → Fn) : FS := (sSeq (sIf (dBo (dOp2 neD (dEF (dCall 2 (Φ f_expression_text) (dCons (dVar 5) (dCons (dVar 9) dNil)))) (dEF (dCall 3 (Φ f__law_text) (dCons (dVar 5) (dCons (dVar 9) (dCons (dEF (dLst dNil)) dNil))))))) (sSeq (sRet (dFE (dC (.bl false)))) sNil) sNil) sNil)
theorem lp_law_1_eq (Φ : Nat → Fn) (ρ : EnvD) (M : Store) : lp_law_1 Φ ρ M = (sSeq (sIf (dBo (dOp2 neD (dEF (dCall 2 (Φ f_expression_text) (dCons (dVar 5) (dCons (dVar 9) dNil)))) (dEF (dCall 3 (Φ f__law_text) (dCons (dVar 5) (dCons (dVar 9) (dCons (dEF (dLst dNil)) dNil))))))) (sSeq (sRet (dFE (dC (.bl false)))) sNil) sNil) sNil) ρ M := rfl
def lp_law_2 (Φ : Nat → Fn) : FS := (sSeq (sFor (dIt (dVar 6)) (bTup [7, 8, 9]) (lp_law_1 Φ)) sNil)
theorem lp_law_2_eq (Φ : Nat → Fn) (ρ : EnvD) (M : Store) : lp_law_2 Φ ρ M = (sSeq (sFor (dIt (dVar 6)) (bTup [7, 8, 9]) (lp_law_1 Φ)) sNil) ρ M := rfl
def lp_law_3 (Φ : Nat → Fn) : FS := (sSeq (sSet 3 (dFE (dEF (dIf (dBo (dOp2 (cmpD fun i j => decide (j < i)) (dVarB 2) (dC (.int 0)))) (dCall 2 (Φ f__law_sided_program) (dCons (dVar 0) (dCons (dVar 1) dNil))) (dCall 1 (Φ f__law_full) (dCons (dEF (dCall 2 (Φ f__law_cell) (dCons (dVar 0) (dCons (dVar 1) dNil)))) dNil)))))) (sSeq (sFor (dRng1 (dCons (dC (.int 2)) dNil)) (bName 4) (lp_law_0 Φ)) (sSeq (sFor (dIt (dVar 3)) (bTup [5, 6]) (lp_law_2 Φ)) sNil)))
theorem lp_law_3_eq (Φ : Nat → Fn) (ρ : EnvD) (M : Store) : lp_law_3 Φ ρ M = (sSeq (sSet 3 (dFE (dEF (dIf (dBo (dOp2 (cmpD fun i j => decide (j < i)) (dVarB 2) (dC (.int 0)))) (dCall 2 (Φ f__law_sided_program) (dCons (dVar 0) (dCons (dVar 1) dNil))) (dCall 1 (Φ f__law_full) (dCons (dEF (dCall 2 (Φ f__law_cell) (dCons (dVar 0) (dCons (dVar 1) dNil)))) dNil)))))) (sSeq (sFor (dRng1 (dCons (dC (.int 2)) dNil)) (bName 4) (lp_law_0 Φ)) (sSeq (sFor (dIt (dVar 3)) (bTup [5, 6]) (lp_law_2 Φ)) sNil))) ρ M := rfl
def m_law (Φ : Nat → Fn) : FS := (sSeq (sSet 1 (dFE (dEF (dRef (dLst (dCons (dC (.int 0)) dNil)))))) (sSeq (sFor (dRng1 (dCons (dEF (dOp2 addD (dC (.int 3)) (dEF (dPr min2D (dCons (dC (.int 4)) (dCons (dEF (dPr lenD (dCons (dVarB 0) dNil))) dNil)))))) dNil)) (bName 2) (lp_law_3 Φ)) (sSeq (sRet (dOp2 eqD (dEF (dCall 1 (Φ f_text_of) (dCons (dTup dNil) dNil))) (dC (.str "")))) sNil)))
/-- what the defs do, k calls within one another at most -/
def semS (Φ : Nat → Fn) (i : Nat) : Fn := match i with
    | 0 => runF 1 (m_level_of Φ)
    | 1 => runF 4 (m_side_text Φ)
    | 2 => runF 4 (m_call_text Φ)
    | 3 => runF 7 (m_sign_text Φ)
    | 4 => runF 9 (m_expression_text Φ)
    | 5 => runF 7 (m_text_of Φ)
    | 6 => runF 6 (m__law_cell Φ)
    | 7 => runF 6 (m__law_names Φ)
    | 8 => runF 1 (m__law_number Φ)
    | 9 => runF 3 (m__law_leaf Φ)
    | 10 => runF 8 (m__law_op Φ)
    | 11 => runF 15 (m__law_times Φ)
    | 12 => runF 13 (m__law_call Φ)
    | 13 => runF 13 (m__law_expression Φ)
    | 14 => runF 1 (m__law_level Φ)
    | 15 => runF 5 (m__law_side Φ)
    | 16 => runF 4 (m__law_free_text Φ)
    | 17 => runF 12 (m__law_text Φ)
    | 18 => runF 8 (m__law_program_text Φ)
    | 19 => runF 9 (m__law_sided Φ)
    | 20 => runF 12 (m__law_chain Φ)
    | 21 => runF 9 (m__law_full Φ)
    | 22 => runF 16 (m__law_sided_program Φ)
    | 23 => runF 10 (m_law Φ)
    | _ => fun _ _ => .bad
def sem : Nat → Nat → Fn
  | 0 => fun _ _ _ => .bad
  | k + 1 => semS (sem k)
theorem e_level_of (k : Nat) : sem (k + 1) f_level_of = runF 1 (m_level_of (sem k)) := rfl
theorem e_side_text (k : Nat) : sem (k + 1) f_side_text = runF 4 (m_side_text (sem k)) := rfl
theorem e_call_text (k : Nat) : sem (k + 1) f_call_text = runF 4 (m_call_text (sem k)) := rfl
theorem e_sign_text (k : Nat) : sem (k + 1) f_sign_text = runF 7 (m_sign_text (sem k)) := rfl
theorem e_expression_text (k : Nat) : sem (k + 1) f_expression_text = runF 9 (m_expression_text (sem k)) := rfl
theorem e_text_of (k : Nat) : sem (k + 1) f_text_of = runF 7 (m_text_of (sem k)) := rfl
theorem e__law_cell (k : Nat) : sem (k + 1) f__law_cell = runF 6 (m__law_cell (sem k)) := rfl
theorem e__law_names (k : Nat) : sem (k + 1) f__law_names = runF 6 (m__law_names (sem k)) := rfl
theorem e__law_number (k : Nat) : sem (k + 1) f__law_number = runF 1 (m__law_number (sem k)) := rfl
theorem e__law_leaf (k : Nat) : sem (k + 1) f__law_leaf = runF 3 (m__law_leaf (sem k)) := rfl
theorem e__law_op (k : Nat) : sem (k + 1) f__law_op = runF 8 (m__law_op (sem k)) := rfl
theorem e__law_times (k : Nat) : sem (k + 1) f__law_times = runF 15 (m__law_times (sem k)) := rfl
theorem e__law_call (k : Nat) : sem (k + 1) f__law_call = runF 13 (m__law_call (sem k)) := rfl
theorem e__law_expression (k : Nat) : sem (k + 1) f__law_expression = runF 13 (m__law_expression (sem k)) := rfl
theorem e__law_level (k : Nat) : sem (k + 1) f__law_level = runF 1 (m__law_level (sem k)) := rfl
theorem e__law_side (k : Nat) : sem (k + 1) f__law_side = runF 5 (m__law_side (sem k)) := rfl
theorem e__law_free_text (k : Nat) : sem (k + 1) f__law_free_text = runF 4 (m__law_free_text (sem k)) := rfl
theorem e__law_text (k : Nat) : sem (k + 1) f__law_text = runF 12 (m__law_text (sem k)) := rfl
theorem e__law_program_text (k : Nat) : sem (k + 1) f__law_program_text = runF 8 (m__law_program_text (sem k)) := rfl
theorem e__law_sided (k : Nat) : sem (k + 1) f__law_sided = runF 9 (m__law_sided (sem k)) := rfl
theorem e__law_chain (k : Nat) : sem (k + 1) f__law_chain = runF 12 (m__law_chain (sem k)) := rfl
theorem e__law_full (k : Nat) : sem (k + 1) f__law_full = runF 9 (m__law_full (sem k)) := rfl
theorem e__law_sided_program (k : Nat) : sem (k + 1) f__law_sided_program = runF 16 (m__law_sided_program (sem k)) := rfl
theorem e_law (k : Nat) : sem (k + 1) f_law = runF 10 (m_law (sem k)) := rfl
/-- what the top has left -/
structure Top (w : World) (K : PySem.W.Frag) (mg : Str → Option Value) where
  a_level_of : Addr
  d_level_of : FuncData
  F_level_of : Fun K "level_of" "level_of" s_level_of a_level_of d_level_of
  b_level_of : Binds K d_level_of ["expression"] []
  m_level_of : mg "level_of" = some (.ref a_level_of)
  a_side_text : Addr
  d_side_text : FuncData
  F_side_text : Fun K "side_text" "side_text" s_side_text a_side_text d_side_text
  b_side_text : Binds K d_side_text ["m", "expression", "level"] []
  m_side_text : mg "side_text" = some (.ref a_side_text)
  a_call_text : Addr
  d_call_text : FuncData
  F_call_text : Fun K "call_text" "call_text" s_call_text a_call_text d_call_text
  b_call_text : Binds K d_call_text ["m", "expression"] []
  m_call_text : mg "call_text" = some (.ref a_call_text)
  a_sign_text : Addr
  d_sign_text : FuncData
  F_sign_text : Fun K "sign_text" "sign_text" s_sign_text a_sign_text d_sign_text
  b_sign_text : Binds K d_sign_text ["m", "expression"] []
  m_sign_text : mg "sign_text" = some (.ref a_sign_text)
  a_expression_text : Addr
  d_expression_text : FuncData
  F_expression_text : Fun K "expression_text" "expression_text" s_expression_text a_expression_text d_expression_text
  b_expression_text : Binds K d_expression_text ["m", "expression"] []
  m_expression_text : mg "expression_text" = some (.ref a_expression_text)
  a_text_of : Addr
  d_text_of : FuncData
  F_text_of : Fun K "text_of" "text_of" s_text_of a_text_of d_text_of
  b_text_of : Binds K d_text_of ["program"] []
  m_text_of : mg "text_of" = some (.ref a_text_of)
  a__law_cell : Addr
  d__law_cell : FuncData
  F__law_cell : Fun K "_law_cell" "_law_cell" s__law_cell a__law_cell d__law_cell
  b__law_cell : Binds K d__law_cell ["_law_cells", "_law_spot"] []
  m__law_cell : mg "_law_cell" = some (.ref a__law_cell)
  a__law_names : Addr
  d__law_names : FuncData
  F__law_names : Fun K "_law_names" "_law_names" s__law_names a__law_names d__law_names
  b__law_names : Binds K d__law_names ["_law_n"] []
  m__law_names : mg "_law_names" = some (.ref a__law_names)
  a__law_number : Addr
  d__law_number : FuncData
  F__law_number : Fun K "_law_number" "_law_number" s__law_number a__law_number d__law_number
  b__law_number : Binds K d__law_number ["_law_n"] []
  m__law_number : mg "_law_number" = some (.ref a__law_number)
  a__law_leaf : Addr
  d__law_leaf : FuncData
  F__law_leaf : Fun K "_law_leaf" "_law_leaf" s__law_leaf a__law_leaf d__law_leaf
  b__law_leaf : Binds K d__law_leaf ["_law_at", "_law_scope", "_law_n"] []
  m__law_leaf : mg "_law_leaf" = some (.ref a__law_leaf)
  a__law_op : Addr
  d__law_op : FuncData
  F__law_op : Fun K "_law_op" "_law_op" s__law_op a__law_op d__law_op
  b__law_op : Binds K d__law_op ["_law_cells", "_law_spot", "_law_at", "_law_scope", "_law_deep", "_law_n"] []
  m__law_op : mg "_law_op" = some (.ref a__law_op)
  a__law_times : Addr
  d__law_times : FuncData
  F__law_times : Fun K "_law_times" "_law_times" s__law_times a__law_times d__law_times
  b__law_times : Binds K d__law_times ["_law_cells", "_law_spot", "_law_at", "_law_scope", "_law_deep", "_law_n"] []
  m__law_times : mg "_law_times" = some (.ref a__law_times)
  a__law_call : Addr
  d__law_call : FuncData
  F__law_call : Fun K "_law_call" "_law_call" s__law_call a__law_call d__law_call
  b__law_call : Binds K d__law_call ["_law_cells", "_law_spot", "_law_at", "_law_scope", "_law_deep", "_law_n"] []
  m__law_call : mg "_law_call" = some (.ref a__law_call)
  a__law_expression : Addr
  d__law_expression : FuncData
  F__law_expression : Fun K "_law_expression" "_law_expression" s__law_expression a__law_expression d__law_expression
  b__law_expression : Binds K d__law_expression ["_law_cells", "_law_spot", "_law_at", "_law_scope", "_law_deep"] []
  m__law_expression : mg "_law_expression" = some (.ref a__law_expression)
  a__law_level : Addr
  d__law_level : FuncData
  F__law_level : Fun K "_law_level" "_law_level" s__law_level a__law_level d__law_level
  b__law_level : Binds K d__law_level ["_law_e"] []
  m__law_level : mg "_law_level" = some (.ref a__law_level)
  a__law_side : Addr
  d__law_side : FuncData
  F__law_side : Fun K "_law_side" "_law_side" s__law_side a__law_side d__law_side
  b__law_side : Binds K d__law_side ["_law_m", "_law_e", "_law_least", "_law_more"] []
  m__law_side : mg "_law_side" = some (.ref a__law_side)
  a__law_free_text : Addr
  d__law_free_text : FuncData
  F__law_free_text : Fun K "_law_free_text" "_law_free_text" s__law_free_text a__law_free_text d__law_free_text
  b__law_free_text : Binds K d__law_free_text ["_law_m", "_law_e", "_law_more"] []
  m__law_free_text : mg "_law_free_text" = some (.ref a__law_free_text)
  a__law_text : Addr
  d__law_text : FuncData
  F__law_text : Fun K "_law_text" "_law_text" s__law_text a__law_text d__law_text
  b__law_text : Binds K d__law_text ["_law_m", "_law_e", "_law_more"] []
  m__law_text : mg "_law_text" = some (.ref a__law_text)
  a__law_program_text : Addr
  d__law_program_text : FuncData
  F__law_program_text : Fun K "_law_program_text" "_law_program_text" s__law_program_text a__law_program_text d__law_program_text
  b__law_program_text : Binds K d__law_program_text ["_law_program", "_law_more"] []
  m__law_program_text : mg "_law_program_text" = some (.ref a__law_program_text)
  a__law_sided : Addr
  d__law_sided : FuncData
  F__law_sided : Fun K "_law_sided" "_law_sided" s__law_sided a__law_sided d__law_sided
  b__law_sided : Binds K d__law_sided ["_law_cells", "_law_spot", "_law_at", "_law_scope", "_law_deep"] []
  m__law_sided : mg "_law_sided" = some (.ref a__law_sided)
  a__law_chain : Addr
  d__law_chain : FuncData
  F__law_chain : Fun K "_law_chain" "_law_chain" s__law_chain a__law_chain d__law_chain
  b__law_chain : Binds K d__law_chain ["_law_cells", "_law_spot", "_law_at", "_law_scope", "_law_many"] []
  m__law_chain : mg "_law_chain" = some (.ref a__law_chain)
  a__law_full : Addr
  d__law_full : FuncData
  F__law_full : Fun K "_law_full" "_law_full" s__law_full a__law_full d__law_full
  b__law_full : Binds K d__law_full ["_law_n"] []
  m__law_full : mg "_law_full" = some (.ref a__law_full)
  a__law_sided_program : Addr
  d__law_sided_program : FuncData
  F__law_sided_program : Fun K "_law_sided_program" "_law_sided_program" s__law_sided_program a__law_sided_program d__law_sided_program
  b__law_sided_program : Binds K d__law_sided_program ["_law_cells", "_law_spot"] []
  m__law_sided_program : mg "_law_sided_program" = some (.ref a__law_sided_program)
  a_law : Addr
  d_law : FuncData
  F_law : Fun K "law" "law" s_law a_law d_law
  b_law : Binds K d_law ["_law_script"] []
  m_law : mg "law" = some (.ref a_law)
  bb_law : ∀ (s : Shared) (v : Value), BindsTo s d_law ⟨[v], []⟩ [("_law_script", v)]
  z_int : mg "int" = none
  z_str : mg "str" = none
  z_len : mg "len" = none
  z_range : mg "range" = none
  z_tuple : mg "tuple" = none
  z_isinstance : mg "isinstance" = none
  z_zip : mg "zip" = none
  z_enumerate : mg "enumerate" = none
  z_min : mg "min" = none
  q_LEVELS : Addr
  c_LEVELS : mg "LEVELS" = some (.ref q_LEVELS)
  t_LEVELS : TabOk K w q_LEVELS k_LEVELS
  c_LEAST : ∃ t, mg "LEAST" = some (.int 1 t)
  q_FREE : Addr
  c_FREE : mg "FREE" = some (.ref q_FREE)
  r_FREE : ∀ A G, Rep K A G (.ref q_FREE) k_FREE
  c_HIGHEST : ∃ t, mg "HIGHEST" = some (.int 4 t)
section
variable {P : Program} {w : World} {K : PySem.W.Frag} {mg : Str → Option Value} {base : Heap}
structure Oks (P : Program) (w : World) (base : Heap) (T : Top w K mg) (k : Nat) : Prop where
  i_level_of : GOk P w K mg base CX0 k T.a_level_of T.d_level_of ["expression"] (spD K W0 1 (sem k f_level_of))
  i_side_text : GOk P w K mg base CX0 k T.a_side_text T.d_side_text ["m", "expression", "level"] (spD K W0 3 (sem k f_side_text))
  i_call_text : GOk P w K mg base CX0 k T.a_call_text T.d_call_text ["m", "expression"] (spD K W0 2 (sem k f_call_text))
  i_sign_text : GOk P w K mg base CX0 k T.a_sign_text T.d_sign_text ["m", "expression"] (spD K W0 2 (sem k f_sign_text))
  i_expression_text : GOk P w K mg base CX0 k T.a_expression_text T.d_expression_text ["m", "expression"] (spD K W0 2 (sem k f_expression_text))
  i_text_of : GOk P w K mg base CX0 k T.a_text_of T.d_text_of ["program"] (spD K W0 1 (sem k f_text_of))
  i__law_cell : GOk P w K mg base CX0 k T.a__law_cell T.d__law_cell ["_law_cells", "_law_spot"] (spD K W0 2 (sem k f__law_cell))
  i__law_names : GOk P w K mg base CX0 k T.a__law_names T.d__law_names ["_law_n"] (spD K W0 1 (sem k f__law_names))
  i__law_number : GOk P w K mg base CX0 k T.a__law_number T.d__law_number ["_law_n"] (spD K W0 1 (sem k f__law_number))
  i__law_leaf : GOk P w K mg base CX0 k T.a__law_leaf T.d__law_leaf ["_law_at", "_law_scope", "_law_n"] (spD K W0 3 (sem k f__law_leaf))
  i__law_op : GOk P w K mg base CX0 k T.a__law_op T.d__law_op ["_law_cells", "_law_spot", "_law_at", "_law_scope", "_law_deep", "_law_n"] (spD K W0 6 (sem k f__law_op))
  i__law_times : GOk P w K mg base CX0 k T.a__law_times T.d__law_times ["_law_cells", "_law_spot", "_law_at", "_law_scope", "_law_deep", "_law_n"] (spD K W0 6 (sem k f__law_times))
  i__law_call : GOk P w K mg base CX0 k T.a__law_call T.d__law_call ["_law_cells", "_law_spot", "_law_at", "_law_scope", "_law_deep", "_law_n"] (spD K W0 6 (sem k f__law_call))
  i__law_expression : GOk P w K mg base CX0 k T.a__law_expression T.d__law_expression ["_law_cells", "_law_spot", "_law_at", "_law_scope", "_law_deep"] (spD K W0 5 (sem k f__law_expression))
  i__law_level : GOk P w K mg base CX0 k T.a__law_level T.d__law_level ["_law_e"] (spD K W0 1 (sem k f__law_level))
  i__law_side : GOk P w K mg base CX0 k T.a__law_side T.d__law_side ["_law_m", "_law_e", "_law_least", "_law_more"] (spD K W0 4 (sem k f__law_side))
  i__law_free_text : GOk P w K mg base CX0 k T.a__law_free_text T.d__law_free_text ["_law_m", "_law_e", "_law_more"] (spD K W0 3 (sem k f__law_free_text))
  i__law_text : GOk P w K mg base CX0 k T.a__law_text T.d__law_text ["_law_m", "_law_e", "_law_more"] (spD K W0 3 (sem k f__law_text))
  i__law_program_text : GOk P w K mg base CX0 k T.a__law_program_text T.d__law_program_text ["_law_program", "_law_more"] (spD K W0 2 (sem k f__law_program_text))
  i__law_sided : GOk P w K mg base CX0 k T.a__law_sided T.d__law_sided ["_law_cells", "_law_spot", "_law_at", "_law_scope", "_law_deep"] (spD K W0 5 (sem k f__law_sided))
  i__law_chain : GOk P w K mg base CX0 k T.a__law_chain T.d__law_chain ["_law_cells", "_law_spot", "_law_at", "_law_scope", "_law_many"] (spD K W0 5 (sem k f__law_chain))
  i__law_full : GOk P w K mg base CX0 k T.a__law_full T.d__law_full ["_law_n"] (spD K W0 1 (sem k f__law_full))
  i__law_sided_program : GOk P w K mg base CX0 k T.a__law_sided_program T.d__law_sided_program ["_law_cells", "_law_spot"] (spD K W0 2 (sem k f__law_sided_program))
  i_law : GOk P w K mg base CX0 k T.a_law T.d_law ["_law_script"] (spD K W0 1 (sem k f_law))
theorem ok_level_of (T : Top w K mg) {k : Nat} (ih : Oks P w base T k) : GOk P w K mg base CX0 (k + 1) T.a_level_of T.d_level_of ["expression"] (spD K W0 1 (sem (k + 1) f_level_of)) := by
  rw [e_level_of]
  refine g_fn (N := ["expression"]) (ps := ["expression"]) (g := m_level_of (sem k)) T.F_level_of sc_level_of (fun cdv A outer s H EX hr hq => ?_)
  have hc := hr
  exact (s_seq (pss_cons (s_if (ps_if (x_test2 (pt_cmpR op_inA (c_EB (x_ix (pe_ix ix_seq (x_varB (pv 0)) (c_FB (x_c pe_int fun _ _ => .int _)) (fun _ _ => rfl)))) (c_FB (x_c (pe_glob (v := .ref T.q_FREE) (by rfl) T.c_FREE rfl) T.r_FREE)) rfl) p_in) (s_seq (pss_cons (s_ret (ps_ret (c_FE (x_c pe_int fun _ _ => .int _)))) (s_nil pss_nil))) (s_nil pss_nil))) (s_seq (pss_cons (s_ret (ps_ret (x_if (pe_ifExp (x_test2 (pt_cmpR (op_eqW (un_of hr)) (c_EB (x_ix (pe_ix ix_seq (x_varB (pv 0)) (c_FB (x_c pe_int fun _ _ => .int _)) (fun _ _ => rfl)))) (c_FB (x_c pe_str fun _ _ => .str _)) rfl) p_eq) (c_FE (x_tab T.t_LEVELS rfl (pe_ix ix_kdict (pe_glob (v := .ref T.q_LEVELS) (by rfl) T.c_LEVELS rfl) (c_EB (x_ix (pe_ix ix_seq (x_varB (pv 0)) (c_FB (x_c pe_int fun _ _ => .int _)) (fun _ _ => rfl)))) (fun _ _ => rfl)))) (c_FE (x_c (pe_glob (v := .int 4) (by rfl) T.c_HIGHEST.choose_spec ⟨_, rfl⟩) fun _ _ => .int _)))))) (s_nil pss_nil)))))
theorem ok_side_text (T : Top w K mg) {k : Nat} (ih : Oks P w base T k) : GOk P w K mg base CX0 (k + 1) T.a_side_text T.d_side_text ["m", "expression", "level"] (spD K W0 3 (sem (k + 1) f_side_text)) := by
  rw [e_side_text]
  refine g_fn (N := ["m", "expression", "level", "text"]) (ps := ["m", "expression", "level"]) (g := m_side_text (sem k)) T.F_side_text sc_side_text (fun cdv A outer s H EX hr hq => ?_)
  have hc := hr
  exact (s_seq (pss_cons (s_set (ps_set (i := 3) sc_side_text.nd rfl (by first | exact Or.inl rfl | exact Or.inr rfl) (c_FE (c_EF (x_call rfl (g_call ih.i_expression_text hc hq (by rfl) T.m_expression_text T.F_expression_text.kp T.b_expression_text pass0 (xa_cons (pa_cons (x_var (pv 0)) (xa_cons (pa_cons (x_var (pv 1)) (xa_nil pa_nil))))))))))) (s_seq (pss_cons (s_ret (ps_ret (x_if (pe_ifExp (x_test2 (pt_cmpR op_lt (c_EB (x_call rfl (g_call ih.i_level_of hc hq (by rfl) T.m_level_of T.F_level_of.kp T.b_level_of pass0 (xa_cons (pa_cons (x_var (pv 1)) (xa_nil pa_nil)))))) (x_varB (pv 2)) rfl) (p_cmp fun i j => decide (i < j))) (x_op2 (pe_op op_addA (c_EB (x_op2 (pe_op op_addA (c_FB (x_c pe_str fun _ _ => .str _)) (x_varB (pv 3))) p_add)) (c_FB (x_c pe_str fun _ _ => .str _))) p_add) (c_FE (x_var (pv 3))))))) (s_nil pss_nil)))))
theorem ok_call_text (T : Top w K mg) {k : Nat} (ih : Oks P w base T k) : GOk P w K mg base CX0 (k + 1) T.a_call_text T.d_call_text ["m", "expression"] (spD K W0 2 (sem (k + 1) f_call_text)) := by
  rw [e_call_text]
  refine g_fn (N := ["m", "expression", "name", "one"]) (ps := ["m", "expression"]) (g := m_call_text (sem k)) T.F_call_text sc_call_text (fun cdv A outer s H EX hr hq => ?_)
  have hc := hr
  exact (s_seq (pss_cons (s_set (ps_set (i := 2) sc_call_text.nd rfl (by first | exact Or.inl rfl | exact Or.inr rfl) (c_FE (c_EF (x_if (pe_ifExp (x_test2 (pt_cmpR (op_eqW (un_of hr)) (c_EB (x_ix (pe_ix ix_seq (x_varB (pv 1)) (c_FB (x_c pe_int fun _ _ => .int _)) (fun _ _ => rfl)))) (x_varB (pv 0)) rfl) p_eq) (x_ix (pe_ix ix_seq (x_varB (pv 1)) (c_FB (x_c pe_int fun _ _ => .int _)) (fun _ _ => rfl))) (x_op2 (pe_op op_addA (c_EB (x_op2 (pe_op op_addA (c_EB (x_ix (pe_ix ix_seq (x_varB (pv 1)) (c_FB (x_c pe_int fun _ _ => .int _)) (fun _ _ => rfl)))) (c_FB (x_c pe_str fun _ _ => .str _))) p_add)) (c_EB (x_ix (pe_ix ix_seq (x_varB (pv 1)) (c_FB (x_c pe_int fun _ _ => .int _)) (fun _ _ => rfl))))) p_add))))))) (s_seq (pss_cons (s_ret (ps_ret (x_op2 (pe_op op_addA (c_EB (x_op2 (pe_op op_addA (c_EB (x_op2 (pe_op op_addA (x_varB (pv 2)) (c_FB (x_c pe_str fun _ _ => .str _))) p_add)) (c_EB (x_meth (pe_bm PySem.F.plainAttrs_str PySem.F.slot_str_join PySem.F.type_str_join mt_join (c_FB (x_c pe_str fun _ _ => .str _)) (xr_cons (pa_cons (c_EB (x_lc (by decide) (pe_lc (own := [("one", 3)]) rfl sc_call_text.nd (x_it (PI.or (pi_list (c_EF (x_ix (pe_ix ix_seq (x_varB (pv 1)) (c_FB (x_c pe_int fun _ _ => .int _)) (fun _ _ => rfl))))) (PI.or (pi_tup (c_EF (x_ix (pe_ix ix_seq (x_varB (pv 1)) (c_FB (x_c pe_int fun _ _ => .int _)) (fun _ _ => rfl))))) (pi_str (c_EF (x_ix (pe_ix ix_seq (x_varB (pv 1)) (c_FB (x_c pe_int fun _ _ => .int _)) (fun _ _ => rfl)))))))) (blkOk_by (N := ["m", "expression", "name", "one"]) (sc := defScope s_call_text) (by decide +kernel)) (fun _ _ _ _ _ => (x_gname (pg_name (i := 3) sc_call_text.nd rfl (by first | exact Or.inl rfl | exact Or.inr rfl)))) (fun _ _ _ _ _ => x_yes) (fun _ _ _ _ _ => (c_EF (x_call rfl (g_call ih.i_expression_text hc hq (by rfl) T.m_expression_text T.F_expression_text.kp T.b_expression_text pass0 (xa_cons (pa_cons (x_var (pv 0)) (xa_cons (pa_cons (x_var (pv 3)) (xa_nil pa_nil)))))))))))) (xr_nil pa_nil)))) p_join))) p_add)) (c_FB (x_c pe_str fun _ _ => .str _))) p_add))) (s_nil pss_nil)))))
theorem ok_sign_text (T : Top w K mg) {k : Nat} (ih : Oks P w base T k) : GOk P w K mg base CX0 (k + 1) T.a_sign_text T.d_sign_text ["m", "expression"] (spD K W0 2 (sem (k + 1) f_sign_text)) := by
  rw [e_sign_text]
  refine g_fn (N := ["m", "expression", "level", "left", "sign", "one", "other"]) (ps := ["m", "expression"]) (g := m_sign_text (sem k)) T.F_sign_text sc_sign_text (fun cdv A outer s H EX hr hq => ?_)
  have hc := hr
  exact (s_seq (pss_cons (s_asg (ps_asg (c_EF (x_sl (pe_slice sl_A3 (x_varB (pv 1)) (x_so (c_FB (x_c pe_int fun _ _ => .int _))) x_no) p_sl)) (x_gtup (is := [4, 5, 6]) rfl (pg_tup rfl (pgs_cons (pg_name (i := 4) sc_sign_text.nd rfl (by first | exact Or.inl rfl | exact Or.inr rfl)) (pgs_cons (pg_name (i := 5) sc_sign_text.nd rfl (by first | exact Or.inl rfl | exact Or.inr rfl)) (pgs_cons (pg_name (i := 6) sc_sign_text.nd rfl (by first | exact Or.inl rfl | exact Or.inr rfl)) pgs_nil))))))) (s_seq (pss_cons (s_set (ps_set (i := 2) sc_sign_text.nd rfl (by first | exact Or.inl rfl | exact Or.inr rfl) (c_FE (x_tab T.t_LEVELS rfl (pe_ix ix_kdict (pe_glob (v := .ref T.q_LEVELS) (by rfl) T.c_LEVELS rfl) (x_varB (pv 4)) (fun _ _ => rfl)))))) (s_seq (pss_cons (s_set (ps_set (i := 3) sc_sign_text.nd rfl (by first | exact Or.inl rfl | exact Or.inr rfl) (c_FE (c_EF (x_call rfl (g_call ih.i_side_text hc hq (by rfl) T.m_side_text T.F_side_text.kp T.b_side_text pass0 (xa_cons (pa_cons (x_var (pv 0)) (xa_cons (pa_cons (x_var (pv 5)) (xa_cons (pa_cons (c_EF (x_op2 (pe_op op_addA (x_varB (pv 2)) (c_EB (x_prim (pe_callTy call_int1 (by rfl) T.z_int bt_int (xr_cons (pa_cons (c_EB (x_op2 (pe_cmpR (op_eqW (un_of hr)) (x_varB (pv 2)) (c_FB (x_c (pe_glob (v := .int 1) (by rfl) T.c_LEAST.choose_spec ⟨_, rfl⟩) fun _ _ => .int _)) rfl) p_eq)) (xr_nil pa_nil)))) p_int))) p_add)) (xa_nil pa_nil))))))))))))) (s_seq (pss_cons (s_ret (ps_ret (x_op2 (pe_op op_addA (c_EB (x_op2 (pe_op op_addA (c_EB (x_op2 (pe_op op_addA (c_EB (x_op2 (pe_op op_addA (x_varB (pv 3)) (c_FB (x_c pe_str fun _ _ => .str _))) p_add)) (x_varB (pv 4))) p_add)) (c_FB (x_c pe_str fun _ _ => .str _))) p_add)) (c_EB (x_call rfl (g_call ih.i_side_text hc hq (by rfl) T.m_side_text T.F_side_text.kp T.b_side_text pass0 (xa_cons (pa_cons (x_var (pv 0)) (xa_cons (pa_cons (x_var (pv 6)) (xa_cons (pa_cons (c_EF (x_op2 (pe_op op_addA (x_varB (pv 2)) (c_FB (x_c pe_int fun _ _ => .int _))) p_add)) (xa_nil pa_nil))))))))))) p_add))) (s_nil pss_nil)))))))))
theorem ok_expression_text (T : Top w K mg) {k : Nat} (ih : Oks P w base T k) : GOk P w K mg base CX0 (k + 1) T.a_expression_text T.d_expression_text ["m", "expression"] (spD K W0 2 (sem (k + 1) f_expression_text)) := by
  rw [e_expression_text]
  refine g_fn (N := ["m", "expression", "word", "texts", "many", "total", "body", "part", "spot"]) (ps := ["m", "expression"]) (g := m_expression_text (sem k)) T.F_expression_text sc_expression_text (fun cdv A outer s H EX hr hq => ?_)
  have hc := hr
  exact (s_seq (pss_cons (s_set (ps_set (i := 2) sc_expression_text.nd rfl (by first | exact Or.inl rfl | exact Or.inr rfl) (c_FE (c_EF (x_ix (pe_ix ix_seq (x_varB (pv 1)) (c_FB (x_c pe_int fun _ _ => .int _)) (fun _ _ => rfl))))))) (s_seq (pss_cons (s_if (ps_if (x_test2 (pt_cmpR op_inA (x_varB (pv 2)) (c_FB (x_tup (pe_tup (xa_cons (pa_cons (x_c pe_str fun _ _ => .str _) (xa_cons (pa_cons (x_c pe_str fun _ _ => .str _) (xa_nil pa_nil)))))))) rfl) p_in) (s_seq (pss_cons (s_ret (ps_ret (x_prim (pe_callTy call_strA (by rfl) T.z_str bt_str (xr_cons (pa_cons (c_EB (x_ix (pe_ix ix_seq (x_varB (pv 1)) (c_FB (x_c pe_int fun _ _ => .int _)) (fun _ _ => rfl)))) (xr_nil pa_nil)))) p_str))) (s_nil pss_nil))) (s_nil pss_nil))) (s_seq (pss_cons (s_if (ps_if (x_test2 (pt_cmpR (op_eqW (un_of hr)) (x_varB (pv 2)) (c_FB (x_c pe_str fun _ _ => .str _)) rfl) p_eq) (s_seq (pss_cons (s_ret (ps_ret (x_call rfl (g_call ih.i_sign_text hc hq (by rfl) T.m_sign_text T.F_sign_text.kp T.b_sign_text pass0 (xa_cons (pa_cons (x_var (pv 0)) (xa_cons (pa_cons (x_var (pv 1)) (xa_nil pa_nil))))))))) (s_nil pss_nil))) (s_nil pss_nil))) (s_seq (pss_cons (s_if (ps_if (x_test2 (pt_cmpR (op_eqW (un_of hr)) (x_varB (pv 2)) (c_FB (x_c pe_str fun _ _ => .str _)) rfl) p_eq) (s_seq (pss_cons (s_ret (ps_ret (x_call rfl (g_call ih.i_call_text hc hq (by rfl) T.m_call_text T.F_call_text.kp T.b_call_text pass0 (xa_cons (pa_cons (x_var (pv 0)) (xa_cons (pa_cons (x_var (pv 1)) (xa_nil pa_nil))))))))) (s_nil pss_nil))) (s_nil pss_nil))) (s_seq (pss_cons (s_if (ps_if (x_test2 (pt_cmpR (op_eqW (un_of hr)) (x_varB (pv 2)) (c_FB (x_c pe_str fun _ _ => .str _)) rfl) p_eq) (s_seq (pss_cons (s_asg (ps_asg (c_EF (x_lc (by decide) (pe_lc (own := [("spot", 8)]) rfl sc_expression_text.nd (x_it (PI.or (pi_list (x_tup (pe_tup (xa_cons (pa_cons (x_c pe_int fun _ _ => .int _) (xa_cons (pa_cons (x_c pe_int fun _ _ => .int _) (xa_cons (pa_cons (x_c pe_int fun _ _ => .int _) (xa_nil pa_nil)))))))))) (PI.or (pi_tup (x_tup (pe_tup (xa_cons (pa_cons (x_c pe_int fun _ _ => .int _) (xa_cons (pa_cons (x_c pe_int fun _ _ => .int _) (xa_cons (pa_cons (x_c pe_int fun _ _ => .int _) (xa_nil pa_nil)))))))))) (pi_str (x_tup (pe_tup (xa_cons (pa_cons (x_c pe_int fun _ _ => .int _) (xa_cons (pa_cons (x_c pe_int fun _ _ => .int _) (xa_cons (pa_cons (x_c pe_int fun _ _ => .int _) (xa_nil pa_nil))))))))))))) (blkOk_by (N := ["m", "expression", "word", "texts", "many", "total", "body", "part", "spot"]) (sc := defScope s_expression_text) (by decide +kernel)) (fun _ _ _ _ _ => (x_gname (pg_name (i := 8) sc_expression_text.nd rfl (by first | exact Or.inl rfl | exact Or.inr rfl)))) (fun _ _ _ _ _ => x_yes) (fun _ _ _ _ _ => (c_EF (x_call rfl (g_call ih.i_expression_text hc hq (by rfl) T.m_expression_text T.F_expression_text.kp T.b_expression_text pass0 (xa_cons (pa_cons (x_var (pv 0)) (xa_cons (pa_cons (c_EF (x_ix (pe_ix ix_seq (x_varB (pv 1)) (x_varB (pv 8)) (fun _ _ => rfl)))) (xa_nil pa_nil)))))))))))) (x_glst (is := [4, 5, 6]) rfl (pg_lst rfl (pgs_cons (pg_name (i := 4) sc_expression_text.nd rfl (by first | exact Or.inl rfl | exact Or.inr rfl)) (pgs_cons (pg_name (i := 5) sc_expression_text.nd rfl (by first | exact Or.inl rfl | exact Or.inr rfl)) (pgs_cons (pg_name (i := 6) sc_expression_text.nd rfl (by first | exact Or.inl rfl | exact Or.inr rfl)) pgs_nil))))))) (s_seq (pss_cons (s_ret (ps_ret (x_op2 (pe_op op_addA (c_EB (x_op2 (pe_op op_addA (c_EB (x_op2 (pe_op op_addA (c_EB (x_op2 (pe_op op_addA (c_EB (x_op2 (pe_op op_addA (c_EB (x_op2 (pe_op op_addA (c_EB (x_op2 (pe_op op_addA (c_EB (x_op2 (pe_op op_addA (c_EB (x_op2 (pe_op op_addA (c_FB (x_c pe_str fun _ _ => .str _)) (x_varB (pv 4))) p_add)) (c_FB (x_c pe_str fun _ _ => .str _))) p_add)) (c_EB (x_ix (pe_ix ix_seq (x_varB (pv 1)) (c_FB (x_c pe_int fun _ _ => .int _)) (fun _ _ => rfl))))) p_add)) (c_FB (x_c pe_str fun _ _ => .str _))) p_add)) (c_EB (x_ix (pe_ix ix_seq (x_varB (pv 1)) (c_FB (x_c pe_int fun _ _ => .int _)) (fun _ _ => rfl))))) p_add)) (c_FB (x_c pe_str fun _ _ => .str _))) p_add)) (x_varB (pv 5))) p_add)) (c_FB (x_c pe_str fun _ _ => .str _))) p_add)) (x_varB (pv 6))) p_add))) (s_nil pss_nil))))) (s_nil pss_nil))) (s_seq (pss_cons (s_setLc (by decide) (ps_setLc (i := 3) (own := [("part", 7)]) rfl sc_expression_text.nd rfl rfl (sw_true rfl rfl rfl (by decide +kernel)) (x_it (PI.or (pi_list (c_EF (x_sl (pe_slice sl_A3 (x_varB (pv 1)) (x_so (c_EB (x_op2 (pe_op op_addA (c_FB (x_c pe_int fun _ _ => .int _)) (c_EB (x_prim (pe_callTy call_int1 (by rfl) T.z_int bt_int (xr_cons (pa_cons (c_EB (x_op2 (pe_cmpR (op_eqW (un_of hr)) (x_varB (pv 2)) (c_FB (x_c pe_str fun _ _ => .str _)) rfl) p_eq)) (xr_nil pa_nil)))) p_int))) p_add))) x_no) p_sl))) (PI.or (pi_tup (c_EF (x_sl (pe_slice sl_A3 (x_varB (pv 1)) (x_so (c_EB (x_op2 (pe_op op_addA (c_FB (x_c pe_int fun _ _ => .int _)) (c_EB (x_prim (pe_callTy call_int1 (by rfl) T.z_int bt_int (xr_cons (pa_cons (c_EB (x_op2 (pe_cmpR (op_eqW (un_of hr)) (x_varB (pv 2)) (c_FB (x_c pe_str fun _ _ => .str _)) rfl) p_eq)) (xr_nil pa_nil)))) p_int))) p_add))) x_no) p_sl))) (pi_str (c_EF (x_sl (pe_slice sl_A3 (x_varB (pv 1)) (x_so (c_EB (x_op2 (pe_op op_addA (c_FB (x_c pe_int fun _ _ => .int _)) (c_EB (x_prim (pe_callTy call_int1 (by rfl) T.z_int bt_int (xr_cons (pa_cons (c_EB (x_op2 (pe_cmpR (op_eqW (un_of hr)) (x_varB (pv 2)) (c_FB (x_c pe_str fun _ _ => .str _)) rfl) p_eq)) (xr_nil pa_nil)))) p_int))) p_add))) x_no) p_sl)))))) (blkOk_by (N := ["m", "expression", "word", "texts", "many", "total", "body", "part", "spot"]) (sc := defScope s_expression_text) (by decide +kernel)) (fun _ _ _ _ _ => (x_gname (pg_name (i := 7) sc_expression_text.nd rfl (by first | exact Or.inl rfl | exact Or.inr rfl)))) (fun _ _ _ _ _ => x_yes) (fun _ _ _ _ _ => (c_EF (x_call rfl (g_call ih.i_expression_text hc hq (by rfl) T.m_expression_text T.F_expression_text.kp T.b_expression_text pass0 (xa_cons (pa_cons (x_var (pv 0)) (xa_cons (pa_cons (x_var (pv 7)) (xa_nil pa_nil))))))))))) (s_seq (pss_cons (s_if (ps_if (x_test2 (pt_cmpR (op_eqW (un_of hr)) (x_varB (pv 2)) (c_FB (x_c pe_str fun _ _ => .str _)) rfl) p_eq) (s_seq (pss_cons (s_ret (ps_ret (x_op2 (pe_op op_addA (c_EB (x_op2 (pe_op op_addA (c_EB (x_op2 (pe_op op_addA (c_EB (x_op2 (pe_op op_addA (c_EB (x_op2 (pe_op op_addA (c_FB (x_c pe_str fun _ _ => .str _)) (c_EB (x_ix (pe_ix ix_seq (x_varB (pv 1)) (c_FB (x_c pe_int fun _ _ => .int _)) (fun _ _ => rfl))))) p_add)) (c_FB (x_c pe_str fun _ _ => .str _))) p_add)) (c_EB (x_ix (pe_ix ix_seq (x_varB (pv 3)) (c_FB (x_c pe_int fun _ _ => .int _)) (fun _ _ => rfl))))) p_add)) (c_FB (x_c pe_str fun _ _ => .str _))) p_add)) (c_EB (x_ix (pe_ix ix_seq (x_varB (pv 3)) (c_FB (x_c pe_int fun _ _ => .int _)) (fun _ _ => rfl))))) p_add))) (s_nil pss_nil))) (s_nil pss_nil))) (s_seq (pss_cons (s_if (ps_if (x_test2 (pt_cmpR (op_eqW (un_of hr)) (x_varB (pv 2)) (c_FB (x_c pe_str fun _ _ => .str _)) rfl) p_eq) (s_seq (pss_cons (s_ret (ps_ret (x_op2 (pe_op op_addA (c_EB (x_op2 (pe_op op_addA (c_EB (x_op2 (pe_op op_addA (c_EB (x_op2 (pe_op op_addA (c_EB (x_op2 (pe_op op_addA (c_FB (x_c pe_str fun _ _ => .str _)) (c_EB (x_ix (pe_ix ix_seq (x_varB (pv 3)) (c_FB (x_c pe_int fun _ _ => .int _)) (fun _ _ => rfl))))) p_add)) (c_FB (x_c pe_str fun _ _ => .str _))) p_add)) (c_EB (x_ix (pe_ix ix_seq (x_varB (pv 3)) (c_FB (x_c pe_int fun _ _ => .int _)) (fun _ _ => rfl))))) p_add)) (c_FB (x_c pe_str fun _ _ => .str _))) p_add)) (c_EB (x_ix (pe_ix ix_seq (x_varB (pv 3)) (c_FB (x_c pe_int fun _ _ => .int _)) (fun _ _ => rfl))))) p_add))) (s_nil pss_nil))) (s_nil pss_nil))) (s_seq (pss_cons (s_ret (ps_ret (x_if (pe_ifExp (x_test2 (pt_cmpR (op_eqW (un_of hr)) (x_varB (pv 2)) (c_FB (x_c pe_str fun _ _ => .str _)) rfl) p_eq) (x_op2 (pe_op op_addA (c_EB (x_op2 (pe_op op_addA (c_EB (x_op2 (pe_op op_addA (c_FB (x_c pe_str fun _ _ => .str _)) (c_EB (x_ix (pe_ix ix_seq (x_varB (pv 3)) (c_FB (x_c pe_int fun _ _ => .int _)) (fun _ _ => rfl))))) p_add)) (c_FB (x_c pe_str fun _ _ => .str _))) p_add)) (c_EB (x_ix (pe_ix ix_seq (x_varB (pv 3)) (c_FB (x_c pe_int fun _ _ => .int _)) (fun _ _ => rfl))))) p_add) (x_op2 (pe_op op_addA (c_FB (x_c pe_str fun _ _ => .str _)) (c_EB (x_ix (pe_ix ix_seq (x_varB (pv 3)) (c_FB (x_c pe_int fun _ _ => .int _)) (fun _ _ => rfl))))) p_add))))) (s_nil pss_nil)))))))))))))))))))
theorem ok_text_of (T : Top w K mg) {k : Nat} (ih : Oks P w base T k) : GOk P w K mg base CX0 (k + 1) T.a_text_of T.d_text_of ["program"] (spD K W0 1 (sem (k + 1) f_text_of)) := by
  rw [e_text_of]
  refine g_fn (N := ["program", "lines", "m", "rows", "f", "params", "body"]) (ps := ["program"]) (g := m_text_of (sem k)) T.F_text_of sc_text_of (fun cdv A outer s H EX hr hq => ?_)
  have hc := hr
  exact (s_seq (pss_cons (s_set (ps_set (i := 1) sc_text_of.nd rfl (by first | exact Or.inl rfl | exact Or.inr rfl) (x_lst (pe_lst (xa_nil pa_nil))))) (s_seq (pss_cons (s_for (ps_for PassesOwn.never rfl (x_it (PI.or (pi_list (x_var (pv 0))) (PI.or (pi_tup (x_var (pv 0))) (pi_str (x_var (pv 0)))))) (x_gtup (is := [2, 3]) rfl (pg_tup rfl (pgs_cons (pg_name (i := 2) sc_text_of.nd rfl (by first | exact Or.inl rfl | exact Or.inr rfl)) (pgs_cons (pg_name (i := 3) sc_text_of.nd rfl (by first | exact Or.inl rfl | exact Or.inr rfl)) pgs_nil)))) (s_seq (pss_cons (s_app (ps_expr (pe_bm PySem.F.plainAttrs_list PySem.F.slot_list_append PySem.F.type_list_append mt_append (pv 1) (pa_cons (c_EF (x_op2 (pe_op op_addA (c_FB (x_c pe_str fun _ _ => .str _)) (x_varB (pv 2))) p_add)) pa_nil)))) (s_seq (pss_cons (s_for (ps_for PassesOwn.never rfl (x_it (PI.or (pi_list (x_var (pv 3))) (PI.or (pi_tup (x_var (pv 3))) (pi_str (x_var (pv 3)))))) (x_gtup (is := [4, 5, 6]) rfl (pg_tup rfl (pgs_cons (pg_name (i := 4) sc_text_of.nd rfl (by first | exact Or.inl rfl | exact Or.inr rfl)) (pgs_cons (pg_name (i := 5) sc_text_of.nd rfl (by first | exact Or.inl rfl | exact Or.inr rfl)) (pgs_cons (pg_name (i := 6) sc_text_of.nd rfl (by first | exact Or.inl rfl | exact Or.inr rfl)) pgs_nil))))) (s_seq (pss_cons (s_app (ps_expr (pe_bm PySem.F.plainAttrs_list PySem.F.slot_list_append PySem.F.type_list_append mt_append (pv 1) (pa_cons (c_EF (x_op2 (pe_op op_addA (c_EB (x_op2 (pe_op op_addA (c_EB (x_op2 (pe_op op_addA (c_EB (x_op2 (pe_op op_addA (c_EB (x_op2 (pe_op op_addA (c_FB (x_c pe_str fun _ _ => .str _)) (x_varB (pv 4))) p_add)) (c_FB (x_c pe_str fun _ _ => .str _))) p_add)) (c_EB (x_meth (pe_bm PySem.F.plainAttrs_str PySem.F.slot_str_join PySem.F.type_str_join mt_join (c_FB (x_c pe_str fun _ _ => .str _)) (xr_cons (pa_cons (x_varB (pv 5)) (xr_nil pa_nil)))) p_join))) p_add)) (c_FB (x_c pe_str fun _ _ => .str _))) p_add)) (c_EB (x_call rfl (g_call ih.i_expression_text hc hq (by rfl) T.m_expression_text T.F_expression_text.kp T.b_expression_text pass0 (xa_cons (pa_cons (x_var (pv 2)) (xa_cons (pa_cons (x_var (pv 6)) (xa_nil pa_nil))))))))) p_add)) pa_nil)))) (s_nil pss_nil))))) (s_nil pss_nil))))))) (s_seq (pss_cons (s_ret (ps_ret (x_meth (pe_bm PySem.F.plainAttrs_str PySem.F.slot_str_join PySem.F.type_str_join mt_join (c_FB (x_c pe_str fun _ _ => .str _)) (xr_cons (pa_cons (x_varB (pv 1)) (xr_nil pa_nil)))) p_join))) (s_nil pss_nil)))))))
theorem ok__law_cell (T : Top w K mg) {k : Nat} (ih : Oks P w base T k) : GOk P w K mg base CX0 (k + 1) T.a__law_cell T.d__law_cell ["_law_cells", "_law_spot"] (spD K W0 2 (sem (k + 1) f__law_cell)) := by
  rw [e__law_cell]
  refine g_fn (N := ["_law_cells", "_law_spot", "_law_k", "_law_base", "_law_own", "_law_turn"]) (ps := ["_law_cells", "_law_spot"]) (g := m__law_cell (sem k)) T.F__law_cell sc__law_cell (fun cdv A outer s H EX hr hq => ?_)
  have hc := hr
  exact (s_seq (pss_cons (s_putR (ps_asg (c_EF (x_op2 (pe_op op_addA (c_EB (x_ix (pe_ix ix_seq (x_varB (pv 1)) (c_FB (x_c pe_int fun _ _ => .int _)) (fun _ _ => rfl)))) (c_FB (x_c pe_int fun _ _ => .int _))) p_add)) (pg_sub (x_varB (pv 1)) (c_FB (x_c pe_int fun _ _ => .int _)) set_list))) (s_seq (pss_cons (s_set (ps_set (i := 2) sc__law_cell.nd rfl (by first | exact Or.inl rfl | exact Or.inr rfl) (c_FE (c_EF (x_ix (pe_ix ix_seq (x_varB (pv 1)) (c_FB (x_c pe_int fun _ _ => .int _)) (fun _ _ => rfl))))))) (s_seq (pss_cons (s_set (ps_set (i := 3) sc__law_cell.nd rfl (by first | exact Or.inl rfl | exact Or.inr rfl) (c_FE (c_EF (x_op2 (pe_op op_addA (c_EB (x_op2 (pe_op op_mulA (c_EB (x_op2 (pe_op op_mulA (c_FB (x_c pe_int fun _ _ => .int _)) (x_varB (pv 2))) p_mul)) (x_varB (pv 2))) p_mul)) (c_EB (x_op2 (pe_op op_mulA (c_FB (x_c pe_int fun _ _ => .int _)) (x_varB (pv 2))) p_mul))) p_add))))) (s_seq (pss_cons (s_if (ps_if (PW.pt (x_and (pw_and (x_test2 (pt_cmpR op_gt (c_EB (x_prim (pe_callB call_lenA (by rfl) T.z_len bt_len (xr_cons (pa_cons (x_varB (pv 0)) (xr_nil pa_nil)))) p_len)) (c_FB (x_c pe_int fun _ _ => .int _)) rfl) (p_cmp fun i j => decide (j < i))) (x_and (pw_and (x_test2 (pt_cmpR op_ge (c_EB (x_ix (pe_ix ix_seq (x_varB (pv 0)) (c_EB (x_op2 (pe_op op_modA (x_varB (pv 2)) (c_EB (x_prim (pe_callB call_lenA (by rfl) T.z_len bt_len (xr_cons (pa_cons (x_varB (pv 0)) (xr_nil pa_nil)))) p_len))) p_mod)) (fun _ _ => rfl)))) (c_EB (x_op2 (pe_op op_pow (c_FB (x_c pe_int fun _ _ => .int _)) (c_FB (x_c pe_int fun _ _ => .int _))) p_pow)) rfl) (p_cmp fun i j => decide (j ≤ i))) (pw_and1 (x_test2 (pt_cmpR op_lt (c_EB (x_op2 (pe_op op_fdivA (x_varB (pv 2)) (c_EB (x_prim (pe_callB call_lenA (by rfl) T.z_len bt_len (xr_cons (pa_cons (x_varB (pv 0)) (xr_nil pa_nil)))) p_len))) p_fdiv)) (c_FB (x_c pe_int fun _ _ => .int _)) rfl) (p_cmp fun i j => decide (i < j))))))))) (s_seq (pss_cons (s_set (ps_set (i := 4) sc__law_cell.nd rfl (by first | exact Or.inl rfl | exact Or.inr rfl) (c_FE (c_EF (x_ix (pe_ix ix_seq (x_varB (pv 0)) (c_EB (x_op2 (pe_op op_modA (x_varB (pv 2)) (c_EB (x_prim (pe_callB call_lenA (by rfl) T.z_len bt_len (xr_cons (pa_cons (x_varB (pv 0)) (xr_nil pa_nil)))) p_len))) p_mod)) (fun _ _ => rfl))))))) (s_seq (pss_cons (s_for (ps_for PassesOwn.never rfl (x_rng1 (pi_range1 (by rfl) T.z_range (xr_cons (pa_cons (c_EB (x_op2 (pe_op op_fdivA (x_varB (pv 2)) (c_EB (x_prim (pe_callB call_lenA (by rfl) T.z_len bt_len (xr_cons (pa_cons (x_varB (pv 0)) (xr_nil pa_nil)))) p_len))) p_fdiv)) (xr_nil pa_nil))))) (x_gname (pg_name (i := 5) sc__law_cell.nd rfl (by first | exact Or.inl rfl | exact Or.inr rfl))) (s_seq (pss_cons (s_set (ps_set (i := 4) sc__law_cell.nd rfl (by first | exact Or.inl rfl | exact Or.inr rfl) (c_FE (c_EF (x_op2 (pe_op op_fdivA (x_varB (pv 4)) (c_FB (x_c pe_int fun _ _ => .int _))) p_fdiv))))) (s_nil pss_nil))))) (s_seq (pss_cons (s_if (ps_if (x_test2 (pt_cmpR op_gt (x_varB (pv 4)) (c_FB (x_c pe_int fun _ _ => .int _)) rfl) (p_cmp fun i j => decide (j < i))) (s_seq (pss_cons (s_ret (ps_ret (x_op2 (pe_op op_modA (x_varB (pv 4)) (c_FB (x_c pe_int fun _ _ => .int _))) p_mod))) (s_nil pss_nil))) (s_nil pss_nil))) (s_nil pss_nil))))))) (s_nil pss_nil))) (s_seq (pss_cons (s_if (ps_if (x_test2 (pt_cmpR op_gt (c_EB (x_prim (pe_callB call_lenA (by rfl) T.z_len bt_len (xr_cons (pa_cons (x_varB (pv 0)) (xr_nil pa_nil)))) p_len)) (c_FB (x_c pe_int fun _ _ => .int _)) rfl) (p_cmp fun i j => decide (j < i))) (s_seq (pss_cons (s_set (ps_set (i := 3) sc__law_cell.nd rfl (by first | exact Or.inl rfl | exact Or.inr rfl) (c_FE (c_EF (x_op2 (pe_op op_addA (x_varB (pv 3)) (c_EB (x_op2 (pe_op op_mulA (c_EB (x_op2 (pe_op op_modA (c_EB (x_ix (pe_ix ix_seq (x_varB (pv 0)) (c_EB (x_op2 (pe_op op_modA (x_varB (pv 2)) (c_EB (x_prim (pe_callB call_lenA (by rfl) T.z_len bt_len (xr_cons (pa_cons (x_varB (pv 0)) (xr_nil pa_nil)))) p_len))) p_mod)) (fun _ _ => rfl)))) (c_FB (x_c pe_int fun _ _ => .int _))) p_mod)) (c_EB (x_op2 (pe_op op_addA (c_FB (x_c pe_int fun _ _ => .int _)) (c_EB (x_op2 (pe_op op_fdivA (x_varB (pv 2)) (c_EB (x_prim (pe_callB call_lenA (by rfl) T.z_len bt_len (xr_cons (pa_cons (x_varB (pv 0)) (xr_nil pa_nil)))) p_len))) p_fdiv))) p_add))) p_mul))) p_add))))) (s_nil pss_nil))) (s_nil pss_nil))) (s_seq (pss_cons (s_ret (ps_ret (x_op2 (pe_op op_fdivA (c_EB (x_op2 (pe_op op_modA (c_EB (x_op2 (pe_op op_mulA (c_EB (x_op2 (pe_op op_modA (c_EB (x_op2 (pe_op op_mulA (x_varB (pv 3)) (c_FB (x_c pe_int fun _ _ => .int _))) p_mul)) (c_FB (x_c pe_int fun _ _ => .int _))) p_mod)) (c_FB (x_c pe_int fun _ _ => .int _))) p_mul)) (c_FB (x_c pe_int fun _ _ => .int _))) p_mod)) (c_FB (x_c pe_int fun _ _ => .int _))) p_fdiv))) (s_nil pss_nil)))))))))))))
theorem ok__law_names (T : Top w K mg) {k : Nat} (ih : Oks P w base T k) : GOk P w K mg base CX0 (k + 1) T.a__law_names T.d__law_names ["_law_n"] (spD K W0 1 (sem (k + 1) f__law_names)) := by
  rw [e__law_names]
  refine g_fn (N := ["_law_n", "_law_letters", "_law_some", "_law_words", "_law_k", "_law_sign"]) (ps := ["_law_n"]) (g := m__law_names (sem k)) T.F__law_names sc__law_names (fun cdv A outer s H EX hr hq => ?_)
  have hc := hr
  exact (s_seq (pss_cons (s_setLc (by decide) (ps_setLc (i := 1) (own := [("_law_k", 4)]) rfl sc__law_names.nd rfl rfl (sw_true rfl rfl rfl (by decide +kernel)) (x_rng1 (pi_range1 (by rfl) T.z_range (xr_cons (pa_cons (c_FB (x_c pe_int fun _ _ => .int _)) (xr_nil pa_nil))))) (blkOk_by (N := ["_law_n", "_law_letters", "_law_some", "_law_words", "_law_k", "_law_sign"]) (sc := defScope s__law_names) (by decide +kernel)) (fun _ _ _ _ _ => (x_gname (pg_name (i := 4) sc__law_names.nd rfl (by first | exact Or.inl rfl | exact Or.inr rfl)))) (fun _ _ _ _ _ => x_yes) (fun _ _ _ _ _ => (c_EF (x_ix (pe_ix ix_seq (c_FB (x_c pe_str fun _ _ => .str _)) (c_EB (x_op2 (pe_op op_modA (c_EB (x_op2 (pe_op op_addA (c_EB (x_op2 (pe_op op_fdivA (x_varB (pv 0)) (c_FB (x_c pe_int fun _ _ => .int _))) p_fdiv)) (c_EB (x_op2 (pe_op op_mulA (c_FB (x_c pe_int fun _ _ => .int _)) (x_varB (pv 4))) p_mul))) p_add)) (c_FB (x_c pe_int fun _ _ => .int _))) p_mod)) (fun _ _ => rfl))))))) (s_seq (pss_cons (s_fz (s_set (ps_set (i := 2) sc__law_names.nd rfl (by first | exact Or.inl rfl | exact Or.inr rfl) (x_lst (pe_lst (xa_cons (pa_cons (c_EF (x_lc (by decide) (pe_lc (own := [("_law_sign", 5)]) rfl sc__law_names.nd (x_it (PI.or (pi_list (x_var (pv 1))) (PI.or (pi_tup (x_var (pv 1))) (pi_str (x_var (pv 1)))))) (blkOk_by (N := ["_law_n", "_law_letters", "_law_some", "_law_words", "_law_k", "_law_sign"]) (sc := defScope s__law_names) (by decide +kernel)) (fun _ _ _ _ _ => (x_gname (pg_name (i := 5) sc__law_names.nd rfl (by first | exact Or.inl rfl | exact Or.inr rfl)))) (fun _ _ _ _ _ => x_yes) (fun _ _ _ _ _ => (x_var (pv 5)))))) (xa_cons (pa_cons (c_EF (x_lc (by decide) (pe_lc (own := [("_law_sign", 5)]) rfl sc__law_names.nd (x_it (PI.or (pi_list (x_var (pv 1))) (PI.or (pi_tup (x_var (pv 1))) (pi_str (x_var (pv 1)))))) (blkOk_by (N := ["_law_n", "_law_letters", "_law_some", "_law_words", "_law_k", "_law_sign"]) (sc := defScope s__law_names) (by decide +kernel)) (fun _ _ _ _ _ => (x_gname (pg_name (i := 5) sc__law_names.nd rfl (by first | exact Or.inl rfl | exact Or.inr rfl)))) (fun _ _ _ _ _ => x_yes) (fun _ _ _ _ _ => (c_EF (x_op2 (pe_op op_addA (c_EB (x_op2 (pe_op op_addA (c_FB (x_c pe_str fun _ _ => .str _)) (x_varB (pv 5))) p_add)) (c_FB (x_c pe_str fun _ _ => .str _))) p_add)))))) (xa_nil pa_nil)))))))))) (s_seq (pss_cons (s_app (ps_expr (pe_bm PySem.F.plainAttrs_list PySem.F.slot_list_append PySem.F.type_list_append mt_append (pv 2) (pa_cons (c_EF (x_op2 (pe_op op_addA (c_EB (x_lc (by decide) (pe_lc (own := [("_law_k", 4)]) rfl sc__law_names.nd (x_rng1 (pi_range1 (by rfl) T.z_range (xr_cons (pa_cons (c_FB (x_c pe_int fun _ _ => .int _)) (xr_nil pa_nil))))) (blkOk_by (N := ["_law_n", "_law_letters", "_law_some", "_law_words", "_law_k", "_law_sign"]) (sc := defScope s__law_names) (by decide +kernel)) (fun _ _ _ _ _ => (x_gname (pg_name (i := 4) sc__law_names.nd rfl (by first | exact Or.inl rfl | exact Or.inr rfl)))) (fun _ _ _ _ _ => x_yes) (fun _ _ _ _ _ => (c_EF (x_sl (pe_slice sl_A3 (c_FB (x_c pe_str fun _ _ => .str _)) x_no (x_so (c_EB (x_op2 (pe_op op_addA (x_varB (pv 4)) (c_FB (x_c pe_int fun _ _ => .int _))) p_add)))) p_sl)))))) (c_EB (x_lc (by decide) (pe_lc (own := [("_law_k", 4)]) rfl sc__law_names.nd (x_rng1 (pi_range1 (by rfl) T.z_range (xr_cons (pa_cons (c_FB (x_c pe_int fun _ _ => .int _)) (xr_nil pa_nil))))) (blkOk_by (N := ["_law_n", "_law_letters", "_law_some", "_law_words", "_law_k", "_law_sign"]) (sc := defScope s__law_names) (by decide +kernel)) (fun _ _ _ _ _ => (x_gname (pg_name (i := 4) sc__law_names.nd rfl (by first | exact Or.inl rfl | exact Or.inr rfl)))) (fun _ _ _ _ _ => x_yes) (fun _ _ _ _ _ => (c_EF (x_sl (pe_slice sl_A3 (c_FB (x_c pe_str fun _ _ => .str _)) x_no (x_so (c_EB (x_op2 (pe_op op_addA (x_varB (pv 4)) (c_FB (x_c pe_int fun _ _ => .int _))) p_add)))) p_sl))))))) p_add)) pa_nil)))) (s_seq (pss_cons (s_set (ps_set (i := 3) sc__law_names.nd rfl (by first | exact Or.inl rfl | exact Or.inr rfl) (c_FE (c_EF (x_lst (pe_lst (xa_cons (pa_cons (x_c pe_str fun _ _ => .str _) (xa_cons (pa_cons (x_c pe_str fun _ _ => .str _) (xa_cons (pa_cons (x_c pe_str fun _ _ => .str _) (xa_cons (pa_cons (x_c pe_str fun _ _ => .str _) (xa_cons (pa_cons (x_c pe_str fun _ _ => .str _) (xa_cons (pa_cons (x_c pe_str fun _ _ => .str _) (xa_cons (pa_cons (x_c pe_str fun _ _ => .str _) (xa_cons (pa_cons (x_c pe_str fun _ _ => .str _) (xa_cons (pa_cons (x_c pe_str fun _ _ => .str _) (xa_cons (pa_cons (x_c pe_str fun _ _ => .str _) (xa_cons (pa_cons (x_c pe_str fun _ _ => .str _) (xa_nil pa_nil))))))))))))))))))))))))))))) (s_seq (pss_cons (s_app (ps_expr (pe_bm PySem.F.plainAttrs_list PySem.F.slot_list_append PySem.F.type_list_append mt_append (pv 2) (pa_cons (c_EF (x_op2 (pe_op op_addA (x_varB (pv 3)) (c_EB (x_lst (pe_lst (xa_cons (pa_cons (x_c pe_str fun _ _ => .str _) (xa_cons (pa_cons (x_c pe_str fun _ _ => .str _) (xa_cons (pa_cons (x_c pe_str fun _ _ => .str _) (xa_cons (pa_cons (x_c pe_str fun _ _ => .str _) (xa_cons (pa_cons (x_c pe_str fun _ _ => .str _) (xa_nil pa_nil))))))))))))))) p_add)) pa_nil)))) (s_seq (pss_cons (s_set (ps_set (i := 2) sc__law_names.nd rfl (by first | exact Or.inl rfl | exact Or.inr rfl) (x_ix (pe_ix ix_seq (x_varB (pv 2)) (c_EB (x_op2 (pe_op op_modA (x_varB (pv 0)) (c_FB (x_c pe_int fun _ _ => .int _))) p_mod)) (fun _ _ => rfl))))) (s_seq (pss_cons (s_ret (ps_ret (x_lc (by decide) (pe_lc (own := [("_law_k", 4)]) rfl sc__law_names.nd (x_rng1 (pi_range1 (by rfl) T.z_range (xr_cons (pa_cons (c_FB (x_c pe_int fun _ _ => .int _)) (xr_nil pa_nil))))) (blkOk_by (N := ["_law_n", "_law_letters", "_law_some", "_law_words", "_law_k", "_law_sign"]) (sc := defScope s__law_names) (by decide +kernel)) (fun _ _ _ _ _ => (x_gname (pg_name (i := 4) sc__law_names.nd rfl (by first | exact Or.inl rfl | exact Or.inr rfl)))) (fun _ _ _ _ _ => x_yes) (fun _ _ _ _ _ => (c_EF (x_ix (pe_ix ix_seq (x_varB (pv 2)) (c_EB (x_op2 (pe_op op_modA (c_EB (x_op2 (pe_op op_addA (c_EB (x_op2 (pe_op op_fdivA (x_varB (pv 0)) (c_FB (x_c pe_int fun _ _ => .int _))) p_fdiv)) (c_EB (x_op2 (pe_op op_mulA (c_EB (x_op2 (pe_op op_addA (c_EB (x_op2 (pe_op op_mulA (c_FB (x_c pe_int fun _ _ => .int _)) (c_EB (x_op2 (pe_op op_modA (c_EB (x_op2 (pe_op op_fdivA (x_varB (pv 0)) (c_FB (x_c pe_int fun _ _ => .int _))) p_fdiv)) (c_FB (x_c pe_int fun _ _ => .int _))) p_mod))) p_mul)) (c_FB (x_c pe_int fun _ _ => .int _))) p_add)) (x_varB (pv 4))) p_mul))) p_add)) (c_FB (x_c pe_int fun _ _ => .int _))) p_mod)) (fun _ _ => rfl))))))))) (s_nil pss_nil)))))))))))))))
theorem ok__law_number (T : Top w K mg) {k : Nat} (ih : Oks P w base T k) : GOk P w K mg base CX0 (k + 1) T.a__law_number T.d__law_number ["_law_n"] (spD K W0 1 (sem (k + 1) f__law_number)) := by
  rw [e__law_number]
  refine g_fn (N := ["_law_n"]) (ps := ["_law_n"]) (g := m__law_number (sem k)) T.F__law_number sc__law_number (fun cdv A outer s H EX hr hq => ?_)
  have hc := hr
  exact (s_seq (pss_cons (s_ret (ps_ret (x_ix (pe_ix ix_seq (c_EB (x_lst (pe_lst (xa_cons (pa_cons (c_EF (x_op2 (pe_op op_modA (c_EB (x_op2 (pe_op op_fdivA (x_varB (pv 0)) (c_FB (x_c pe_int fun _ _ => .int _))) p_fdiv)) (c_FB (x_c pe_int fun _ _ => .int _))) p_mod)) (xa_cons (pa_cons (c_EF (x_op2 (pe_op op_sub (c_EB (x_op2 (pe_op op_modA (c_EB (x_op2 (pe_op op_fdivA (x_varB (pv 0)) (c_FB (x_c pe_int fun _ _ => .int _))) p_fdiv)) (c_FB (x_c pe_int fun _ _ => .int _))) p_mod)) (c_FB (x_c pe_int fun _ _ => .int _))) p_sub)) (xa_cons (pa_cons (c_EF (x_op2 (pe_op op_modA (c_EB (x_op2 (pe_op op_fdivA (x_varB (pv 0)) (c_FB (x_c pe_int fun _ _ => .int _))) p_fdiv)) (c_FB (x_c pe_int fun _ _ => .int _))) p_mod)) (xa_cons (pa_cons (c_EF (x_ix (pe_ix ix_seq (c_EB (x_lst (pe_lst (xa_cons (pa_cons (c_EF (x_op2 (pe_op op_pow (c_FB (x_c pe_int fun _ _ => .int _)) (c_FB (x_c pe_int fun _ _ => .int _))) p_pow)) (xa_cons (pa_cons (c_EF (x_op1 (pe_un un_neg (c_EB (x_op2 (pe_op op_pow (c_FB (x_c pe_int fun _ _ => .int _)) (c_FB (x_c pe_int fun _ _ => .int _))) p_pow))) p_neg)) (xa_cons (pa_cons (x_c pe_int fun _ _ => .int _) (xa_cons (pa_cons (x_c pe_int fun _ _ => .int _) (xa_nil pa_nil)))))))))))) (c_EB (x_op2 (pe_op op_modA (c_EB (x_op2 (pe_op op_fdivA (x_varB (pv 0)) (c_FB (x_c pe_int fun _ _ => .int _))) p_fdiv)) (c_FB (x_c pe_int fun _ _ => .int _))) p_mod)) (fun _ _ => rfl)))) (xa_nil pa_nil)))))))))))) (c_EB (x_op2 (pe_op op_fdivA (c_EB (x_op2 (pe_op op_modA (x_varB (pv 0)) (c_FB (x_c pe_int fun _ _ => .int _))) p_mod)) (c_FB (x_c pe_int fun _ _ => .int _))) p_fdiv)) (fun _ _ => rfl))))) (s_nil pss_nil)))
theorem ok__law_leaf (T : Top w K mg) {k : Nat} (ih : Oks P w base T k) : GOk P w K mg base CX0 (k + 1) T.a__law_leaf T.d__law_leaf ["_law_at", "_law_scope", "_law_n"] (spD K W0 3 (sem (k + 1) f__law_leaf)) := by
  rw [e__law_leaf]
  refine g_fn (N := ["_law_at", "_law_scope", "_law_n"]) (ps := ["_law_at", "_law_scope", "_law_n"]) (g := m__law_leaf (sem k)) T.F__law_leaf sc__law_leaf (fun cdv A outer s H EX hr hq => ?_)
  have hc := hr
  exact (s_seq (pss_cons (s_if (ps_if (PW.pt (x_and (pw_and (x_test2 (pt_cmpR (op_neW (un_of hr)) (x_varB (pv 1)) (c_EB (x_lst (pe_lst (xa_nil pa_nil)))) rfl) p_ne) (pw_and1 (x_test2 (pt_cmpR op_gt (c_EB (x_op2 (pe_op op_modA (x_varB (pv 2)) (c_FB (x_c pe_int fun _ _ => .int _))) p_mod)) (c_FB (x_c pe_int fun _ _ => .int _)) rfl) (p_cmp fun i j => decide (j < i))))))) (s_seq (pss_cons (s_ret (ps_ret (c_FE (x_tup (pe_tup (xa_cons (pa_cons (x_c pe_str fun _ _ => .str _) (xa_cons (pa_cons (c_EF (x_ix (pe_ix ix_seq (x_varB (pv 1)) (c_EB (x_op2 (pe_op op_modA (c_EB (x_op2 (pe_op op_fdivA (x_varB (pv 2)) (c_FB (x_c pe_int fun _ _ => .int _))) p_fdiv)) (c_EB (x_prim (pe_callB call_lenA (by rfl) T.z_len bt_len (xr_cons (pa_cons (x_varB (pv 1)) (xr_nil pa_nil)))) p_len))) p_mod)) (fun _ _ => rfl)))) (xa_nil pa_nil)))))))))) (s_nil pss_nil))) (s_nil pss_nil))) (s_seq (pss_cons (s_ret (ps_ret (c_FE (x_tup (pe_tup (xa_cons (pa_cons (x_c pe_str fun _ _ => .str _) (xa_cons (pa_cons (c_EF (x_call rfl (g_call ih.i__law_number hc hq (by rfl) T.m__law_number T.F__law_number.kp T.b__law_number pass0 (xa_cons (pa_cons (c_EF (x_op2 (pe_op op_fdivA (x_varB (pv 2)) (c_FB (x_c pe_int fun _ _ => .int _))) p_fdiv)) (xa_nil pa_nil)))))) (xa_nil pa_nil)))))))))) (s_nil pss_nil)))))
theorem ok__law_op (T : Top w K mg) {k : Nat} (ih : Oks P w base T k) : GOk P w K mg base CX0 (k + 1) T.a__law_op T.d__law_op ["_law_cells", "_law_spot", "_law_at", "_law_scope", "_law_deep", "_law_n"] (spD K W0 6 (sem (k + 1) f__law_op)) := by
  rw [e__law_op]
  refine g_fn (N := ["_law_cells", "_law_spot", "_law_at", "_law_scope", "_law_deep", "_law_n", "_law_sign", "_law_one"]) (ps := ["_law_cells", "_law_spot", "_law_at", "_law_scope", "_law_deep", "_law_n"]) (g := m__law_op (sem k)) T.F__law_op sc__law_op (fun cdv A outer s H EX hr hq => ?_)
  have hc := hr
  exact (s_seq (pss_cons (s_set (ps_set (i := 6) sc__law_op.nd rfl (by first | exact Or.inl rfl | exact Or.inr rfl) (c_FE (c_EF (x_ix (pe_ix ix_seq (c_FB (x_c pe_str fun _ _ => .str _)) (c_EB (x_op2 (pe_op op_modA (x_varB (pv 5)) (c_EB (x_ix (pe_ix ix_seq (c_EB (x_lst (pe_lst (xa_cons (pa_cons (x_c pe_int fun _ _ => .int _) (xa_cons (pa_cons (x_c pe_int fun _ _ => .int _) (xa_nil pa_nil)))))))) (c_EB (x_prim (pe_callTy call_int1 (by rfl) T.z_int bt_int (xr_cons (pa_cons (c_EB (x_dget (pe_dget (hu_of hr) (x_varB (pv 2)) (c_FB (x_c pe_str fun _ _ => .str _)) (fun _ _ => rfl)))) (xr_nil pa_nil)))) p_int)) (fun _ _ => rfl))))) p_mod)) (fun _ _ => rfl))))))) (s_seq (pss_cons (s_set (ps_set (i := 7) sc__law_op.nd rfl (by first | exact Or.inl rfl | exact Or.inr rfl) (c_FE (c_EF (x_call rfl (g_call ih.i__law_expression hc hq (by rfl) T.m__law_expression T.F__law_expression.kp T.b__law_expression pass0 (xa_cons (pa_cons (x_var (pv 0)) (xa_cons (pa_cons (x_var (pv 1)) (xa_cons (pa_cons (x_var (pv 2)) (xa_cons (pa_cons (x_var (pv 3)) (xa_cons (pa_cons (c_EF (x_op2 (pe_op op_sub (x_varB (pv 4)) (c_FB (x_c pe_int fun _ _ => .int _))) p_sub)) (xa_nil pa_nil))))))))))))))))) (s_seq (pss_cons (s_if (ps_if (x_test2 (pt_cmpR (op_eqW (un_of hr)) (x_varB (pv 6)) (c_FB (x_c pe_str fun _ _ => .str _)) rfl) p_eq) (s_seq (pss_cons (s_ret (ps_ret (c_FE (x_tup (pe_tup (xa_cons (pa_cons (x_c pe_str fun _ _ => .str _) (xa_cons (pa_cons (x_var (pv 6)) (xa_cons (pa_cons (x_var (pv 7)) (xa_cons (pa_cons (x_tup (pe_tup (xa_cons (pa_cons (x_c pe_str fun _ _ => .str _) (xa_cons (pa_cons (c_EF (x_op2 (pe_op op_sub (c_EB (x_op2 (pe_op op_modA (c_EB (x_op2 (pe_op op_fdivA (x_varB (pv 5)) (c_FB (x_c pe_int fun _ _ => .int _))) p_fdiv)) (c_FB (x_c pe_int fun _ _ => .int _))) p_mod)) (c_FB (x_c pe_int fun _ _ => .int _))) p_sub)) (xa_nil pa_nil))))))) (xa_nil pa_nil)))))))))))))) (s_nil pss_nil))) (s_nil pss_nil))) (s_seq (pss_cons (s_ret (ps_ret (c_FE (x_tup (pe_tup (xa_cons (pa_cons (x_c pe_str fun _ _ => .str _) (xa_cons (pa_cons (x_var (pv 6)) (xa_cons (pa_cons (x_var (pv 7)) (xa_cons (pa_cons (c_EF (x_call rfl (g_call ih.i__law_expression hc hq (by rfl) T.m__law_expression T.F__law_expression.kp T.b__law_expression pass0 (xa_cons (pa_cons (x_var (pv 0)) (xa_cons (pa_cons (x_var (pv 1)) (xa_cons (pa_cons (x_var (pv 2)) (xa_cons (pa_cons (x_var (pv 3)) (xa_cons (pa_cons (c_EF (x_op2 (pe_op op_sub (x_varB (pv 4)) (c_FB (x_c pe_int fun _ _ => .int _))) p_sub)) (xa_nil pa_nil)))))))))))))) (xa_nil pa_nil)))))))))))))) (s_nil pss_nil)))))))))
theorem ok__law_times (T : Top w K mg) {k : Nat} (ih : Oks P w base T k) : GOk P w K mg base CX0 (k + 1) T.a__law_times T.d__law_times ["_law_cells", "_law_spot", "_law_at", "_law_scope", "_law_deep", "_law_n"] (spD K W0 6 (sem (k + 1) f__law_times)) := by
  rw [e__law_times]
  refine g_fn (N := ["_law_cells", "_law_spot", "_law_at", "_law_scope", "_law_deep", "_law_n", "_law_names_here", "_law_second", "_law_many", "_law_one", "_law_inner", "_law_other", "_law_first", "_law_behind", "_law_name"]) (ps := ["_law_cells", "_law_spot", "_law_at", "_law_scope", "_law_deep", "_law_n"]) (g := m__law_times (sem k)) T.F__law_times sc__law_times (fun cdv A outer s H EX hr hq => ?_)
  have hc := hr
  exact (s_seq (pss_cons (s_set (ps_set (i := 6) sc__law_times.nd rfl (by first | exact Or.inl rfl | exact Or.inr rfl) (c_FE (c_EF (x_dget (pe_dget (hu_of hr) (x_varB (pv 2)) (c_FB (x_c pe_str fun _ _ => .str _)) (fun _ _ => rfl))))))) (s_seq (pss_cons (s_asg (ps_asg (x_tup (pe_tup (xa_cons (pa_cons (c_EF (x_op2 (pe_op op_modA (c_EB (x_op2 (pe_op op_fdivA (x_varB (pv 5)) (c_FB (x_c pe_int fun _ _ => .int _))) p_fdiv)) (c_FB (x_c pe_int fun _ _ => .int _))) p_mod)) (xa_cons (pa_cons (c_EF (x_op2 (pe_op op_modA (c_EB (x_op2 (pe_op op_fdivA (x_varB (pv 5)) (c_FB (x_c pe_int fun _ _ => .int _))) p_fdiv)) (c_FB (x_c pe_int fun _ _ => .int _))) p_mod)) (xa_nil pa_nil))))))) (x_gtup (is := [12, 13]) rfl (pg_tup rfl (pgs_cons (pg_name (i := 12) sc__law_times.nd rfl (by first | exact Or.inl rfl | exact Or.inr rfl)) (pgs_cons (pg_name (i := 13) sc__law_times.nd rfl (by first | exact Or.inl rfl | exact Or.inr rfl)) pgs_nil)))))) (s_seq (pss_cons (s_set (ps_set (i := 7) sc__law_times.nd rfl (by first | exact Or.inl rfl | exact Or.inr rfl) (c_FE (c_EF (x_op2 (pe_op op_modA (c_EB (x_op2 (pe_op op_addA (c_EB (x_op2 (pe_op op_addA (x_varB (pv 12)) (c_FB (x_c pe_int fun _ _ => .int _))) p_add)) (x_varB (pv 13))) p_add)) (c_FB (x_c pe_int fun _ _ => .int _))) p_mod))))) (s_seq (pss_cons (s_set (ps_set (i := 8) sc__law_times.nd rfl (by first | exact Or.inl rfl | exact Or.inr rfl) (c_FE (x_tup (pe_tup (xa_cons (pa_cons (x_c pe_str fun _ _ => .str _) (xa_cons (pa_cons (c_EF (x_op2 (pe_op op_modA (x_varB (pv 5)) (c_FB (x_c pe_int fun _ _ => .int _))) p_mod)) (xa_nil pa_nil)))))))))) (s_seq (pss_cons (s_if (ps_if (PW.pt (x_and (pw_and (x_not (pt_not (x_truth (pt_truth (c_EB (x_dget (pe_dget (hu_of hr) (x_varB (pv 2)) (c_FB (x_c pe_str fun _ _ => .str _)) (fun _ _ => rfl)))) (fun _ => rfl))))) (pw_and1 (x_test2 (pt_cmpR (op_eqW (un_of hr)) (c_EB (x_op2 (pe_op op_modA (c_EB (x_op2 (pe_op op_fdivA (x_varB (pv 5)) (c_FB (x_c pe_int fun _ _ => .int _))) p_fdiv)) (c_FB (x_c pe_int fun _ _ => .int _))) p_mod)) (c_FB (x_c pe_int fun _ _ => .int _)) rfl) p_eq))))) (s_seq (pss_cons (s_set (ps_set (i := 8) sc__law_times.nd rfl (by first | exact Or.inl rfl | exact Or.inr rfl) (c_FE (x_tup (pe_tup (xa_cons (pa_cons (x_c pe_str fun _ _ => .str _) (xa_cons (pa_cons (x_c pe_str fun _ _ => .str _) (xa_cons (pa_cons (c_EF (x_call rfl (g_call ih.i__law_expression hc hq (by rfl) T.m__law_expression T.F__law_expression.kp T.b__law_expression pass0 (xa_cons (pa_cons (x_var (pv 0)) (xa_cons (pa_cons (x_var (pv 1)) (xa_cons (pa_cons (x_var (pv 2)) (xa_cons (pa_cons (x_var (pv 3)) (xa_cons (pa_cons (c_EF (x_op2 (pe_op op_sub (x_varB (pv 4)) (c_FB (x_c pe_int fun _ _ => .int _))) p_sub)) (xa_nil pa_nil)))))))))))))) (xa_cons (pa_cons (x_tup (pe_tup (xa_cons (pa_cons (x_c pe_str fun _ _ => .str _) (xa_cons (pa_cons (x_c pe_int fun _ _ => .int _) (xa_nil pa_nil))))))) (xa_nil pa_nil)))))))))))))) (s_nil pss_nil))) (s_seq (pss_cons (s_if (ps_if (PW.pt (x_and (pw_and (x_not (pt_not (x_truth (pt_truth (c_EB (x_dget (pe_dget (hu_of hr) (x_varB (pv 2)) (c_FB (x_c pe_str fun _ _ => .str _)) (fun _ _ => rfl)))) (fun _ => rfl))))) (pw_and1 (x_test2 (pt_cmpR (op_eqW (un_of hr)) (c_EB (x_op2 (pe_op op_modA (c_EB (x_op2 (pe_op op_fdivA (x_varB (pv 5)) (c_FB (x_c pe_int fun _ _ => .int _))) p_fdiv)) (c_FB (x_c pe_int fun _ _ => .int _))) p_mod)) (c_FB (x_c pe_int fun _ _ => .int _)) rfl) p_eq))))) (s_seq (pss_cons (s_set (ps_set (i := 8) sc__law_times.nd rfl (by first | exact Or.inl rfl | exact Or.inr rfl) (c_FE (x_tup (pe_tup (xa_cons (pa_cons (x_c pe_str fun _ _ => .str _) (xa_cons (pa_cons (c_EF (x_op2 (pe_op op_addA (c_FB (x_c pe_int fun _ _ => .int _)) (c_EB (x_op2 (pe_op op_modA (c_EB (x_op2 (pe_op op_fdivA (x_varB (pv 5)) (c_FB (x_c pe_int fun _ _ => .int _))) p_fdiv)) (c_FB (x_c pe_int fun _ _ => .int _))) p_mod))) p_add)) (xa_nil pa_nil)))))))))) (s_nil pss_nil))) (s_nil pss_nil))) (s_nil pss_nil))))) (s_seq (pss_cons (s_set (ps_set (i := 9) sc__law_times.nd rfl (by first | exact Or.inl rfl | exact Or.inr rfl) (c_FE (c_EF (x_call rfl (g_call ih.i__law_expression hc hq (by rfl) T.m__law_expression T.F__law_expression.kp T.b__law_expression pass0 (xa_cons (pa_cons (x_var (pv 0)) (xa_cons (pa_cons (x_var (pv 1)) (xa_cons (pa_cons (x_var (pv 2)) (xa_cons (pa_cons (x_var (pv 3)) (xa_cons (pa_cons (c_EF (x_op2 (pe_op op_sub (x_varB (pv 4)) (c_FB (x_c pe_int fun _ _ => .int _))) p_sub)) (xa_nil pa_nil))))))))))))))))) (s_seq (pss_cons (s_set (ps_set (i := 10) sc__law_times.nd rfl (by first | exact Or.inl rfl | exact Or.inr rfl) (c_FE (c_EF (x_op2 (pe_op op_addA (c_EB (x_lc (by decide) (pe_lc (own := [("_law_name", 14)]) rfl sc__law_times.nd (x_it (PI.or (pi_list (x_var (pv 3))) (PI.or (pi_tup (x_var (pv 3))) (pi_str (x_var (pv 3)))))) (blkOk_by (N := ["_law_cells", "_law_spot", "_law_at", "_law_scope", "_law_deep", "_law_n", "_law_names_here", "_law_second", "_law_many", "_law_one", "_law_inner", "_law_other", "_law_first", "_law_behind", "_law_name"]) (sc := defScope s__law_times) (by decide +kernel)) (fun _ _ _ _ _ => (x_gname (pg_name (i := 14) sc__law_times.nd rfl (by first | exact Or.inl rfl | exact Or.inr rfl)))) (fun _ _ _ _ _ => (pts_one (x_test2 (pt_cmpR op_notInA (x_varB (pv 14)) (c_FB (x_tup (pe_tup (xa_cons (pa_cons (c_EF (x_ix (pe_ix ix_seq (x_varB (pv 6)) (x_varB (pv 12)) (fun _ _ => rfl)))) (xa_cons (pa_cons (c_EF (x_ix (pe_ix ix_seq (x_varB (pv 6)) (x_varB (pv 7)) (fun _ _ => rfl)))) (xa_nil pa_nil)))))))) rfl) p_notIn))) (fun _ _ _ _ _ => (x_var (pv 14)))))) (c_EB (x_lst (pe_lst (xa_cons (pa_cons (c_EF (x_ix (pe_ix ix_seq (x_varB (pv 6)) (x_varB (pv 12)) (fun _ _ => rfl)))) (xa_cons (pa_cons (c_EF (x_ix (pe_ix ix_seq (x_varB (pv 6)) (x_varB (pv 7)) (fun _ _ => rfl)))) (xa_nil pa_nil))))))))) p_add))))) (s_seq (pss_cons (s_set (ps_set (i := 11) sc__law_times.nd rfl (by first | exact Or.inl rfl | exact Or.inr rfl) (c_FE (c_EF (x_call rfl (g_call ih.i__law_expression hc hq (by rfl) T.m__law_expression T.F__law_expression.kp T.b__law_expression pass0 (xa_cons (pa_cons (x_var (pv 0)) (xa_cons (pa_cons (x_var (pv 1)) (xa_cons (pa_cons (x_var (pv 2)) (xa_cons (pa_cons (x_var (pv 10)) (xa_cons (pa_cons (c_EF (x_op2 (pe_op op_sub (x_varB (pv 4)) (c_FB (x_c pe_int fun _ _ => .int _))) p_sub)) (xa_nil pa_nil))))))))))))))))) (s_seq (pss_cons (s_ret (ps_ret (c_FE (x_tup (pe_tup (xa_cons (pa_cons (x_c pe_str fun _ _ => .str _) (xa_cons (pa_cons (x_var (pv 8)) (xa_cons (pa_cons (c_EF (x_ix (pe_ix ix_seq (x_varB (pv 6)) (x_varB (pv 12)) (fun _ _ => rfl)))) (xa_cons (pa_cons (c_EF (x_ix (pe_ix ix_seq (x_varB (pv 6)) (x_varB (pv 7)) (fun _ _ => rfl)))) (xa_cons (pa_cons (x_var (pv 9)) (xa_cons (pa_cons (x_var (pv 11)) (xa_nil pa_nil)))))))))))))))))) (s_nil pss_nil)))))))))))))))))))
theorem ok__law_call (T : Top w K mg) {k : Nat} (ih : Oks P w base T k) : GOk P w K mg base CX0 (k + 1) T.a__law_call T.d__law_call ["_law_cells", "_law_spot", "_law_at", "_law_scope", "_law_deep", "_law_n"] (spD K W0 6 (sem (k + 1) f__law_call)) := by
  rw [e__law_call]
  refine g_fn (N := ["_law_cells", "_law_spot", "_law_at", "_law_scope", "_law_deep", "_law_n", "_law_some", "_law_m", "_law_f", "_law_many", "_law_calm", "_law_row", "_law_k"]) (ps := ["_law_cells", "_law_spot", "_law_at", "_law_scope", "_law_deep", "_law_n"]) (g := m__law_call (sem k)) T.F__law_call sc__law_call (fun cdv A outer s H EX hr hq => ?_)
  have hc := hr
  exact (s_seq (pss_cons (s_setLc (by decide) (ps_setLc (i := 6) (own := [("_law_row", 11)]) rfl sc__law_call.nd rfl rfl (sw_true rfl rfl rfl (by decide +kernel)) (x_it (PI.or (pi_list (c_EF (x_dget (pe_dget (hu_of hr) (x_varB (pv 2)) (c_FB (x_c pe_str fun _ _ => .str _)) (fun _ _ => rfl))))) (PI.or (pi_tup (c_EF (x_dget (pe_dget (hu_of hr) (x_varB (pv 2)) (c_FB (x_c pe_str fun _ _ => .str _)) (fun _ _ => rfl))))) (pi_str (c_EF (x_dget (pe_dget (hu_of hr) (x_varB (pv 2)) (c_FB (x_c pe_str fun _ _ => .str _)) (fun _ _ => rfl)))))))) (blkOk_by (N := ["_law_cells", "_law_spot", "_law_at", "_law_scope", "_law_deep", "_law_n", "_law_some", "_law_m", "_law_f", "_law_many", "_law_calm", "_law_row", "_law_k"]) (sc := defScope s__law_call) (by decide +kernel)) (fun _ _ _ _ _ => (x_gname (pg_name (i := 11) sc__law_call.nd rfl (by first | exact Or.inl rfl | exact Or.inr rfl)))) (fun _ _ _ _ _ => (pts_one (PW.pt (x_or (pw_or (x_truth (pt_truth (c_EB (x_ix (pe_ix ix_seq (x_varB (pv 11)) (c_FB (x_c pe_int fun _ _ => .int _)) (fun _ _ => rfl)))) (fun _ => rfl))) (pw_or1 (x_not (pt_not (x_truth (pt_truth (c_EB (x_dget (pe_dget (hu_of hr) (x_varB (pv 2)) (c_FB (x_c pe_str fun _ _ => .str _)) (fun _ _ => rfl)))) (fun _ => rfl))))))))))) (fun _ _ _ _ _ => (x_var (pv 11))))) (s_seq (pss_cons (s_if (ps_if (x_test2 (pt_cmpR (op_eqW (un_of hr)) (x_varB (pv 6)) (c_EB (x_lst (pe_lst (xa_nil pa_nil)))) rfl) p_eq) (s_seq (pss_cons (s_ret (ps_ret (x_call rfl (g_call ih.i__law_leaf hc hq (by rfl) T.m__law_leaf T.F__law_leaf.kp T.b__law_leaf pass0 (xa_cons (pa_cons (x_var (pv 2)) (xa_cons (pa_cons (x_var (pv 3)) (xa_cons (pa_cons (x_var (pv 5)) (xa_nil pa_nil))))))))))) (s_nil pss_nil))) (s_nil pss_nil))) (s_seq (pss_cons (s_asg (ps_asg (c_EF (x_ix (pe_ix ix_seq (x_varB (pv 6)) (c_EB (x_op2 (pe_op op_modA (x_varB (pv 5)) (c_EB (x_prim (pe_callB call_lenA (by rfl) T.z_len bt_len (xr_cons (pa_cons (x_varB (pv 6)) (xr_nil pa_nil)))) p_len))) p_mod)) (fun _ _ => rfl)))) (x_gtup (is := [7, 8, 9, 10]) rfl (pg_tup rfl (pgs_cons (pg_name (i := 7) sc__law_call.nd rfl (by first | exact Or.inl rfl | exact Or.inr rfl)) (pgs_cons (pg_name (i := 8) sc__law_call.nd rfl (by first | exact Or.inl rfl | exact Or.inr rfl)) (pgs_cons (pg_name (i := 9) sc__law_call.nd rfl (by first | exact Or.inl rfl | exact Or.inr rfl)) (pgs_cons (pg_name (i := 10) sc__law_call.nd rfl (by first | exact Or.inl rfl | exact Or.inr rfl)) pgs_nil)))))))) (s_seq (pss_cons (s_ret (ps_ret (c_FE (x_tup (pe_tup (xa_cons (pa_cons (x_c pe_str fun _ _ => .str _) (xa_cons (pa_cons (x_var (pv 7)) (xa_cons (pa_cons (x_var (pv 8)) (xa_cons (pa_cons (c_EF (x_prim (pe_callTy call_tuple_of (by rfl) T.z_tuple bt_tuple (xr_cons (pa_cons (c_EB (x_lc (by decide) (pe_lc (own := [("_law_k", 12)]) rfl sc__law_call.nd (x_rng1 (pi_range1 (by rfl) T.z_range (xr_cons (pa_cons (x_varB (pv 9)) (xr_nil pa_nil))))) (blkOk_by (N := ["_law_cells", "_law_spot", "_law_at", "_law_scope", "_law_deep", "_law_n", "_law_some", "_law_m", "_law_f", "_law_many", "_law_calm", "_law_row", "_law_k"]) (sc := defScope s__law_call) (by decide +kernel)) (fun _ _ _ _ _ => (x_gname (pg_name (i := 12) sc__law_call.nd rfl (by first | exact Or.inl rfl | exact Or.inr rfl)))) (fun _ _ _ _ _ => x_yes) (fun _ _ _ _ _ => (c_EF (x_call rfl (g_call ih.i__law_expression hc hq (by rfl) T.m__law_expression T.F__law_expression.kp T.b__law_expression pass0 (xa_cons (pa_cons (x_var (pv 0)) (xa_cons (pa_cons (x_var (pv 1)) (xa_cons (pa_cons (x_var (pv 2)) (xa_cons (pa_cons (x_var (pv 3)) (xa_cons (pa_cons (c_EF (x_op2 (pe_op op_sub (x_varB (pv 4)) (c_FB (x_c pe_int fun _ _ => .int _))) p_sub)) (xa_nil pa_nil)))))))))))))))))) (xr_nil pa_nil)))) p_tuple)) (xa_nil pa_nil)))))))))))))) (s_nil pss_nil)))))))))
theorem ok__law_expression (T : Top w K mg) {k : Nat} (ih : Oks P w base T k) : GOk P w K mg base CX0 (k + 1) T.a__law_expression T.d__law_expression ["_law_cells", "_law_spot", "_law_at", "_law_scope", "_law_deep"] (spD K W0 5 (sem (k + 1) f__law_expression)) := by
  rw [e__law_expression]
  refine g_fn (N := ["_law_cells", "_law_spot", "_law_at", "_law_scope", "_law_deep", "_law_n", "_law_way", "_law_more", "_law_name", "_law_one", "_law_inner", "_law_other", "_law_k"]) (ps := ["_law_cells", "_law_spot", "_law_at", "_law_scope", "_law_deep"]) (g := m__law_expression (sem k)) T.F__law_expression sc__law_expression (fun cdv A outer s H EX hr hq => ?_)
  have hc := hr
  exact (s_seq (pss_cons (s_set (ps_set (i := 5) sc__law_expression.nd rfl (by first | exact Or.inl rfl | exact Or.inr rfl) (c_FE (c_EF (x_call rfl (g_call ih.i__law_cell hc hq (by rfl) T.m__law_cell T.F__law_cell.kp T.b__law_cell pass0 (xa_cons (pa_cons (x_var (pv 0)) (xa_cons (pa_cons (x_var (pv 1)) (xa_nil pa_nil))))))))))) (s_seq (pss_cons (s_par (ps_par (i := 6) (j := 7) rfl sc__law_expression.nd rfl rfl (by decide) rfl rfl (xa_cons (pa_cons (c_EF (x_op2 (pe_op op_modA (x_varB (pv 5)) (c_FB (x_c pe_int fun _ _ => .int _))) p_mod)) (xa_cons (pa_cons (c_EF (x_op2 (pe_op op_fdivA (x_varB (pv 5)) (c_FB (x_c pe_int fun _ _ => .int _))) p_fdiv)) (xa_nil pa_nil))))) rfl)) (s_seq (pss_cons (s_if (ps_if (PW.pt (x_or (pw_or (x_test2 (pt_cmpR op_lt (x_varB (pv 4)) (c_FB (x_c pe_int fun _ _ => .int _)) rfl) (p_cmp fun i j => decide (i < j))) (pw_or1 (x_test2 (pt_cmpR op_lt (x_varB (pv 6)) (c_FB (x_c pe_int fun _ _ => .int _)) rfl) (p_cmp fun i j => decide (i < j))))))) (s_seq (pss_cons (s_ret (ps_ret (x_call rfl (g_call ih.i__law_leaf hc hq (by rfl) T.m__law_leaf T.F__law_leaf.kp T.b__law_leaf pass0 (xa_cons (pa_cons (x_var (pv 2)) (xa_cons (pa_cons (x_var (pv 3)) (xa_cons (pa_cons (x_var (pv 7)) (xa_nil pa_nil))))))))))) (s_nil pss_nil))) (s_nil pss_nil))) (s_seq (pss_cons (s_if (ps_if (x_test2 (pt_cmpR op_lt (x_varB (pv 6)) (c_FB (x_c pe_int fun _ _ => .int _)) rfl) (p_cmp fun i j => decide (i < j))) (s_seq (pss_cons (s_ret (ps_ret (x_call rfl (g_call ih.i__law_call hc hq (by rfl) T.m__law_call T.F__law_call.kp T.b__law_call pass0 (xa_cons (pa_cons (x_var (pv 0)) (xa_cons (pa_cons (x_var (pv 1)) (xa_cons (pa_cons (x_var (pv 2)) (xa_cons (pa_cons (x_var (pv 3)) (xa_cons (pa_cons (x_var (pv 4)) (xa_cons (pa_cons (x_var (pv 7)) (xa_nil pa_nil))))))))))))))))) (s_nil pss_nil))) (s_nil pss_nil))) (s_seq (pss_cons (s_if (ps_if (x_test2 (pt_cmpR (op_eqW (un_of hr)) (x_varB (pv 6)) (c_FB (x_c pe_int fun _ _ => .int _)) rfl) p_eq) (s_seq (pss_cons (s_ret (ps_ret (x_call rfl (g_call ih.i__law_times hc hq (by rfl) T.m__law_times T.F__law_times.kp T.b__law_times pass0 (xa_cons (pa_cons (x_var (pv 0)) (xa_cons (pa_cons (x_var (pv 1)) (xa_cons (pa_cons (x_var (pv 2)) (xa_cons (pa_cons (x_var (pv 3)) (xa_cons (pa_cons (x_var (pv 4)) (xa_cons (pa_cons (x_var (pv 7)) (xa_nil pa_nil))))))))))))))))) (s_nil pss_nil))) (s_nil pss_nil))) (s_seq (pss_cons (s_if (ps_if (x_test2 (pt_cmpR op_lt (x_varB (pv 6)) (c_FB (x_c pe_int fun _ _ => .int _)) rfl) (p_cmp fun i j => decide (i < j))) (s_seq (pss_cons (s_set (ps_set (i := 8) sc__law_expression.nd rfl (by first | exact Or.inl rfl | exact Or.inr rfl) (c_FE (c_EF (x_ix (pe_ix ix_seq (c_EB (x_dget (pe_dget (hu_of hr) (x_varB (pv 2)) (c_FB (x_c pe_str fun _ _ => .str _)) (fun _ _ => rfl)))) (c_EB (x_op2 (pe_op op_modA (x_varB (pv 7)) (c_FB (x_c pe_int fun _ _ => .int _))) p_mod)) (fun _ _ => rfl))))))) (s_seq (pss_cons (s_set (ps_set (i := 9) sc__law_expression.nd rfl (by first | exact Or.inl rfl | exact Or.inr rfl) (c_FE (c_EF (x_call rfl (g_call ih.i__law_expression hc hq (by rfl) T.m__law_expression T.F__law_expression.kp T.b__law_expression pass0 (xa_cons (pa_cons (x_var (pv 0)) (xa_cons (pa_cons (x_var (pv 1)) (xa_cons (pa_cons (x_var (pv 2)) (xa_cons (pa_cons (x_var (pv 3)) (xa_cons (pa_cons (c_EF (x_op2 (pe_op op_sub (x_varB (pv 4)) (c_FB (x_c pe_int fun _ _ => .int _))) p_sub)) (xa_nil pa_nil))))))))))))))))) (s_seq (pss_cons (s_set (ps_set (i := 10) sc__law_expression.nd rfl (by first | exact Or.inl rfl | exact Or.inr rfl) (c_FE (c_EF (x_op2 (pe_op op_addA (c_EB (x_lc (by decide) (pe_lc (own := [("_law_other", 11)]) rfl sc__law_expression.nd (x_it (PI.or (pi_list (x_var (pv 3))) (PI.or (pi_tup (x_var (pv 3))) (pi_str (x_var (pv 3)))))) (blkOk_by (N := ["_law_cells", "_law_spot", "_law_at", "_law_scope", "_law_deep", "_law_n", "_law_way", "_law_more", "_law_name", "_law_one", "_law_inner", "_law_other", "_law_k"]) (sc := defScope s__law_expression) (by decide +kernel)) (fun _ _ _ _ _ => (x_gname (pg_name (i := 11) sc__law_expression.nd rfl (by first | exact Or.inl rfl | exact Or.inr rfl)))) (fun _ _ _ _ _ => (pts_one (x_test2 (pt_cmpR (op_neW (un_of hr)) (x_varB (pv 11)) (x_varB (pv 8)) rfl) p_ne))) (fun _ _ _ _ _ => (x_var (pv 11)))))) (c_EB (x_lst (pe_lst (xa_cons (pa_cons (x_var (pv 8)) (xa_nil pa_nil))))))) p_add))))) (s_seq (pss_cons (s_ret (ps_ret (c_FE (x_tup (pe_tup (xa_cons (pa_cons (x_c pe_str fun _ _ => .str _) (xa_cons (pa_cons (x_var (pv 8)) (xa_cons (pa_cons (x_var (pv 9)) (xa_cons (pa_cons (c_EF (x_call rfl (g_call ih.i__law_expression hc hq (by rfl) T.m__law_expression T.F__law_expression.kp T.b__law_expression pass0 (xa_cons (pa_cons (x_var (pv 0)) (xa_cons (pa_cons (x_var (pv 1)) (xa_cons (pa_cons (x_var (pv 2)) (xa_cons (pa_cons (x_var (pv 10)) (xa_cons (pa_cons (c_EF (x_op2 (pe_op op_sub (x_varB (pv 4)) (c_FB (x_c pe_int fun _ _ => .int _))) p_sub)) (xa_nil pa_nil)))))))))))))) (xa_nil pa_nil)))))))))))))) (s_nil pss_nil))))))))) (s_nil pss_nil))) (s_seq (pss_cons (s_if (ps_if (x_test2 (pt_cmpR (op_eqW (un_of hr)) (x_varB (pv 6)) (c_FB (x_c pe_int fun _ _ => .int _)) rfl) p_eq) (s_seq (pss_cons (s_ret (ps_ret (x_op2 (pe_op op_addA (c_FB (x_tup (pe_tup (xa_cons (pa_cons (x_c pe_str fun _ _ => .str _) (xa_nil pa_nil)))))) (c_EB (x_prim (pe_callTy call_tuple_of (by rfl) T.z_tuple bt_tuple (xr_cons (pa_cons (c_EB (x_lc (by decide) (pe_lc (own := [("_law_k", 12)]) rfl sc__law_expression.nd (x_rng1 (pi_range1 (by rfl) T.z_range (xr_cons (pa_cons (c_FB (x_c pe_int fun _ _ => .int _)) (xr_nil pa_nil))))) (blkOk_by (N := ["_law_cells", "_law_spot", "_law_at", "_law_scope", "_law_deep", "_law_n", "_law_way", "_law_more", "_law_name", "_law_one", "_law_inner", "_law_other", "_law_k"]) (sc := defScope s__law_expression) (by decide +kernel)) (fun _ _ _ _ _ => (x_gname (pg_name (i := 12) sc__law_expression.nd rfl (by first | exact Or.inl rfl | exact Or.inr rfl)))) (fun _ _ _ _ _ => x_yes) (fun _ _ _ _ _ => (c_EF (x_call rfl (g_call ih.i__law_expression hc hq (by rfl) T.m__law_expression T.F__law_expression.kp T.b__law_expression pass0 (xa_cons (pa_cons (x_var (pv 0)) (xa_cons (pa_cons (x_var (pv 1)) (xa_cons (pa_cons (x_var (pv 2)) (xa_cons (pa_cons (x_var (pv 3)) (xa_cons (pa_cons (c_EF (x_op2 (pe_op op_sub (x_varB (pv 4)) (c_FB (x_c pe_int fun _ _ => .int _))) p_sub)) (xa_nil pa_nil)))))))))))))))))) (xr_nil pa_nil)))) p_tuple))) p_add))) (s_nil pss_nil))) (s_nil pss_nil))) (s_seq (pss_cons (s_if (ps_if (PW.pt (x_and (pw_and (x_test2 (pt_cmpR op_lt (x_varB (pv 6)) (c_FB (x_c pe_int fun _ _ => .int _)) rfl) (p_cmp fun i j => decide (i < j))) (pw_and1 (x_not (pt_not (x_truth (pt_truth (c_EB (x_dget (pe_dget (hu_of hr) (x_varB (pv 2)) (c_FB (x_c pe_str fun _ _ => .str _)) (fun _ _ => rfl)))) (fun _ => rfl))))))))) (s_seq (pss_cons (s_set (ps_set (i := 9) sc__law_expression.nd rfl (by first | exact Or.inl rfl | exact Or.inr rfl) (c_FE (c_EF (x_call rfl (g_call ih.i__law_expression hc hq (by rfl) T.m__law_expression T.F__law_expression.kp T.b__law_expression pass0 (xa_cons (pa_cons (x_var (pv 0)) (xa_cons (pa_cons (x_var (pv 1)) (xa_cons (pa_cons (x_var (pv 2)) (xa_cons (pa_cons (x_var (pv 3)) (xa_cons (pa_cons (c_EF (x_op2 (pe_op op_sub (x_varB (pv 4)) (c_FB (x_c pe_int fun _ _ => .int _))) p_sub)) (xa_nil pa_nil))))))))))))))))) (s_seq (pss_cons (s_ret (ps_ret (c_FE (x_tup (pe_tup (xa_cons (pa_cons (x_c pe_str fun _ _ => .str _) (xa_cons (pa_cons (x_var (pv 9)) (xa_cons (pa_cons (c_EF (x_call rfl (g_call ih.i__law_expression hc hq (by rfl) T.m__law_expression T.F__law_expression.kp T.b__law_expression pass0 (xa_cons (pa_cons (x_var (pv 0)) (xa_cons (pa_cons (x_var (pv 1)) (xa_cons (pa_cons (x_var (pv 2)) (xa_cons (pa_cons (x_var (pv 3)) (xa_cons (pa_cons (c_EF (x_op2 (pe_op op_sub (x_varB (pv 4)) (c_FB (x_c pe_int fun _ _ => .int _))) p_sub)) (xa_nil pa_nil)))))))))))))) (xa_nil pa_nil)))))))))))) (s_nil pss_nil))))) (s_nil pss_nil))) (s_seq (pss_cons (s_if (ps_if (PW.pt (x_and (pw_and (x_test2 (pt_cmpR (op_eqW (un_of hr)) (x_varB (pv 6)) (c_FB (x_c pe_int fun _ _ => .int _)) rfl) p_eq) (x_and (pw_and (x_not (pt_not (x_truth (pt_truth (c_EB (x_dget (pe_dget (hu_of hr) (x_varB (pv 2)) (c_FB (x_c pe_str fun _ _ => .str _)) (fun _ _ => rfl)))) (fun _ => rfl))))) (pw_and1 (x_test2 (pt_cmpR (op_eqW (un_of hr)) (c_EB (x_op2 (pe_op op_modA (x_varB (pv 7)) (c_FB (x_c pe_int fun _ _ => .int _))) p_mod)) (c_FB (x_c pe_int fun _ _ => .int _)) rfl) p_eq))))))) (s_seq (pss_cons (s_ret (ps_ret (c_FE (x_tup (pe_tup (xa_cons (pa_cons (x_c pe_str fun _ _ => .str _) (xa_cons (pa_cons (c_EF (x_call rfl (g_call ih.i__law_expression hc hq (by rfl) T.m__law_expression T.F__law_expression.kp T.b__law_expression pass0 (xa_cons (pa_cons (x_var (pv 0)) (xa_cons (pa_cons (x_var (pv 1)) (xa_cons (pa_cons (x_var (pv 2)) (xa_cons (pa_cons (x_var (pv 3)) (xa_cons (pa_cons (c_EF (x_op2 (pe_op op_sub (x_varB (pv 4)) (c_FB (x_c pe_int fun _ _ => .int _))) p_sub)) (xa_nil pa_nil)))))))))))))) (xa_nil pa_nil)))))))))) (s_nil pss_nil))) (s_nil pss_nil))) (s_seq (pss_cons (s_ret (ps_ret (x_call rfl (g_call ih.i__law_op hc hq (by rfl) T.m__law_op T.F__law_op.kp T.b__law_op pass0 (xa_cons (pa_cons (x_var (pv 0)) (xa_cons (pa_cons (x_var (pv 1)) (xa_cons (pa_cons (x_var (pv 2)) (xa_cons (pa_cons (x_var (pv 3)) (xa_cons (pa_cons (x_var (pv 4)) (xa_cons (pa_cons (x_var (pv 7)) (xa_nil pa_nil))))))))))))))))) (s_nil pss_nil)))))))))))))))))))))
theorem ok__law_level (T : Top w K mg) {k : Nat} (ih : Oks P w base T k) : GOk P w K mg base CX0 (k + 1) T.a__law_level T.d__law_level ["_law_e"] (spD K W0 1 (sem (k + 1) f__law_level)) := by
  rw [e__law_level]
  refine g_fn (N := ["_law_e"]) (ps := ["_law_e"]) (g := m__law_level (sem k)) T.F__law_level sc__law_level (fun cdv A outer s H EX hr hq => ?_)
  have hc := hr
  exact (s_seq (pss_cons (s_if (ps_if (x_test2 (pt_cmpR op_inA (c_EB (x_ix (pe_ix ix_seq (x_varB (pv 0)) (c_FB (x_c pe_int fun _ _ => .int _)) (fun _ _ => rfl)))) (c_FB (x_tup (pe_tup (xa_cons (pa_cons (x_c pe_str fun _ _ => .str _) (xa_cons (pa_cons (x_c pe_str fun _ _ => .str _) (xa_cons (pa_cons (x_c pe_str fun _ _ => .str _) (xa_cons (pa_cons (x_c pe_str fun _ _ => .str _) (xa_cons (pa_cons (x_c pe_str fun _ _ => .str _) (xa_nil pa_nil)))))))))))))) rfl) p_in) (s_seq (pss_cons (s_ret (ps_ret (c_FE (x_c pe_int fun _ _ => .int _)))) (s_nil pss_nil))) (s_nil pss_nil))) (s_seq (pss_cons (s_ret (ps_ret (x_if (pe_ifExp (x_test2 (pt_cmpR (op_eqW (un_of hr)) (c_EB (x_ix (pe_ix ix_seq (x_varB (pv 0)) (c_FB (x_c pe_int fun _ _ => .int _)) (fun _ _ => rfl)))) (c_FB (x_c pe_str fun _ _ => .str _)) rfl) p_eq) (c_FE (x_dget2 (pe_dget2 (hu_of hr) (c_FB (x_disp (ks := ["=", "<", "+", "-"]) (fs := [(dC (.int 1)), (dC (.int 1)), (dC (.int 2)), (dC (.int 2))]) rfl (pe_disp (pps_cons pe_str (x_c pe_int fun _ _ => .int _) (pps_cons pe_str (x_c pe_int fun _ _ => .int _) (pps_cons pe_str (x_c pe_int fun _ _ => .int _) (pps_cons pe_str (x_c pe_int fun _ _ => .int _) pps_nil)))) rfl rfl (by simp) (by decide)))) (c_EB (x_ix (pe_ix ix_seq (x_varB (pv 0)) (c_FB (x_c pe_int fun _ _ => .int _)) (fun _ _ => rfl)))) (x_c pe_int fun _ _ => .int _) ⟨rfl, rfl, rfl, rfl⟩))) (c_FE (x_c pe_int fun _ _ => .int _)))))) (s_nil pss_nil)))))
theorem ok__law_side (T : Top w K mg) {k : Nat} (ih : Oks P w base T k) : GOk P w K mg base CX0 (k + 1) T.a__law_side T.d__law_side ["_law_m", "_law_e", "_law_least", "_law_more"] (spD K W0 4 (sem (k + 1) f__law_side)) := by
  rw [e__law_side]
  refine g_fn (N := ["_law_m", "_law_e", "_law_least", "_law_more", "_law_text_here"]) (ps := ["_law_m", "_law_e", "_law_least", "_law_more"]) (g := m__law_side (sem k)) T.F__law_side sc__law_side (fun cdv A outer s H EX hr hq => ?_)
  have hc := hr
  exact (s_seq (pss_cons (s_set (ps_set (i := 4) sc__law_side.nd rfl (by first | exact Or.inl rfl | exact Or.inr rfl) (c_FE (c_EF (x_call rfl (g_call ih.i__law_text hc hq (by rfl) T.m__law_text T.F__law_text.kp T.b__law_text pass0 (xa_cons (pa_cons (x_var (pv 0)) (xa_cons (pa_cons (x_var (pv 1)) (xa_cons (pa_cons (x_var (pv 3)) (xa_nil pa_nil))))))))))))) (s_seq (pss_cons (s_if (ps_if (PW.pt (x_or (pw_or (x_test2 (pt_cmpR op_lt (c_EB (x_call rfl (g_call ih.i__law_level hc hq (by rfl) T.m__law_level T.F__law_level.kp T.b__law_level pass0 (xa_cons (pa_cons (x_var (pv 1)) (xa_nil pa_nil)))))) (x_varB (pv 2)) rfl) (p_cmp fun i j => decide (i < j))) (pw_or1 (PW.pt (x_and (pw_and (x_test2 (pt_cmpR (op_neW (un_of hr)) (x_varB (pv 3)) (c_EB (x_lst (pe_lst (xa_nil pa_nil)))) rfl) p_ne) (pw_and1 (x_test2 (pt_cmpR (op_eqW (un_of hr)) (c_EB (x_op2 (pe_op op_modA (c_FB (x_popR (pe_bm0 PySem.F.plainAttrs_list PySem.F.slot_list_pop PySem.F.type_list_pop mt_pop (x_varB (pv 3))))) (c_FB (x_c pe_int fun _ _ => .int _))) p_mod)) (c_FB (x_c pe_int fun _ _ => .int _)) rfl) p_eq))))))))) (s_seq (pss_cons (s_ret (ps_ret (x_op2 (pe_op op_addA (c_EB (x_op2 (pe_op op_addA (c_FB (x_c pe_str fun _ _ => .str _)) (x_varB (pv 4))) p_add)) (c_FB (x_c pe_str fun _ _ => .str _))) p_add))) (s_nil pss_nil))) (s_nil pss_nil))) (s_seq (pss_cons (s_retV (ps_ret (pv 4))) (s_nil pss_nil)))))))
theorem ok__law_free_text (T : Top w K mg) {k : Nat} (ih : Oks P w base T k) : GOk P w K mg base CX0 (k + 1) T.a__law_free_text T.d__law_free_text ["_law_m", "_law_e", "_law_more"] (spD K W0 3 (sem (k + 1) f__law_free_text)) := by
  rw [e__law_free_text]
  refine g_fn (N := ["_law_m", "_law_e", "_law_more", "_law_text_here"]) (ps := ["_law_m", "_law_e", "_law_more"]) (g := m__law_free_text (sem k)) T.F__law_free_text sc__law_free_text (fun cdv A outer s H EX hr hq => ?_)
  have hc := hr
  exact (s_seq (pss_cons (s_set (ps_set (i := 3) sc__law_free_text.nd rfl (by first | exact Or.inl rfl | exact Or.inr rfl) (c_FE (c_EF (x_call rfl (g_call ih.i__law_text hc hq (by rfl) T.m__law_text T.F__law_text.kp T.b__law_text pass0 (xa_cons (pa_cons (x_var (pv 0)) (xa_cons (pa_cons (x_var (pv 1)) (xa_cons (pa_cons (x_var (pv 2)) (xa_nil pa_nil))))))))))))) (s_seq (pss_cons (s_ret (ps_ret (x_if (pe_ifExp (PW.pt (x_and (pw_and (x_test2 (pt_cmpR (op_neW (un_of hr)) (x_varB (pv 2)) (c_EB (x_lst (pe_lst (xa_nil pa_nil)))) rfl) p_ne) (pw_and1 (x_test2 (pt_cmpR (op_eqW (un_of hr)) (c_EB (x_op2 (pe_op op_modA (c_FB (x_popR (pe_bm0 PySem.F.plainAttrs_list PySem.F.slot_list_pop PySem.F.type_list_pop mt_pop (x_varB (pv 2))))) (c_FB (x_c pe_int fun _ _ => .int _))) p_mod)) (c_FB (x_c pe_int fun _ _ => .int _)) rfl) p_eq))))) (x_op2 (pe_op op_addA (c_EB (x_op2 (pe_op op_addA (c_FB (x_c pe_str fun _ _ => .str _)) (x_varB (pv 3))) p_add)) (c_FB (x_c pe_str fun _ _ => .str _))) p_add) (c_FE (x_var (pv 3))))))) (s_nil pss_nil)))))
theorem ok__law_text (T : Top w K mg) {k : Nat} (ih : Oks P w base T k) : GOk P w K mg base CX0 (k + 1) T.a__law_text T.d__law_text ["_law_m", "_law_e", "_law_more"] (spD K W0 3 (sem (k + 1) f__law_text)) := by
  rw [e__law_text]
  refine g_fn (N := ["_law_m", "_law_e", "_law_more", "_law_texts", "_law_words", "_law_own", "_law_left", "_law_is_far", "_law_args", "_law_one", "_law_word", "_law_text_here"]) (ps := ["_law_m", "_law_e", "_law_more"]) (g := m__law_text (sem k)) T.F__law_text sc__law_text (fun cdv A outer s H EX hr hq => ?_)
  have hc := hr
  exact (s_seq (pss_cons (s_if (ps_if (x_test2 (pt_cmpR op_inA (c_EB (x_ix (pe_ix ix_seq (x_varB (pv 1)) (c_FB (x_c pe_int fun _ _ => .int _)) (fun _ _ => rfl)))) (c_FB (x_tup (pe_tup (xa_cons (pa_cons (x_c pe_str fun _ _ => .str _) (xa_cons (pa_cons (x_c pe_str fun _ _ => .str _) (xa_nil pa_nil)))))))) rfl) p_in) (s_seq (pss_cons (s_ret (ps_ret (x_prim (pe_callTy call_strA (by rfl) T.z_str bt_str (xr_cons (pa_cons (c_EB (x_ix (pe_ix ix_seq (x_varB (pv 1)) (c_FB (x_c pe_int fun _ _ => .int _)) (fun _ _ => rfl)))) (xr_nil pa_nil)))) p_str))) (s_nil pss_nil))) (s_nil pss_nil))) (s_seq (pss_cons (s_if (ps_if (x_test2 (pt_cmpR (op_eqW (un_of hr)) (c_EB (x_ix (pe_ix ix_seq (x_varB (pv 1)) (c_FB (x_c pe_int fun _ _ => .int _)) (fun _ _ => rfl)))) (c_FB (x_c pe_str fun _ _ => .str _)) rfl) p_eq) (s_seq (pss_cons (s_set (ps_set (i := 5) sc__law_text.nd rfl (by first | exact Or.inl rfl | exact Or.inr rfl) (c_FE (c_EF (x_call rfl (g_call ih.i__law_level hc hq (by rfl) T.m__law_level T.F__law_level.kp T.b__law_level pass0 (xa_cons (pa_cons (x_var (pv 1)) (xa_nil pa_nil))))))))) (s_seq (pss_cons (s_set (ps_set (i := 6) sc__law_text.nd rfl (by first | exact Or.inl rfl | exact Or.inr rfl) (c_FE (c_EF (x_call rfl (g_call ih.i__law_side hc hq (by rfl) T.m__law_side T.F__law_side.kp T.b__law_side pass0 (xa_cons (pa_cons (x_var (pv 0)) (xa_cons (pa_cons (c_EF (x_ix (pe_ix ix_seq (x_varB (pv 1)) (c_FB (x_c pe_int fun _ _ => .int _)) (fun _ _ => rfl)))) (xa_cons (pa_cons (c_EF (x_op2 (pe_op op_addA (x_varB (pv 5)) (c_EB (x_prim (pe_callTy call_int1 (by rfl) T.z_int bt_int (xr_cons (pa_cons (c_EB (x_op2 (pe_cmpR (op_eqW (un_of hr)) (x_varB (pv 5)) (c_FB (x_c pe_int fun _ _ => .int _)) rfl) p_eq)) (xr_nil pa_nil)))) p_int))) p_add)) (xa_cons (pa_cons (x_var (pv 2)) (xa_nil pa_nil))))))))))))))) (s_seq (pss_cons (s_ret (ps_ret (x_op2 (pe_op op_addA (c_EB (x_op2 (pe_op op_addA (c_EB (x_op2 (pe_op op_addA (c_EB (x_op2 (pe_op op_addA (x_varB (pv 6)) (c_FB (x_c pe_str fun _ _ => .str _))) p_add)) (c_EB (x_ix (pe_ix ix_seq (x_varB (pv 1)) (c_FB (x_c pe_int fun _ _ => .int _)) (fun _ _ => rfl))))) p_add)) (c_FB (x_c pe_str fun _ _ => .str _))) p_add)) (c_EB (x_call rfl (g_call ih.i__law_side hc hq (by rfl) T.m__law_side T.F__law_side.kp T.b__law_side pass0 (xa_cons (pa_cons (x_var (pv 0)) (xa_cons (pa_cons (c_EF (x_ix (pe_ix ix_seq (x_varB (pv 1)) (c_FB (x_c pe_int fun _ _ => .int _)) (fun _ _ => rfl)))) (xa_cons (pa_cons (c_EF (x_op2 (pe_op op_addA (x_varB (pv 5)) (c_FB (x_c pe_int fun _ _ => .int _))) p_add)) (xa_cons (pa_cons (x_var (pv 2)) (xa_nil pa_nil))))))))))))) p_add))) (s_nil pss_nil))))))) (s_nil pss_nil))) (s_seq (pss_cons (s_if (ps_if (x_test2 (pt_cmpR (op_eqW (un_of hr)) (c_EB (x_ix (pe_ix ix_seq (x_varB (pv 1)) (c_FB (x_c pe_int fun _ _ => .int _)) (fun _ _ => rfl)))) (c_FB (x_c pe_str fun _ _ => .str _)) rfl) p_eq) (s_seq (pss_cons (s_set (ps_set (i := 7) sc__law_text.nd rfl (by first | exact Or.inl rfl | exact Or.inr rfl) (c_FE (c_EF (x_orV (pe_or (x_op2 (pe_cmpR (op_neW (un_of hr)) (c_EB (x_ix (pe_ix ix_seq (x_varB (pv 1)) (c_FB (x_c pe_int fun _ _ => .int _)) (fun _ _ => rfl)))) (x_varB (pv 0)) rfl) p_ne) (pe_one (x_andV (pe_and (x_op2 (pe_cmpR (op_neW (un_of hr)) (x_varB (pv 2)) (c_EB (x_lst (pe_lst (xa_nil pa_nil)))) rfl) p_ne) (pe_one (x_op2 (pe_cmpR (op_eqW (un_of hr)) (c_EB (x_op2 (pe_op op_modA (c_FB (x_popR (pe_bm0 PySem.F.plainAttrs_list PySem.F.slot_list_pop PySem.F.type_list_pop mt_pop (x_varB (pv 2))))) (c_FB (x_c pe_int fun _ _ => .int _))) p_mod)) (c_FB (x_c pe_int fun _ _ => .int _)) rfl) p_eq))))))))))) (s_seq (pss_cons (s_set (ps_set (i := 8) sc__law_text.nd rfl (by first | exact Or.inl rfl | exact Or.inr rfl) (c_FE (c_EF (x_meth (pe_bm PySem.F.plainAttrs_str PySem.F.slot_str_join PySem.F.type_str_join mt_join (c_FB (x_c pe_str fun _ _ => .str _)) (xr_cons (pa_cons (c_EB (x_lc (by decide) (pe_lc (own := [("_law_one", 9)]) rfl sc__law_text.nd (x_it (PI.or (pi_list (c_EF (x_ix (pe_ix ix_seq (x_varB (pv 1)) (c_FB (x_c pe_int fun _ _ => .int _)) (fun _ _ => rfl))))) (PI.or (pi_tup (c_EF (x_ix (pe_ix ix_seq (x_varB (pv 1)) (c_FB (x_c pe_int fun _ _ => .int _)) (fun _ _ => rfl))))) (pi_str (c_EF (x_ix (pe_ix ix_seq (x_varB (pv 1)) (c_FB (x_c pe_int fun _ _ => .int _)) (fun _ _ => rfl)))))))) (blkOk_by (N := ["_law_m", "_law_e", "_law_more", "_law_texts", "_law_words", "_law_own", "_law_left", "_law_is_far", "_law_args", "_law_one", "_law_word", "_law_text_here"]) (sc := defScope s__law_text) (by decide +kernel)) (fun _ _ _ _ _ => (x_gname (pg_name (i := 9) sc__law_text.nd rfl (by first | exact Or.inl rfl | exact Or.inr rfl)))) (fun _ _ _ _ _ => x_yes) (fun _ _ _ _ _ => (c_EF (x_call rfl (g_call ih.i__law_free_text hc hq (by rfl) T.m__law_free_text T.F__law_free_text.kp T.b__law_free_text pass0 (xa_cons (pa_cons (x_var (pv 0)) (xa_cons (pa_cons (x_var (pv 9)) (xa_cons (pa_cons (x_var (pv 2)) (xa_nil pa_nil)))))))))))))) (xr_nil pa_nil)))) p_join))))) (s_seq (pss_cons (s_ret (ps_ret (x_op2 (pe_op op_addA (c_EB (x_op2 (pe_op op_addA (c_EB (x_op2 (pe_op op_addA (c_EB (x_op2 (pe_op op_addA (c_EB (x_op2 (pe_op op_mulS (c_EB (x_op2 (pe_op op_addA (c_EB (x_ix (pe_ix ix_seq (x_varB (pv 1)) (c_FB (x_c pe_int fun _ _ => .int _)) (fun _ _ => rfl)))) (c_FB (x_c pe_str fun _ _ => .str _))) p_add)) (c_EB (x_prim (pe_callTy call_int1 (by rfl) T.z_int bt_int (xr_cons (pa_cons (x_varB (pv 7)) (xr_nil pa_nil)))) p_int))) p_mulS)) (c_EB (x_ix (pe_ix ix_seq (x_varB (pv 1)) (c_FB (x_c pe_int fun _ _ => .int _)) (fun _ _ => rfl))))) p_add)) (c_FB (x_c pe_str fun _ _ => .str _))) p_add)) (x_varB (pv 8))) p_add)) (c_FB (x_c pe_str fun _ _ => .str _))) p_add))) (s_nil pss_nil))))))) (s_nil pss_nil))) (s_seq (pss_cons (s_setLc (by decide) (ps_setLc (i := 3) (own := [("_law_one", 9)]) rfl sc__law_text.nd rfl rfl (sw_true rfl rfl rfl (by decide +kernel)) (x_it (PI.or (pi_list (c_EF (x_sl (pe_slice sl_A3 (x_varB (pv 1)) (x_so (c_FB (x_c pe_int fun _ _ => .int _))) x_no) p_sl))) (PI.or (pi_tup (c_EF (x_sl (pe_slice sl_A3 (x_varB (pv 1)) (x_so (c_FB (x_c pe_int fun _ _ => .int _))) x_no) p_sl))) (pi_str (c_EF (x_sl (pe_slice sl_A3 (x_varB (pv 1)) (x_so (c_FB (x_c pe_int fun _ _ => .int _))) x_no) p_sl)))))) (blkOk_by (N := ["_law_m", "_law_e", "_law_more", "_law_texts", "_law_words", "_law_own", "_law_left", "_law_is_far", "_law_args", "_law_one", "_law_word", "_law_text_here"]) (sc := defScope s__law_text) (by decide +kernel)) (fun _ _ _ _ _ => (x_gname (pg_name (i := 9) sc__law_text.nd rfl (by first | exact Or.inl rfl | exact Or.inr rfl)))) (fun _ _ _ _ _ => (pts_one (x_truth (pt_truth (c_EB (x_isi (by decide) (pe_callB call_isi (by rfl) T.z_isinstance bt_isinstance (pa_cons (x_varB (pv 9)) (pa_cons (pe_bltn (by rfl) T.z_tuple bt_tuple rfl) pa_nil))))) (fun _ => rfl))))) (fun _ _ _ _ _ => (c_EF (x_call rfl (g_call ih.i__law_free_text hc hq (by rfl) T.m__law_free_text T.F__law_free_text.kp T.b__law_free_text pass0 (xa_cons (pa_cons (x_var (pv 0)) (xa_cons (pa_cons (x_var (pv 9)) (xa_cons (pa_cons (x_var (pv 2)) (xa_nil pa_nil))))))))))))) (s_seq (pss_cons (s_set (ps_set (i := 4) sc__law_text.nd rfl (by first | exact Or.inl rfl | exact Or.inr rfl) (c_FE (x_dget2 (pe_dget2 (hu_of hr) (c_FB (x_disp (ks := ["if", "tell", "stop"]) (fs := [(dEF (dLst (dCons (dC (.str "if ")) (dCons (dC (.str " then ")) (dCons (dC (.str " else ")) dNil))))), (dEF (dLst (dCons (dC (.str "tell ")) (dCons (dC (.str " in ")) dNil)))), (dEF (dLst (dCons (dC (.str "stop ")) dNil)))]) rfl (pe_disp (pps_cons pe_str (c_EF (x_lst (pe_lst (xa_cons (pa_cons (x_c pe_str fun _ _ => .str _) (xa_cons (pa_cons (x_c pe_str fun _ _ => .str _) (xa_cons (pa_cons (x_c pe_str fun _ _ => .str _) (xa_nil pa_nil)))))))))) (pps_cons pe_str (c_EF (x_lst (pe_lst (xa_cons (pa_cons (x_c pe_str fun _ _ => .str _) (xa_cons (pa_cons (x_c pe_str fun _ _ => .str _) (xa_nil pa_nil)))))))) (pps_cons pe_str (c_EF (x_lst (pe_lst (xa_cons (pa_cons (x_c pe_str fun _ _ => .str _) (xa_nil pa_nil)))))) pps_nil))) rfl rfl (by simp) (by decide)))) (c_EB (x_ix (pe_ix ix_seq (x_varB (pv 1)) (c_FB (x_c pe_int fun _ _ => .int _)) (fun _ _ => rfl)))) (c_EF (x_lst (pe_lst (xa_nil pa_nil)))) ⟨rfl, rfl, rfl, rfl⟩))))) (s_seq (pss_cons (s_if (ps_if (x_test2 (pt_cmpR (op_eqW (un_of hr)) (c_EB (x_ix (pe_ix ix_seq (x_varB (pv 1)) (c_FB (x_c pe_int fun _ _ => .int _)) (fun _ _ => rfl)))) (c_FB (x_c pe_str fun _ _ => .str _)) rfl) p_eq) (s_seq (pss_cons (s_set (ps_set (i := 4) sc__law_text.nd rfl (by first | exact Or.inl rfl | exact Or.inr rfl) (c_FE (c_EF (x_lst (pe_lst (xa_cons (pa_cons (c_EF (x_op2 (pe_op op_addA (c_EB (x_op2 (pe_op op_addA (c_FB (x_c pe_str fun _ _ => .str _)) (c_EB (x_ix (pe_ix ix_seq (x_varB (pv 1)) (c_FB (x_c pe_int fun _ _ => .int _)) (fun _ _ => rfl))))) p_add)) (c_FB (x_c pe_str fun _ _ => .str _))) p_add)) (xa_cons (pa_cons (x_c pe_str fun _ _ => .str _) (xa_nil pa_nil))))))))))) (s_nil pss_nil))) (s_nil pss_nil))) (s_seq (pss_cons (s_if (ps_if (x_test2 (pt_cmpR (op_eqW (un_of hr)) (c_EB (x_ix (pe_ix ix_seq (x_varB (pv 1)) (c_FB (x_c pe_int fun _ _ => .int _)) (fun _ _ => rfl)))) (c_FB (x_c pe_str fun _ _ => .str _)) rfl) p_eq) (s_seq (pss_cons (s_set (ps_set (i := 4) sc__law_text.nd rfl (by first | exact Or.inl rfl | exact Or.inr rfl) (c_FE (c_EF (x_lst (pe_lst (xa_cons (pa_cons (x_c pe_str fun _ _ => .str _) (xa_cons (pa_cons (c_EF (x_op2 (pe_op op_addA (c_EB (x_op2 (pe_op op_addA (c_EB (x_op2 (pe_op op_addA (c_EB (x_op2 (pe_op op_addA (c_FB (x_c pe_str fun _ _ => .str _)) (c_EB (x_ix (pe_ix ix_seq (x_varB (pv 1)) (c_FB (x_c pe_int fun _ _ => .int _)) (fun _ _ => rfl))))) p_add)) (c_FB (x_c pe_str fun _ _ => .str _))) p_add)) (c_EB (x_ix (pe_ix ix_seq (x_varB (pv 1)) (c_FB (x_c pe_int fun _ _ => .int _)) (fun _ _ => rfl))))) p_add)) (c_FB (x_c pe_str fun _ _ => .str _))) p_add)) (xa_cons (pa_cons (x_c pe_str fun _ _ => .str _) (xa_nil pa_nil))))))))))))) (s_nil pss_nil))) (s_nil pss_nil))) (s_seq (pss_cons (s_fz (s_ret (ps_ret (x_meth (pe_bm PySem.F.plainAttrs_str PySem.F.slot_str_join PySem.F.type_str_join mt_join (c_FB (x_c pe_str fun _ _ => .str _)) (xr_cons (pa_cons (c_EB (x_lc (by decide) (pe_lc (own := [("_law_word", 10), ("_law_text_here", 11)]) rfl sc__law_text.nd (x_zip (RZ.pi_zipA (by rfl) T.z_zip (xa_cons (pa_cons (x_var (pv 4)) (xa_cons (pa_cons (x_var (pv 3)) (xa_nil pa_nil))))))) (blkOk_by (N := ["_law_m", "_law_e", "_law_more", "_law_texts", "_law_words", "_law_own", "_law_left", "_law_is_far", "_law_args", "_law_one", "_law_word", "_law_text_here"]) (sc := defScope s__law_text) (by decide +kernel)) (fun _ _ _ _ _ => (x_gtup (is := [10, 11]) rfl (pg_tup rfl (pgs_cons (pg_name (i := 10) sc__law_text.nd rfl (by first | exact Or.inl rfl | exact Or.inr rfl)) (pgs_cons (pg_name (i := 11) sc__law_text.nd rfl (by first | exact Or.inl rfl | exact Or.inr rfl)) pgs_nil))))) (fun _ _ _ _ _ => x_yes) (fun _ _ _ _ _ => (c_EF (x_op2 (pe_op op_addA (x_varB (pv 10)) (x_varB (pv 11))) p_add)))))) (xr_nil pa_nil)))) p_join)))) (s_nil pss_nil)))))))))))))))))
theorem ok__law_program_text (T : Top w K mg) {k : Nat} (ih : Oks P w base T k) : GOk P w K mg base CX0 (k + 1) T.a__law_program_text T.d__law_program_text ["_law_program", "_law_more"] (spD K W0 2 (sem (k + 1) f__law_program_text)) := by
  rw [e__law_program_text]
  refine g_fn (N := ["_law_program", "_law_more", "_law_lines", "_law_m", "_law_room", "_law_f", "_law_params", "_law_body"]) (ps := ["_law_program", "_law_more"]) (g := m__law_program_text (sem k)) T.F__law_program_text sc__law_program_text (fun cdv A outer s H EX hr hq => ?_)
  have hc := hr
  exact (s_seq (pss_cons (s_set (ps_set (i := 2) sc__law_program_text.nd rfl (by first | exact Or.inl rfl | exact Or.inr rfl) (x_lst (pe_lst (xa_nil pa_nil))))) (s_seq (pss_cons (s_for (ps_for PassesOwn.never rfl (x_it (PI.or (pi_list (x_var (pv 0))) (PI.or (pi_tup (x_var (pv 0))) (pi_str (x_var (pv 0)))))) (x_gtup (is := [3, 4]) rfl (pg_tup rfl (pgs_cons (pg_name (i := 3) sc__law_program_text.nd rfl (by first | exact Or.inl rfl | exact Or.inr rfl)) (pgs_cons (pg_name (i := 4) sc__law_program_text.nd rfl (by first | exact Or.inl rfl | exact Or.inr rfl)) pgs_nil)))) (s_seq (pss_cons (s_app (ps_expr (pe_bm PySem.F.plainAttrs_list PySem.F.slot_list_append PySem.F.type_list_append mt_append (pv 2) (pa_cons (c_EF (x_op2 (pe_op op_addA (c_FB (x_c pe_str fun _ _ => .str _)) (x_varB (pv 3))) p_add)) pa_nil)))) (s_seq (pss_cons (s_for (ps_for PassesOwn.never rfl (x_it (PI.or (pi_list (x_var (pv 4))) (PI.or (pi_tup (x_var (pv 4))) (pi_str (x_var (pv 4)))))) (x_gtup (is := [5, 6, 7]) rfl (pg_tup rfl (pgs_cons (pg_name (i := 5) sc__law_program_text.nd rfl (by first | exact Or.inl rfl | exact Or.inr rfl)) (pgs_cons (pg_name (i := 6) sc__law_program_text.nd rfl (by first | exact Or.inl rfl | exact Or.inr rfl)) (pgs_cons (pg_name (i := 7) sc__law_program_text.nd rfl (by first | exact Or.inl rfl | exact Or.inr rfl)) pgs_nil))))) (s_seq (pss_cons (s_app (ps_expr (pe_bm PySem.F.plainAttrs_list PySem.F.slot_list_append PySem.F.type_list_append mt_append (pv 2) (pa_cons (c_EF (x_op2 (pe_op op_addA (c_EB (x_op2 (pe_op op_addA (c_EB (x_op2 (pe_op op_addA (c_EB (x_op2 (pe_op op_addA (c_EB (x_op2 (pe_op op_addA (c_FB (x_c pe_str fun _ _ => .str _)) (x_varB (pv 5))) p_add)) (c_FB (x_c pe_str fun _ _ => .str _))) p_add)) (c_EB (x_meth (pe_bm PySem.F.plainAttrs_str PySem.F.slot_str_join PySem.F.type_str_join mt_join (c_FB (x_c pe_str fun _ _ => .str _)) (xr_cons (pa_cons (x_varB (pv 6)) (xr_nil pa_nil)))) p_join))) p_add)) (c_FB (x_c pe_str fun _ _ => .str _))) p_add)) (c_EB (x_call rfl (g_call ih.i__law_free_text hc hq (by rfl) T.m__law_free_text T.F__law_free_text.kp T.b__law_free_text pass0 (xa_cons (pa_cons (x_var (pv 3)) (xa_cons (pa_cons (x_var (pv 7)) (xa_cons (pa_cons (x_var (pv 1)) (xa_nil pa_nil))))))))))) p_add)) pa_nil)))) (s_nil pss_nil))))) (s_nil pss_nil))))))) (s_seq (pss_cons (s_ret (ps_ret (x_meth (pe_bm PySem.F.plainAttrs_str PySem.F.slot_str_join PySem.F.type_str_join mt_join (c_FB (x_c pe_str fun _ _ => .str _)) (xr_cons (pa_cons (x_varB (pv 2)) (xr_nil pa_nil)))) p_join))) (s_nil pss_nil)))))))
theorem ok__law_sided (T : Top w K mg) {k : Nat} (ih : Oks P w base T k) : GOk P w K mg base CX0 (k + 1) T.a__law_sided T.d__law_sided ["_law_cells", "_law_spot", "_law_at", "_law_scope", "_law_deep"] (spD K W0 5 (sem (k + 1) f__law_sided)) := by
  rw [e__law_sided]
  refine g_fn (N := ["_law_cells", "_law_spot", "_law_at", "_law_scope", "_law_deep", "_law_n", "_law_one", "_law_other", "_law_k"]) (ps := ["_law_cells", "_law_spot", "_law_at", "_law_scope", "_law_deep"]) (g := m__law_sided (sem k)) T.F__law_sided sc__law_sided (fun cdv A outer s H EX hr hq => ?_)
  have hc := hr
  exact (s_seq (pss_cons (s_set (ps_set (i := 5) sc__law_sided.nd rfl (by first | exact Or.inl rfl | exact Or.inr rfl) (c_FE (c_EF (x_call rfl (g_call ih.i__law_cell hc hq (by rfl) T.m__law_cell T.F__law_cell.kp T.b__law_cell pass0 (xa_cons (pa_cons (x_var (pv 0)) (xa_cons (pa_cons (x_var (pv 1)) (xa_nil pa_nil))))))))))) (s_seq (pss_cons (s_if (ps_if (PW.pt (x_or (pw_or (x_test2 (pt_cmpR op_lt (x_varB (pv 4)) (c_FB (x_c pe_int fun _ _ => .int _)) rfl) (p_cmp fun i j => decide (i < j))) (pw_or1 (x_test2 (pt_cmpR (op_eqW (un_of hr)) (c_EB (x_op2 (pe_op op_modA (x_varB (pv 5)) (c_FB (x_c pe_int fun _ _ => .int _))) p_mod)) (c_FB (x_c pe_int fun _ _ => .int _)) rfl) p_eq))))) (s_seq (pss_cons (s_ret (ps_ret (x_call rfl (g_call ih.i__law_expression hc hq (by rfl) T.m__law_expression T.F__law_expression.kp T.b__law_expression pass0 (xa_cons (pa_cons (x_var (pv 0)) (xa_cons (pa_cons (x_var (pv 1)) (xa_cons (pa_cons (x_var (pv 2)) (xa_cons (pa_cons (x_var (pv 3)) (xa_cons (pa_cons (c_EF (x_op2 (pe_op op_addA (c_FB (x_c pe_int fun _ _ => .int _)) (c_EB (x_op2 (pe_op op_modA (c_EB (x_op2 (pe_op op_fdivA (x_varB (pv 5)) (c_FB (x_c pe_int fun _ _ => .int _))) p_fdiv)) (c_FB (x_c pe_int fun _ _ => .int _))) p_mod))) p_add)) (xa_nil pa_nil))))))))))))))) (s_nil pss_nil))) (s_nil pss_nil))) (s_seq (pss_cons (s_asg (ps_asg (c_EF (x_lc (by decide) (pe_lc (own := [("_law_k", 8)]) rfl sc__law_sided.nd (x_rng1 (pi_range1 (by rfl) T.z_range (xr_cons (pa_cons (c_FB (x_c pe_int fun _ _ => .int _)) (xr_nil pa_nil))))) (blkOk_by (N := ["_law_cells", "_law_spot", "_law_at", "_law_scope", "_law_deep", "_law_n", "_law_one", "_law_other", "_law_k"]) (sc := defScope s__law_sided) (by decide +kernel)) (fun _ _ _ _ _ => (x_gname (pg_name (i := 8) sc__law_sided.nd rfl (by first | exact Or.inl rfl | exact Or.inr rfl)))) (fun _ _ _ _ _ => x_yes) (fun _ _ _ _ _ => (c_EF (x_call rfl (g_call ih.i__law_sided hc hq (by rfl) T.m__law_sided T.F__law_sided.kp T.b__law_sided pass0 (xa_cons (pa_cons (x_var (pv 0)) (xa_cons (pa_cons (x_var (pv 1)) (xa_cons (pa_cons (x_var (pv 2)) (xa_cons (pa_cons (x_var (pv 3)) (xa_cons (pa_cons (c_EF (x_op2 (pe_op op_sub (x_varB (pv 4)) (c_FB (x_c pe_int fun _ _ => .int _))) p_sub)) (xa_nil pa_nil)))))))))))))))))) (x_glst (is := [6, 7]) rfl (pg_lst rfl (pgs_cons (pg_name (i := 6) sc__law_sided.nd rfl (by first | exact Or.inl rfl | exact Or.inr rfl)) (pgs_cons (pg_name (i := 7) sc__law_sided.nd rfl (by first | exact Or.inl rfl | exact Or.inr rfl)) pgs_nil)))))) (s_seq (pss_cons (s_ret (ps_ret (c_FE (x_tup (pe_tup (xa_cons (pa_cons (x_c pe_str fun _ _ => .str _) (xa_cons (pa_cons (c_EF (x_ix (pe_ix ix_seq (c_FB (x_c pe_str fun _ _ => .str _)) (c_EB (x_op2 (pe_op op_modA (c_EB (x_op2 (pe_op op_fdivA (x_varB (pv 5)) (c_FB (x_c pe_int fun _ _ => .int _))) p_fdiv)) (c_FB (x_c pe_int fun _ _ => .int _))) p_mod)) (fun _ _ => rfl)))) (xa_cons (pa_cons (x_var (pv 6)) (xa_cons (pa_cons (x_var (pv 7)) (xa_nil pa_nil)))))))))))))) (s_nil pss_nil)))))))))
theorem ok__law_chain (T : Top w K mg) {k : Nat} (ih : Oks P w base T k) : GOk P w K mg base CX0 (k + 1) T.a__law_chain T.d__law_chain ["_law_cells", "_law_spot", "_law_at", "_law_scope", "_law_many"] (spD K W0 5 (sem (k + 1) f__law_chain)) := by
  rw [e__law_chain]
  refine g_fn (N := ["_law_cells", "_law_spot", "_law_at", "_law_scope", "_law_many", "_law_found", "_law_turn", "_law_n", "_law_some", "_law_leaf_here", "_law_sign", "_law_name"]) (ps := ["_law_cells", "_law_spot", "_law_at", "_law_scope", "_law_many"]) (g := m__law_chain (sem k)) T.F__law_chain sc__law_chain (fun cdv A outer s H EX hr hq => ?_)
  have hc := hr
  exact (s_seq (pss_cons (s_set (ps_set (i := 5) sc__law_chain.nd rfl (by first | exact Or.inl rfl | exact Or.inr rfl) (c_FE (c_EF (x_call rfl (g_call ih.i__law_leaf hc hq (by rfl) T.m__law_leaf T.F__law_leaf.kp T.b__law_leaf pass0 (xa_cons (pa_cons (x_var (pv 2)) (xa_cons (pa_cons (x_var (pv 3)) (xa_cons (pa_cons (c_EF (x_call rfl (g_call ih.i__law_cell hc hq (by rfl) T.m__law_cell T.F__law_cell.kp T.b__law_cell pass0 (xa_cons (pa_cons (x_var (pv 0)) (xa_cons (pa_cons (x_var (pv 1)) (xa_nil pa_nil)))))))) (xa_nil pa_nil))))))))))))) (s_seq (pss_cons (s_for (ps_for PassesOwn.never rfl (x_rng1 (pi_range1 (by rfl) T.z_range (xr_cons (pa_cons (x_varB (pv 4)) (xr_nil pa_nil))))) (x_gname (pg_name (i := 6) sc__law_chain.nd rfl (by first | exact Or.inl rfl | exact Or.inr rfl))) (s_seq (pss_cons (s_set (ps_set (i := 7) sc__law_chain.nd rfl (by first | exact Or.inl rfl | exact Or.inr rfl) (c_FE (c_EF (x_call rfl (g_call ih.i__law_cell hc hq (by rfl) T.m__law_cell T.F__law_cell.kp T.b__law_cell pass0 (xa_cons (pa_cons (x_var (pv 0)) (xa_cons (pa_cons (x_var (pv 1)) (xa_nil pa_nil))))))))))) (s_seq (pss_cons (s_par3 (ps_par3 (i := 9) (j := 10) (l := 11) rfl sc__law_chain.nd rfl rfl rfl (by decide) (by decide) (by decide) rfl rfl rfl (xa_cons (pa_cons (c_EF (x_call rfl (g_call ih.i__law_leaf hc hq (by rfl) T.m__law_leaf T.F__law_leaf.kp T.b__law_leaf pass0 (xa_cons (pa_cons (x_var (pv 2)) (xa_cons (pa_cons (x_var (pv 3)) (xa_cons (pa_cons (c_EF (x_op2 (pe_op op_fdivA (x_varB (pv 7)) (c_FB (x_c pe_int fun _ _ => .int _))) p_fdiv)) (xa_nil pa_nil)))))))))) (xa_cons (pa_cons (c_EF (x_ix (pe_ix ix_seq (c_FB (x_c pe_str fun _ _ => .str _)) (c_EB (x_op2 (pe_op op_modA (c_EB (x_op2 (pe_op op_fdivA (x_varB (pv 7)) (c_FB (x_c pe_int fun _ _ => .int _))) p_fdiv)) (c_FB (x_c pe_int fun _ _ => .int _))) p_mod)) (fun _ _ => rfl)))) (xa_cons (pa_cons (c_EF (x_ix (pe_ix ix_seq (c_EB (x_dget (pe_dget (hu_of hr) (x_varB (pv 2)) (c_FB (x_c pe_str fun _ _ => .str _)) (fun _ _ => rfl)))) (c_EB (x_op2 (pe_op op_modA (c_EB (x_op2 (pe_op op_fdivA (x_varB (pv 7)) (c_FB (x_c pe_int fun _ _ => .int _))) p_fdiv)) (c_FB (x_c pe_int fun _ _ => .int _))) p_mod)) (fun _ _ => rfl)))) (xa_nil pa_nil))))))) rfl)) (s_seq (pss_cons (s_set (ps_set (i := 8) sc__law_chain.nd rfl (by first | exact Or.inl rfl | exact Or.inr rfl) (x_lst (pe_lst (xa_cons (pa_cons (x_tup (pe_tup (xa_cons (pa_cons (x_c pe_str fun _ _ => .str _) (xa_cons (pa_cons (x_var (pv 10)) (xa_cons (pa_cons (x_var (pv 5)) (xa_cons (pa_cons (x_var (pv 9)) (xa_nil pa_nil))))))))))) (xa_cons (pa_cons (x_tup (pe_tup (xa_cons (pa_cons (x_c pe_str fun _ _ => .str _) (xa_cons (pa_cons (x_var (pv 10)) (xa_cons (pa_cons (x_var (pv 9)) (xa_cons (pa_cons (x_var (pv 5)) (xa_nil pa_nil))))))))))) (xa_cons (pa_cons (x_tup (pe_tup (xa_cons (pa_cons (x_c pe_str fun _ _ => .str _) (xa_cons (pa_cons (x_var (pv 11)) (xa_cons (pa_cons (x_var (pv 5)) (xa_cons (pa_cons (x_var (pv 9)) (xa_nil pa_nil))))))))))) (xa_nil pa_nil))))))))))) (s_seq (pss_cons (s_set (ps_set (i := 8) sc__law_chain.nd rfl (by first | exact Or.inl rfl | exact Or.inr rfl) (x_op2 (pe_op op_addA (x_varB (pv 8)) (c_EB (x_lst (pe_lst (xa_cons (pa_cons (x_tup (pe_tup (xa_cons (pa_cons (x_c pe_str fun _ _ => .str _) (xa_cons (pa_cons (x_var (pv 11)) (xa_cons (pa_cons (x_var (pv 9)) (xa_cons (pa_cons (x_var (pv 5)) (xa_nil pa_nil))))))))))) (xa_cons (pa_cons (x_tup (pe_tup (xa_cons (pa_cons (x_c pe_str fun _ _ => .str _) (xa_cons (pa_cons (x_var (pv 5)) (xa_cons (pa_cons (x_var (pv 9)) (xa_cons (pa_cons (x_var (pv 9)) (xa_nil pa_nil))))))))))) (xa_cons (pa_cons (x_tup (pe_tup (xa_cons (pa_cons (x_c pe_str fun _ _ => .str _) (xa_cons (pa_cons (x_var (pv 9)) (xa_cons (pa_cons (x_var (pv 9)) (xa_cons (pa_cons (x_var (pv 5)) (xa_nil pa_nil))))))))))) (xa_nil pa_nil))))))))))) p_add))) (s_seq (pss_cons (s_set (ps_set (i := 8) sc__law_chain.nd rfl (by first | exact Or.inl rfl | exact Or.inr rfl) (x_op2 (pe_op op_addA (x_varB (pv 8)) (c_EB (x_lst (pe_lst (xa_cons (pa_cons (x_tup (pe_tup (xa_cons (pa_cons (x_c pe_str fun _ _ => .str _) (xa_cons (pa_cons (x_var (pv 9)) (xa_cons (pa_cons (x_var (pv 5)) (xa_nil pa_nil))))))))) (xa_cons (pa_cons (x_tup (pe_tup (xa_cons (pa_cons (x_c pe_str fun _ _ => .str _) (xa_cons (pa_cons (x_var (pv 5)) (xa_cons (pa_cons (x_var (pv 9)) (xa_nil pa_nil))))))))) (xa_cons (pa_cons (x_tup (pe_tup (xa_cons (pa_cons (x_c pe_str fun _ _ => .str _) (xa_cons (pa_cons (x_var (pv 5)) (xa_nil pa_nil))))))) (xa_nil pa_nil))))))))))) p_add))) (s_seq (pss_cons (s_app (ps_expr (pe_bm PySem.F.plainAttrs_list PySem.F.slot_list_append PySem.F.type_list_append mt_append (pv 8) (pa_cons (x_tup (pe_tup (xa_cons (pa_cons (x_c pe_str fun _ _ => .str _) (xa_cons (pa_cons (x_tup (pe_tup (xa_cons (pa_cons (x_c pe_str fun _ _ => .str _) (xa_cons (pa_cons (x_c pe_int fun _ _ => .int _) (xa_nil pa_nil))))))) (xa_cons (pa_cons (x_var (pv 11)) (xa_cons (pa_cons (c_EF (x_ix (pe_ix ix_seq (c_EB (x_dget (pe_dget (hu_of hr) (x_varB (pv 2)) (c_FB (x_c pe_str fun _ _ => .str _)) (fun _ _ => rfl)))) (c_FB (x_c pe_int fun _ _ => .int _)) (fun _ _ => rfl)))) (xa_cons (pa_cons (x_var (pv 5)) (xa_cons (pa_cons (x_var (pv 9)) (xa_nil pa_nil))))))))))))))) pa_nil)))) (s_seq (pss_cons (s_set (ps_set (i := 5) sc__law_chain.nd rfl (by first | exact Or.inl rfl | exact Or.inr rfl) (c_FE (c_EF (x_ix (pe_ix ix_seq (c_EB (x_op2 (pe_op op_addA (x_varB (pv 8)) (c_EB (x_lst (pe_lst (xa_cons (pa_cons (x_tup (pe_tup (xa_cons (pa_cons (x_c pe_str fun _ _ => .str _) (xa_cons (pa_cons (x_var (pv 5)) (xa_cons (pa_cons (c_EF (x_ix (pe_ix ix_seq (c_EB (x_dget (pe_dget (hu_of hr) (x_varB (pv 2)) (c_FB (x_c pe_str fun _ _ => .str _)) (fun _ _ => rfl)))) (c_FB (x_c pe_int fun _ _ => .int _)) (fun _ _ => rfl)))) (xa_cons (pa_cons (x_var (pv 11)) (xa_cons (pa_cons (x_var (pv 9)) (xa_cons (pa_cons (x_var (pv 9)) (xa_nil pa_nil))))))))))))))) (xa_nil pa_nil))))))) p_add)) (c_EB (x_op2 (pe_op op_modA (x_varB (pv 7)) (c_FB (x_c pe_int fun _ _ => .int _))) p_mod)) (fun _ _ => rfl))))))) (s_nil pss_nil))))))))))))))))) (s_seq (pss_cons (s_retV (ps_ret (pv 5))) (s_nil pss_nil)))))))
theorem ok__law_full (T : Top w K mg) {k : Nat} (ih : Oks P w base T k) : GOk P w K mg base CX0 (k + 1) T.a__law_full T.d__law_full ["_law_n"] (spD K W0 1 (sem (k + 1) f__law_full)) := by
  rw [e__law_full]
  refine g_fn (N := ["_law_n", "_law_names_here", "_law_modules", "_law_i", "_law_m", "_law_room", "_law_j", "_law_f", "_law_body"]) (ps := ["_law_n"]) (g := m__law_full (sem k)) T.F__law_full sc__law_full (fun cdv A outer s H EX hr hq => ?_)
  have hc := hr
  exact (s_seq (pss_cons (s_set (ps_set (i := 1) sc__law_full.nd rfl (by first | exact Or.inl rfl | exact Or.inr rfl) (c_FE (c_EF (x_call rfl (g_call ih.i__law_names hc hq (by rfl) T.m__law_names T.F__law_names.kp T.b__law_names pass0 (xa_cons (pa_cons (x_var (pv 0)) (xa_nil pa_nil))))))))) (s_seq (pss_cons (s_set (ps_set (i := 2) sc__law_full.nd rfl (by first | exact Or.inl rfl | exact Or.inr rfl) (x_lst (pe_lst (xa_nil pa_nil))))) (s_seq (pss_cons (s_for (ps_for PassesOwn.never rfl (x_enumA (pi_enumA (by rfl) T.z_enumerate (xa_cons (pa_cons (c_EF (x_sl (pe_slice sl_A3 (x_varB (pv 1)) x_no (x_so (c_FB (x_c pe_int fun _ _ => .int _)))) p_sl)) (xa_nil pa_nil))))) (x_gtup (is := [3, 4]) rfl (pg_tup rfl (pgs_cons (pg_name (i := 3) sc__law_full.nd rfl (by first | exact Or.inl rfl | exact Or.inr rfl)) (pgs_cons (pg_name (i := 4) sc__law_full.nd rfl (by first | exact Or.inl rfl | exact Or.inr rfl)) pgs_nil)))) (s_seq (pss_cons (s_set (ps_set (i := 5) sc__law_full.nd rfl (by first | exact Or.inl rfl | exact Or.inr rfl) (x_lst (pe_lst (xa_nil pa_nil))))) (s_seq (pss_cons (s_for (ps_for PassesOwn.never rfl (x_enumA (pi_enumA (by rfl) T.z_enumerate (xa_cons (pa_cons (c_EF (x_sl (pe_slice sl_A3 (x_varB (pv 1)) (x_so (c_FB (x_c pe_int fun _ _ => .int _))) x_no) p_sl)) (xa_nil pa_nil))))) (x_gtup (is := [6, 7]) rfl (pg_tup rfl (pgs_cons (pg_name (i := 6) sc__law_full.nd rfl (by first | exact Or.inl rfl | exact Or.inr rfl)) (pgs_cons (pg_name (i := 7) sc__law_full.nd rfl (by first | exact Or.inl rfl | exact Or.inr rfl)) pgs_nil)))) (s_seq (pss_cons (s_set (ps_set (i := 8) sc__law_full.nd rfl (by first | exact Or.inl rfl | exact Or.inr rfl) (c_FE (x_tup (pe_tup (xa_cons (pa_cons (x_c pe_str fun _ _ => .str _) (xa_cons (pa_cons (c_EF (x_ix (pe_ix ix_seq (c_FB (x_c pe_str fun _ _ => .str _)) (c_EB (x_op2 (pe_op op_modA (c_EB (x_op2 (pe_op op_fdivA (x_varB (pv 0)) (c_FB (x_c pe_int fun _ _ => .int _))) p_fdiv)) (c_FB (x_c pe_int fun _ _ => .int _))) p_mod)) (fun _ _ => rfl)))) (xa_cons (pa_cons (x_tup (pe_tup (xa_cons (pa_cons (x_c pe_str fun _ _ => .str _) (xa_cons (pa_cons (c_EF (x_ix (pe_ix ix_seq (x_varB (pv 1)) (c_EB (x_op2 (pe_op op_modA (c_EB (x_op2 (pe_op op_addA (x_varB (pv 0)) (x_varB (pv 6))) p_add)) (c_FB (x_c pe_int fun _ _ => .int _))) p_mod)) (fun _ _ => rfl)))) (xa_nil pa_nil))))))) (xa_cons (pa_cons (x_tup (pe_tup (xa_cons (pa_cons (x_c pe_str fun _ _ => .str _) (xa_cons (pa_cons (c_EF (x_op2 (pe_op op_modA (c_EB (x_op2 (pe_op op_addA (c_EB (x_op2 (pe_op op_addA (x_varB (pv 0)) (c_EB (x_op2 (pe_op op_mulA (c_FB (x_c pe_int fun _ _ => .int _)) (x_varB (pv 3))) p_mul))) p_add)) (x_varB (pv 6))) p_add)) (c_FB (x_c pe_int fun _ _ => .int _))) p_mod)) (xa_nil pa_nil))))))) (xa_nil pa_nil)))))))))))))) (s_seq (pss_cons (s_app (ps_expr (pe_bm PySem.F.plainAttrs_list PySem.F.slot_list_append PySem.F.type_list_append mt_append (pv 5) (pa_cons (x_tup (pe_tup (xa_cons (pa_cons (x_var (pv 7)) (xa_cons (pa_cons (c_EF (x_prim (pe_callTy call_tuple_of (by rfl) T.z_tuple bt_tuple (xr_cons (pa_cons (c_EB (x_sl (pe_slice sl_A3 (x_varB (pv 1)) x_no (x_so (c_FB (x_c pe_int fun _ _ => .int _)))) p_sl)) (xr_nil pa_nil)))) p_tuple)) (xa_cons (pa_cons (x_var (pv 8)) (xa_nil pa_nil))))))))) pa_nil)))) (s_nil pss_nil))))))) (s_seq (pss_cons (s_app (ps_expr (pe_bm PySem.F.plainAttrs_list PySem.F.slot_list_append PySem.F.type_list_append mt_append (pv 2) (pa_cons (x_tup (pe_tup (xa_cons (pa_cons (x_var (pv 4)) (xa_cons (pa_cons (c_EF (x_prim (pe_callTy call_tuple_of (by rfl) T.z_tuple bt_tuple (xr_cons (pa_cons (x_varB (pv 5)) (xr_nil pa_nil)))) p_tuple)) (xa_nil pa_nil))))))) pa_nil)))) (s_nil pss_nil))))))))) (s_seq (pss_cons (s_ret (ps_ret (x_prim (pe_callTy call_tuple_of (by rfl) T.z_tuple bt_tuple (xr_cons (pa_cons (x_varB (pv 2)) (xr_nil pa_nil)))) p_tuple))) (s_nil pss_nil)))))))))
theorem ok__law_sided_program (T : Top w K mg) {k : Nat} (ih : Oks P w base T k) : GOk P w K mg base CX0 (k + 1) T.a__law_sided_program T.d__law_sided_program ["_law_cells", "_law_spot"] (spD K W0 2 (sem (k + 1) f__law_sided_program)) := by
  rw [e__law_sided_program]
  refine g_fn (N := ["_law_cells", "_law_spot", "_law_n", "_law_ahead", "_law_modules", "_law_k", "_law_names_here", "_law_rooms", "_law_room", "_law_j", "_law_more", "_law_params", "_law_at", "_law_name", "_law_body", "_law_i"]) (ps := ["_law_cells", "_law_spot"]) (g := m__law_sided_program (sem k)) T.F__law_sided_program sc__law_sided_program (fun cdv A outer s H EX hr hq => ?_)
  have hc := hr
  exact (s_seq (pss_cons (s_set (ps_set (i := 2) sc__law_sided_program.nd rfl (by first | exact Or.inl rfl | exact Or.inr rfl) (c_FE (c_EF (x_call rfl (g_call ih.i__law_cell hc hq (by rfl) T.m__law_cell T.F__law_cell.kp T.b__law_cell pass0 (xa_cons (pa_cons (x_var (pv 0)) (xa_cons (pa_cons (x_var (pv 1)) (xa_nil pa_nil))))))))))) (s_seq (pss_cons (s_asg (ps_asg (x_tup (pe_tup (xa_cons (pa_cons (c_EF (x_call rfl (g_call ih.i__law_names hc hq (by rfl) T.m__law_names T.F__law_names.kp T.b__law_names pass0 (xa_cons (pa_cons (x_var (pv 2)) (xa_nil pa_nil)))))) (xa_cons (pa_cons (c_EF (x_call rfl (g_call ih.i__law_names hc hq (by rfl) T.m__law_names T.F__law_names.kp T.b__law_names pass0 (xa_cons (pa_cons (c_EF (x_op2 (pe_op op_fdivA (x_varB (pv 2)) (c_FB (x_c pe_int fun _ _ => .int _))) p_fdiv)) (xa_nil pa_nil)))))) (xa_nil pa_nil))))))) (x_gtup (is := [6, 7]) rfl (pg_tup rfl (pgs_cons (pg_name (i := 6) sc__law_sided_program.nd rfl (by first | exact Or.inl rfl | exact Or.inr rfl)) (pgs_cons (pg_name (i := 7) sc__law_sided_program.nd rfl (by first | exact Or.inl rfl | exact Or.inr rfl)) pgs_nil)))))) (s_seq (pss_cons (s_set (ps_set (i := 3) sc__law_sided_program.nd rfl (by first | exact Or.inl rfl | exact Or.inr rfl) (c_FE (c_EF (x_lst (pe_lst (xa_nil pa_nil))))))) (s_seq (pss_cons (s_set (ps_set (i := 4) sc__law_sided_program.nd rfl (by first | exact Or.inl rfl | exact Or.inr rfl) (x_lst (pe_lst (xa_nil pa_nil))))) (s_seq (pss_cons (s_for (ps_for PassesOwn.never rfl (x_rng1 (pi_range1 (by rfl) T.z_range (xr_cons (pa_cons (c_EB (x_op2 (pe_op op_modA (c_EB (x_op2 (pe_op op_fdivA (x_varB (pv 2)) (c_FB (x_c pe_int fun _ _ => .int _))) p_fdiv)) (c_FB (x_c pe_int fun _ _ => .int _))) p_mod)) (xr_nil pa_nil))))) (x_gname (pg_name (i := 5) sc__law_sided_program.nd rfl (by first | exact Or.inl rfl | exact Or.inr rfl))) (s_seq (pss_cons (s_set (ps_set (i := 8) sc__law_sided_program.nd rfl (by first | exact Or.inl rfl | exact Or.inr rfl) (x_lst (pe_lst (xa_nil pa_nil))))) (s_seq (pss_cons (s_for (ps_for PassesOwn.never rfl (x_rng1 (pi_range1 (by rfl) T.z_range (xr_cons (pa_cons (c_EB (x_op2 (pe_op op_modA (c_EB (x_op2 (pe_op op_fdivA (c_EB (x_call rfl (g_call ih.i__law_cell hc hq (by rfl) T.m__law_cell T.F__law_cell.kp T.b__law_cell pass0 (xa_cons (pa_cons (x_var (pv 0)) (xa_cons (pa_cons (x_var (pv 1)) (xa_nil pa_nil)))))))) (c_FB (x_c pe_int fun _ _ => .int _))) p_fdiv)) (c_FB (x_c pe_int fun _ _ => .int _))) p_mod)) (xr_nil pa_nil))))) (x_gname (pg_name (i := 9) sc__law_sided_program.nd rfl (by first | exact Or.inl rfl | exact Or.inr rfl))) (s_seq (pss_cons (s_set (ps_set (i := 10) sc__law_sided_program.nd rfl (by first | exact Or.inl rfl | exact Or.inr rfl) (c_FE (c_EF (x_call rfl (g_call ih.i__law_cell hc hq (by rfl) T.m__law_cell T.F__law_cell.kp T.b__law_cell pass0 (xa_cons (pa_cons (x_var (pv 0)) (xa_cons (pa_cons (x_var (pv 1)) (xa_nil pa_nil))))))))))) (s_seq (pss_cons (s_setLc (by decide) (ps_setLc (i := 11) (own := [("_law_i", 15)]) rfl sc__law_sided_program.nd rfl rfl (sw_true rfl rfl rfl (by decide +kernel)) (x_rng1 (pi_range1 (by rfl) T.z_range (xr_cons (pa_cons (c_EB (x_op2 (pe_op op_modA (c_EB (x_op2 (pe_op op_fdivA (x_varB (pv 10)) (c_FB (x_c pe_int fun _ _ => .int _))) p_fdiv)) (c_FB (x_c pe_int fun _ _ => .int _))) p_mod)) (xr_nil pa_nil))))) (blkOk_by (N := ["_law_cells", "_law_spot", "_law_n", "_law_ahead", "_law_modules", "_law_k", "_law_names_here", "_law_rooms", "_law_room", "_law_j", "_law_more", "_law_params", "_law_at", "_law_name", "_law_body", "_law_i"]) (sc := defScope s__law_sided_program) (by decide +kernel)) (fun _ _ _ _ _ => (x_gname (pg_name (i := 15) sc__law_sided_program.nd rfl (by first | exact Or.inl rfl | exact Or.inr rfl)))) (fun _ _ _ _ _ => x_yes) (fun _ _ _ _ _ => (c_EF (x_ix (pe_ix ix_seq (x_varB (pv 6)) (c_EB (x_op2 (pe_op op_modA (c_EB (x_op2 (pe_op op_addA (x_varB (pv 10)) (c_EB (x_op2 (pe_op op_mulA (c_FB (x_c pe_int fun _ _ => .int _)) (x_varB (pv 15))) p_mul))) p_add)) (c_FB (x_c pe_int fun _ _ => .int _))) p_mod)) (fun _ _ => rfl))))))) (s_seq (pss_cons (s_set (ps_set (i := 12) sc__law_sided_program.nd rfl (by first | exact Or.inl rfl | exact Or.inr rfl) (c_FE (x_disp (ks := ["names", "ahead", "quiet"]) (fs := [(dVar 6), (dVar 3), (dC (.bl false))]) rfl (pe_disp (pps_cons pe_str (x_var (pv 6)) (pps_cons pe_str (x_var (pv 3)) (pps_cons pe_str (x_c pe_bl fun _ _ => .bl _) pps_nil))) rfl rfl (by simp) (by decide)))))) (s_seq (pss_cons (s_if (ps_if (x_test2 (pt_cmpR (op_eqW (un_of hr)) (c_EB (x_op2 (pe_op op_modA (c_EB (x_op2 (pe_op op_fdivA (x_varB (pv 10)) (c_FB (x_c pe_int fun _ _ => .int _))) p_fdiv)) (c_FB (x_c pe_int fun _ _ => .int _))) p_mod)) (c_FB (x_c pe_int fun _ _ => .int _)) rfl) p_eq) (s_seq (pss_cons (s_fz (s_set (ps_set (i := 14) sc__law_sided_program.nd rfl (by first | exact Or.inl rfl | exact Or.inr rfl) (c_FE (c_EF (x_call rfl (g_call ih.i__law_chain hc hq (by rfl) T.m__law_chain T.F__law_chain.kp T.b__law_chain pass0 (xa_cons (pa_cons (x_var (pv 0)) (xa_cons (pa_cons (x_var (pv 1)) (xa_cons (pa_cons (x_var (pv 12)) (xa_cons (pa_cons (x_var (pv 11)) (xa_cons (pa_cons (c_EF (x_op2 (pe_op op_addA (c_FB (x_c pe_int fun _ _ => .int _)) (c_EB (x_op2 (pe_op op_modA (c_EB (x_op2 (pe_op op_fdivA (x_varB (pv 10)) (c_FB (x_c pe_int fun _ _ => .int _))) p_fdiv)) (c_FB (x_c pe_int fun _ _ => .int _))) p_mod))) p_add)) (xa_nil pa_nil)))))))))))))))))) (s_nil pss_nil))) (s_seq (pss_cons (s_fz (s_set (ps_set (i := 14) sc__law_sided_program.nd rfl (by first | exact Or.inl rfl | exact Or.inr rfl) (c_FE (c_EF (x_call rfl (g_call ih.i__law_sided hc hq (by rfl) T.m__law_sided T.F__law_sided.kp T.b__law_sided pass0 (xa_cons (pa_cons (x_var (pv 0)) (xa_cons (pa_cons (x_var (pv 1)) (xa_cons (pa_cons (x_var (pv 12)) (xa_cons (pa_cons (x_var (pv 11)) (xa_cons (pa_cons (c_EF (x_prim (pe_callB (call_min2 rfl) (by rfl) T.z_min bt_min (xr_cons (pa_cons (c_FB (x_c pe_int fun _ _ => .int _)) (xr_cons (pa_cons (c_EB (x_op2 (pe_op op_modA (c_EB (x_op2 (pe_op op_fdivA (x_varB (pv 10)) (c_FB (x_c pe_int fun _ _ => .int _))) p_fdiv)) (c_FB (x_c pe_int fun _ _ => .int _))) p_mod)) (xr_nil pa_nil)))))) p_min2)) (xa_nil pa_nil)))))))))))))))))) (s_nil pss_nil))))) (s_seq (pss_cons (s_set (ps_set (i := 13) sc__law_sided_program.nd rfl (by first | exact Or.inl rfl | exact Or.inr rfl) (c_FE (c_EF (x_ix (pe_ix ix_seq (x_varB (pv 7)) (c_EB (x_op2 (pe_op op_modA (c_EB (x_op2 (pe_op op_addA (c_EB (x_op2 (pe_op op_addA (c_EB (x_op2 (pe_op op_modA (c_EB (x_op2 (pe_op op_fdivA (x_varB (pv 10)) (c_FB (x_c pe_int fun _ _ => .int _))) p_fdiv)) (c_FB (x_c pe_int fun _ _ => .int _))) p_mod)) (c_FB (x_c pe_int fun _ _ => .int _))) p_add)) (c_EB (x_op2 (pe_op op_mulA (c_FB (x_c pe_int fun _ _ => .int _)) (x_varB (pv 9))) p_mul))) p_add)) (c_FB (x_c pe_int fun _ _ => .int _))) p_mod)) (fun _ _ => rfl))))))) (s_seq (pss_cons (s_app (ps_expr (pe_bm PySem.F.plainAttrs_list PySem.F.slot_list_append PySem.F.type_list_append mt_append (pv 8) (pa_cons (x_tup (pe_tup (xa_cons (pa_cons (x_var (pv 13)) (xa_cons (pa_cons (c_EF (x_prim (pe_callTy call_tuple_of (by rfl) T.z_tuple bt_tuple (xr_cons (pa_cons (x_varB (pv 11)) (xr_nil pa_nil)))) p_tuple)) (xa_cons (pa_cons (x_var (pv 14)) (xa_nil pa_nil))))))))) pa_nil)))) (s_seq (pss_cons (s_set (ps_set (i := 3) sc__law_sided_program.nd rfl (by first | exact Or.inl rfl | exact Or.inr rfl) (c_FE (c_EF (x_op2 (pe_op op_addA (x_varB (pv 3)) (c_EB (x_lst (pe_lst (xa_cons (pa_cons (x_tup (pe_tup (xa_cons (pa_cons (c_EF (x_ix (pe_ix ix_seq (x_varB (pv 7)) (x_varB (pv 5)) (fun _ _ => rfl)))) (xa_cons (pa_cons (x_var (pv 13)) (xa_cons (pa_cons (c_EF (x_prim (pe_callB call_lenA (by rfl) T.z_len bt_len (xr_cons (pa_cons (x_varB (pv 11)) (xr_nil pa_nil)))) p_len)) (xa_cons (pa_cons (x_c pe_bl fun _ _ => .bl _) (xa_nil pa_nil))))))))))) (xa_nil pa_nil))))))) p_add))))) (s_nil pss_nil))))))))))))))))) (s_seq (pss_cons (s_app (ps_expr (pe_bm PySem.F.plainAttrs_list PySem.F.slot_list_append PySem.F.type_list_append mt_append (pv 4) (pa_cons (x_tup (pe_tup (xa_cons (pa_cons (c_EF (x_ix (pe_ix ix_seq (x_varB (pv 7)) (x_varB (pv 5)) (fun _ _ => rfl)))) (xa_cons (pa_cons (c_EF (x_prim (pe_callTy call_tuple_of (by rfl) T.z_tuple bt_tuple (xr_cons (pa_cons (x_varB (pv 8)) (xr_nil pa_nil)))) p_tuple)) (xa_nil pa_nil))))))) pa_nil)))) (s_nil pss_nil))))))))) (s_seq (pss_cons (s_ret (ps_ret (x_prim (pe_callTy call_tuple_of (by rfl) T.z_tuple bt_tuple (xr_cons (pa_cons (x_varB (pv 4)) (xr_nil pa_nil)))) p_tuple))) (s_nil pss_nil)))))))))))))
theorem ok_law (T : Top w K mg) {k : Nat} (ih : Oks P w base T k) : GOk P w K mg base CX0 (k + 1) T.a_law T.d_law ["_law_script"] (spD K W0 1 (sem (k + 1) f_law)) := by
  rw [e_law]
  refine g_fn (N := ["_law_script", "_law_spot", "_law_k", "_law_program", "_law_turn", "_law_m", "_law_room", "_law_f", "_law_params", "_law_body"]) (ps := ["_law_script"]) (g := m_law (sem k)) T.F_law sc_law (fun cdv A outer s H EX hr hq => ?_)
  have hc := hr
  exact (s_seq (pss_cons (s_set (ps_set (i := 1) sc_law.nd rfl (by first | exact Or.inl rfl | exact Or.inr rfl) (c_FE (c_EF (x_ref (x_lst (pe_lst (xa_cons (pa_cons (x_c pe_int fun _ _ => .int _) (xa_nil pa_nil)))))))))) (s_seq (pss_cons (s_for (ps_for PassesOwn.never rfl (x_rng1 (pi_range1 (by rfl) T.z_range (xr_cons (pa_cons (c_EB (x_op2 (pe_op op_addA (c_FB (x_c pe_int fun _ _ => .int _)) (c_EB (x_prim (pe_callB (call_min2 rfl) (by rfl) T.z_min bt_min (xr_cons (pa_cons (c_FB (x_c pe_int fun _ _ => .int _)) (xr_cons (pa_cons (c_EB (x_prim (pe_callB call_lenA (by rfl) T.z_len bt_len (xr_cons (pa_cons (x_varB (pv 0)) (xr_nil pa_nil)))) p_len)) (xr_nil pa_nil)))))) p_min2))) p_add)) (xr_nil pa_nil))))) (x_gname (pg_name (i := 2) sc_law.nd rfl (by first | exact Or.inl rfl | exact Or.inr rfl))) (s_seq (pss_cons (s_set (ps_set (i := 3) sc_law.nd rfl (by first | exact Or.inl rfl | exact Or.inr rfl) (c_FE (c_EF (x_if (pe_ifExp (x_test2 (pt_cmpR op_gt (x_varB (pv 2)) (c_FB (x_c pe_int fun _ _ => .int _)) rfl) (p_cmp fun i j => decide (j < i))) (x_call rfl (g_call ih.i__law_sided_program hc hq (by rfl) T.m__law_sided_program T.F__law_sided_program.kp T.b__law_sided_program pass0 (xa_cons (pa_cons (x_var (pv 0)) (xa_cons (pa_cons (x_var (pv 1)) (xa_nil pa_nil))))))) (x_call rfl (g_call ih.i__law_full hc hq (by rfl) T.m__law_full T.F__law_full.kp T.b__law_full pass0 (xa_cons (pa_cons (c_EF (x_call rfl (g_call ih.i__law_cell hc hq (by rfl) T.m__law_cell T.F__law_cell.kp T.b__law_cell pass0 (xa_cons (pa_cons (x_var (pv 0)) (xa_cons (pa_cons (x_var (pv 1)) (xa_nil pa_nil)))))))) (xa_nil pa_nil))))))))))) (s_seq (pss_cons (s_for (ps_for PassesOwn.never rfl (x_rng1 (pi_range1 (by rfl) T.z_range (xr_cons (pa_cons (c_FB (x_c pe_int fun _ _ => .int _)) (xr_nil pa_nil))))) (x_gname (pg_name (i := 4) sc_law.nd rfl (by first | exact Or.inl rfl | exact Or.inr rfl))) (s_seq (pss_cons (s_if (ps_if (x_test2 (pt_cmpR (op_neW (un_of hr)) (c_EB (x_call rfl (g_call ih.i_text_of hc hq (by rfl) T.m_text_of T.F_text_of.kp T.b_text_of pass0 (xa_cons (pa_cons (x_var (pv 3)) (xa_nil pa_nil)))))) (c_EB (x_call rfl (g_call ih.i__law_program_text hc hq (by rfl) T.m__law_program_text T.F__law_program_text.kp T.b__law_program_text pass0 (xa_cons (pa_cons (x_var (pv 3)) (xa_cons (pa_cons (c_EF (x_lst (pe_lst (xa_nil pa_nil)))) (xa_nil pa_nil)))))))) rfl) p_ne) (s_seq (pss_cons (s_ret (ps_ret (c_FE (x_c pe_bl fun _ _ => .bl _)))) (s_nil pss_nil))) (s_nil pss_nil))) (s_nil pss_nil))))) (s_seq (pss_cons (s_for (ps_for PassesOwn.never rfl (x_it (PI.or (pi_list (x_var (pv 3))) (PI.or (pi_tup (x_var (pv 3))) (pi_str (x_var (pv 3)))))) (x_gtup (is := [5, 6]) rfl (pg_tup rfl (pgs_cons (pg_name (i := 5) sc_law.nd rfl (by first | exact Or.inl rfl | exact Or.inr rfl)) (pgs_cons (pg_name (i := 6) sc_law.nd rfl (by first | exact Or.inl rfl | exact Or.inr rfl)) pgs_nil)))) (s_seq (pss_cons (s_for (ps_for PassesOwn.never rfl (x_it (PI.or (pi_list (x_var (pv 6))) (PI.or (pi_tup (x_var (pv 6))) (pi_str (x_var (pv 6)))))) (x_gtup (is := [7, 8, 9]) rfl (pg_tup rfl (pgs_cons (pg_name (i := 7) sc_law.nd rfl (by first | exact Or.inl rfl | exact Or.inr rfl)) (pgs_cons (pg_name (i := 8) sc_law.nd rfl (by first | exact Or.inl rfl | exact Or.inr rfl)) (pgs_cons (pg_name (i := 9) sc_law.nd rfl (by first | exact Or.inl rfl | exact Or.inr rfl)) pgs_nil))))) (s_seq (pss_cons (s_if (ps_if (x_test2 (pt_cmpR (op_neW (un_of hr)) (c_EB (x_call rfl (g_call ih.i_expression_text hc hq (by rfl) T.m_expression_text T.F_expression_text.kp T.b_expression_text pass0 (xa_cons (pa_cons (x_var (pv 5)) (xa_cons (pa_cons (x_var (pv 9)) (xa_nil pa_nil)))))))) (c_EB (x_call rfl (g_call ih.i__law_text hc hq (by rfl) T.m__law_text T.F__law_text.kp T.b__law_text pass0 (xa_cons (pa_cons (x_var (pv 5)) (xa_cons (pa_cons (x_var (pv 9)) (xa_cons (pa_cons (c_EF (x_lst (pe_lst (xa_nil pa_nil)))) (xa_nil pa_nil)))))))))) rfl) p_ne) (s_seq (pss_cons (s_ret (ps_ret (c_FE (x_c pe_bl fun _ _ => .bl _)))) (s_nil pss_nil))) (s_nil pss_nil))) (s_nil pss_nil))))) (s_nil pss_nil))))) (s_nil pss_nil))))))))) (s_seq (pss_cons (s_ret (ps_ret (x_op2 (pe_cmpR (op_eqW (un_of hr)) (c_EB (x_call rfl (g_call ih.i_text_of hc hq (by rfl) T.m_text_of T.F_text_of.kp T.b_text_of pass0 (xa_cons (pa_cons (x_tup (pe_tup (xa_nil pa_nil))) (xa_nil pa_nil)))))) (c_FB (x_c pe_str fun _ _ => .str _)) rfl) p_eq))) (s_nil pss_nil)))))))
theorem oks (T : Top w K mg) : ∀ k, Oks P w base T k
  | 0 => ⟨g_zero, g_zero, g_zero, g_zero, g_zero, g_zero, g_zero, g_zero, g_zero, g_zero, g_zero, g_zero, g_zero, g_zero, g_zero, g_zero, g_zero, g_zero, g_zero, g_zero, g_zero, g_zero, g_zero, g_zero⟩
  | k + 1 => have ih := oks T k; ⟨ok_level_of T ih, ok_side_text T ih, ok_call_text T ih, ok_sign_text T ih, ok_expression_text T ih, ok_text_of T ih, ok__law_cell T ih, ok__law_names T ih, ok__law_number T ih, ok__law_leaf T ih, ok__law_op T ih, ok__law_times T ih, ok__law_call T ih, ok__law_expression T ih, ok__law_level T ih, ok__law_side T ih, ok__law_free_text T ih, ok__law_text T ih, ok__law_program_text T ih, ok__law_sided T ih, ok__law_chain T ih, ok__law_full T ih, ok__law_sided_program T ih, ok_law T ih⟩
end
noncomputable def top_mk {w : World} {K : PySem.W.Frag} {h : Heap} {mg : Str → Option Value} (X : K.In h) (G : h.Ns mainGlobals mg) {f0 : Addr} {od0 an0 : Option Addr} {sl0 : Array (Option Value)} {oc0 kV0 dc0 pm0 cd0 ct0 : Value} {f1 : Addr} {od1 an1 : Option Addr} {sl1 : Array (Option Value)} {oc1 kV1 dc1 pm1 cd1 ct1 : Value} {f2 : Addr} {od2 an2 : Option Addr} {sl2 : Array (Option Value)} {oc2 kV2 dc2 pm2 cd2 ct2 : Value} {f3 : Addr} {od3 an3 : Option Addr} {sl3 : Array (Option Value)} {oc3 kV3 dc3 pm3 cd3 ct3 : Value} {f4 : Addr} {od4 an4 : Option Addr} {sl4 : Array (Option Value)} {oc4 kV4 dc4 pm4 cd4 ct4 : Value} {f5 : Addr} {od5 an5 : Option Addr} {sl5 : Array (Option Value)} {oc5 kV5 dc5 pm5 cd5 ct5 : Value} {f6 : Addr} {od6 an6 : Option Addr} {sl6 : Array (Option Value)} {oc6 kV6 dc6 pm6 cd6 ct6 : Value} {f7 : Addr} {od7 an7 : Option Addr} {sl7 : Array (Option Value)} {oc7 kV7 dc7 pm7 cd7 ct7 : Value} {f8 : Addr} {od8 an8 : Option Addr} {sl8 : Array (Option Value)} {oc8 kV8 dc8 pm8 cd8 ct8 : Value} {f9 : Addr} {od9 an9 : Option Addr} {sl9 : Array (Option Value)} {oc9 kV9 dc9 pm9 cd9 ct9 : Value} {f10 : Addr} {od10 an10 : Option Addr} {sl10 : Array (Option Value)} {oc10 kV10 dc10 pm10 cd10 ct10 : Value} {f11 : Addr} {od11 an11 : Option Addr} {sl11 : Array (Option Value)} {oc11 kV11 dc11 pm11 cd11 ct11 : Value} {f12 : Addr} {od12 an12 : Option Addr} {sl12 : Array (Option Value)} {oc12 kV12 dc12 pm12 cd12 ct12 : Value} {f13 : Addr} {od13 an13 : Option Addr} {sl13 : Array (Option Value)} {oc13 kV13 dc13 pm13 cd13 ct13 : Value} {f14 : Addr} {od14 an14 : Option Addr} {sl14 : Array (Option Value)} {oc14 kV14 dc14 pm14 cd14 ct14 : Value} {f15 : Addr} {od15 an15 : Option Addr} {sl15 : Array (Option Value)} {oc15 kV15 dc15 pm15 cd15 ct15 : Value} {f16 : Addr} {od16 an16 : Option Addr} {sl16 : Array (Option Value)} {oc16 kV16 dc16 pm16 cd16 ct16 : Value} {f17 : Addr} {od17 an17 : Option Addr} {sl17 : Array (Option Value)} {oc17 kV17 dc17 pm17 cd17 ct17 : Value} {f18 : Addr} {od18 an18 : Option Addr} {sl18 : Array (Option Value)} {oc18 kV18 dc18 pm18 cd18 ct18 : Value} {f19 : Addr} {od19 an19 : Option Addr} {sl19 : Array (Option Value)} {oc19 kV19 dc19 pm19 cd19 ct19 : Value} {f20 : Addr} {od20 an20 : Option Addr} {sl20 : Array (Option Value)} {oc20 kV20 dc20 pm20 cd20 ct20 : Value} {f21 : Addr} {od21 an21 : Option Addr} {sl21 : Array (Option Value)} {oc21 kV21 dc21 pm21 cd21 ct21 : Value} {f22 : Addr} {od22 an22 : Option Addr} {sl22 : Array (Option Value)} {oc22 kV22 dc22 pm22 cd22 ct22 : Value} {f23 : Addr} {od23 an23 : Option Addr} {sl23 : Array (Option Value)} {oc23 kV23 dc23 pm23 cd23 ct23 : Value} {q_LEVELS : Addr} {es_LEVELS : Array DictEntry} {n_LEVELS : Nat} {t_LEAST : Tok} {q_FREE : Addr} {o_FREE : Obj} {t_HIGHEST : Tok} (a0 : PySem.W.nsIn K mainGlobals "level_of" = some (some (.ref f0))) (l0 : K.lookup f0 = some ⟨oc0, od0, .func (PySem.W.fnOf "level_of" "level_of" (defArgs s_level_of) (defBody s_level_of) (defScope s_level_of) .none kV0 dc0 pm0 an0 cd0 ct0), sl0⟩) (c0 : PySem.W.codeIn K cd0 "level_of" = true) (k0 : PySem.W.keepIn K (.ref f0) = true) (a1 : PySem.W.nsIn K mainGlobals "side_text" = some (some (.ref f1))) (l1 : K.lookup f1 = some ⟨oc1, od1, .func (PySem.W.fnOf "side_text" "side_text" (defArgs s_side_text) (defBody s_side_text) (defScope s_side_text) .none kV1 dc1 pm1 an1 cd1 ct1), sl1⟩) (c1 : PySem.W.codeIn K cd1 "side_text" = true) (k1 : PySem.W.keepIn K (.ref f1) = true) (a2 : PySem.W.nsIn K mainGlobals "call_text" = some (some (.ref f2))) (l2 : K.lookup f2 = some ⟨oc2, od2, .func (PySem.W.fnOf "call_text" "call_text" (defArgs s_call_text) (defBody s_call_text) (defScope s_call_text) .none kV2 dc2 pm2 an2 cd2 ct2), sl2⟩) (c2 : PySem.W.codeIn K cd2 "call_text" = true) (k2 : PySem.W.keepIn K (.ref f2) = true) (a3 : PySem.W.nsIn K mainGlobals "sign_text" = some (some (.ref f3))) (l3 : K.lookup f3 = some ⟨oc3, od3, .func (PySem.W.fnOf "sign_text" "sign_text" (defArgs s_sign_text) (defBody s_sign_text) (defScope s_sign_text) .none kV3 dc3 pm3 an3 cd3 ct3), sl3⟩) (c3 : PySem.W.codeIn K cd3 "sign_text" = true) (k3 : PySem.W.keepIn K (.ref f3) = true) (a4 : PySem.W.nsIn K mainGlobals "expression_text" = some (some (.ref f4))) (l4 : K.lookup f4 = some ⟨oc4, od4, .func (PySem.W.fnOf "expression_text" "expression_text" (defArgs s_expression_text) (defBody s_expression_text) (defScope s_expression_text) .none kV4 dc4 pm4 an4 cd4 ct4), sl4⟩) (c4 : PySem.W.codeIn K cd4 "expression_text" = true) (k4 : PySem.W.keepIn K (.ref f4) = true) (a5 : PySem.W.nsIn K mainGlobals "text_of" = some (some (.ref f5))) (l5 : K.lookup f5 = some ⟨oc5, od5, .func (PySem.W.fnOf "text_of" "text_of" (defArgs s_text_of) (defBody s_text_of) (defScope s_text_of) .none kV5 dc5 pm5 an5 cd5 ct5), sl5⟩) (c5 : PySem.W.codeIn K cd5 "text_of" = true) (k5 : PySem.W.keepIn K (.ref f5) = true) (a6 : PySem.W.nsIn K mainGlobals "_law_cell" = some (some (.ref f6))) (l6 : K.lookup f6 = some ⟨oc6, od6, .func (PySem.W.fnOf "_law_cell" "_law_cell" (defArgs s__law_cell) (defBody s__law_cell) (defScope s__law_cell) .none kV6 dc6 pm6 an6 cd6 ct6), sl6⟩) (c6 : PySem.W.codeIn K cd6 "_law_cell" = true) (k6 : PySem.W.keepIn K (.ref f6) = true) (a7 : PySem.W.nsIn K mainGlobals "_law_names" = some (some (.ref f7))) (l7 : K.lookup f7 = some ⟨oc7, od7, .func (PySem.W.fnOf "_law_names" "_law_names" (defArgs s__law_names) (defBody s__law_names) (defScope s__law_names) .none kV7 dc7 pm7 an7 cd7 ct7), sl7⟩) (c7 : PySem.W.codeIn K cd7 "_law_names" = true) (k7 : PySem.W.keepIn K (.ref f7) = true) (a8 : PySem.W.nsIn K mainGlobals "_law_number" = some (some (.ref f8))) (l8 : K.lookup f8 = some ⟨oc8, od8, .func (PySem.W.fnOf "_law_number" "_law_number" (defArgs s__law_number) (defBody s__law_number) (defScope s__law_number) .none kV8 dc8 pm8 an8 cd8 ct8), sl8⟩) (c8 : PySem.W.codeIn K cd8 "_law_number" = true) (k8 : PySem.W.keepIn K (.ref f8) = true) (a9 : PySem.W.nsIn K mainGlobals "_law_leaf" = some (some (.ref f9))) (l9 : K.lookup f9 = some ⟨oc9, od9, .func (PySem.W.fnOf "_law_leaf" "_law_leaf" (defArgs s__law_leaf) (defBody s__law_leaf) (defScope s__law_leaf) .none kV9 dc9 pm9 an9 cd9 ct9), sl9⟩) (c9 : PySem.W.codeIn K cd9 "_law_leaf" = true) (k9 : PySem.W.keepIn K (.ref f9) = true) (a10 : PySem.W.nsIn K mainGlobals "_law_op" = some (some (.ref f10))) (l10 : K.lookup f10 = some ⟨oc10, od10, .func (PySem.W.fnOf "_law_op" "_law_op" (defArgs s__law_op) (defBody s__law_op) (defScope s__law_op) .none kV10 dc10 pm10 an10 cd10 ct10), sl10⟩) (c10 : PySem.W.codeIn K cd10 "_law_op" = true) (k10 : PySem.W.keepIn K (.ref f10) = true) (a11 : PySem.W.nsIn K mainGlobals "_law_times" = some (some (.ref f11))) (l11 : K.lookup f11 = some ⟨oc11, od11, .func (PySem.W.fnOf "_law_times" "_law_times" (defArgs s__law_times) (defBody s__law_times) (defScope s__law_times) .none kV11 dc11 pm11 an11 cd11 ct11), sl11⟩) (c11 : PySem.W.codeIn K cd11 "_law_times" = true) (k11 : PySem.W.keepIn K (.ref f11) = true) (a12 : PySem.W.nsIn K mainGlobals "_law_call" = some (some (.ref f12))) (l12 : K.lookup f12 = some ⟨oc12, od12, .func (PySem.W.fnOf "_law_call" "_law_call" (defArgs s__law_call) (defBody s__law_call) (defScope s__law_call) .none kV12 dc12 pm12 an12 cd12 ct12), sl12⟩) (c12 : PySem.W.codeIn K cd12 "_law_call" = true) (k12 : PySem.W.keepIn K (.ref f12) = true) (a13 : PySem.W.nsIn K mainGlobals "_law_expression" = some (some (.ref f13))) (l13 : K.lookup f13 = some ⟨oc13, od13, .func (PySem.W.fnOf "_law_expression" "_law_expression" (defArgs s__law_expression) (defBody s__law_expression) (defScope s__law_expression) .none kV13 dc13 pm13 an13 cd13 ct13), sl13⟩) (c13 : PySem.W.codeIn K cd13 "_law_expression" = true) (k13 : PySem.W.keepIn K (.ref f13) = true) (a14 : PySem.W.nsIn K mainGlobals "_law_level" = some (some (.ref f14))) (l14 : K.lookup f14 = some ⟨oc14, od14, .func (PySem.W.fnOf "_law_level" "_law_level" (defArgs s__law_level) (defBody s__law_level) (defScope s__law_level) .none kV14 dc14 pm14 an14 cd14 ct14), sl14⟩) (c14 : PySem.W.codeIn K cd14 "_law_level" = true) (k14 : PySem.W.keepIn K (.ref f14) = true) (a15 : PySem.W.nsIn K mainGlobals "_law_side" = some (some (.ref f15))) (l15 : K.lookup f15 = some ⟨oc15, od15, .func (PySem.W.fnOf "_law_side" "_law_side" (defArgs s__law_side) (defBody s__law_side) (defScope s__law_side) .none kV15 dc15 pm15 an15 cd15 ct15), sl15⟩) (c15 : PySem.W.codeIn K cd15 "_law_side" = true) (k15 : PySem.W.keepIn K (.ref f15) = true) (a16 : PySem.W.nsIn K mainGlobals "_law_free_text" = some (some (.ref f16))) (l16 : K.lookup f16 = some ⟨oc16, od16, .func (PySem.W.fnOf "_law_free_text" "_law_free_text" (defArgs s__law_free_text) (defBody s__law_free_text) (defScope s__law_free_text) .none kV16 dc16 pm16 an16 cd16 ct16), sl16⟩) (c16 : PySem.W.codeIn K cd16 "_law_free_text" = true) (k16 : PySem.W.keepIn K (.ref f16) = true) (a17 : PySem.W.nsIn K mainGlobals "_law_text" = some (some (.ref f17))) (l17 : K.lookup f17 = some ⟨oc17, od17, .func (PySem.W.fnOf "_law_text" "_law_text" (defArgs s__law_text) (defBody s__law_text) (defScope s__law_text) .none kV17 dc17 pm17 an17 cd17 ct17), sl17⟩) (c17 : PySem.W.codeIn K cd17 "_law_text" = true) (k17 : PySem.W.keepIn K (.ref f17) = true) (a18 : PySem.W.nsIn K mainGlobals "_law_program_text" = some (some (.ref f18))) (l18 : K.lookup f18 = some ⟨oc18, od18, .func (PySem.W.fnOf "_law_program_text" "_law_program_text" (defArgs s__law_program_text) (defBody s__law_program_text) (defScope s__law_program_text) .none kV18 dc18 pm18 an18 cd18 ct18), sl18⟩) (c18 : PySem.W.codeIn K cd18 "_law_program_text" = true) (k18 : PySem.W.keepIn K (.ref f18) = true) (a19 : PySem.W.nsIn K mainGlobals "_law_sided" = some (some (.ref f19))) (l19 : K.lookup f19 = some ⟨oc19, od19, .func (PySem.W.fnOf "_law_sided" "_law_sided" (defArgs s__law_sided) (defBody s__law_sided) (defScope s__law_sided) .none kV19 dc19 pm19 an19 cd19 ct19), sl19⟩) (c19 : PySem.W.codeIn K cd19 "_law_sided" = true) (k19 : PySem.W.keepIn K (.ref f19) = true) (a20 : PySem.W.nsIn K mainGlobals "_law_chain" = some (some (.ref f20))) (l20 : K.lookup f20 = some ⟨oc20, od20, .func (PySem.W.fnOf "_law_chain" "_law_chain" (defArgs s__law_chain) (defBody s__law_chain) (defScope s__law_chain) .none kV20 dc20 pm20 an20 cd20 ct20), sl20⟩) (c20 : PySem.W.codeIn K cd20 "_law_chain" = true) (k20 : PySem.W.keepIn K (.ref f20) = true) (a21 : PySem.W.nsIn K mainGlobals "_law_full" = some (some (.ref f21))) (l21 : K.lookup f21 = some ⟨oc21, od21, .func (PySem.W.fnOf "_law_full" "_law_full" (defArgs s__law_full) (defBody s__law_full) (defScope s__law_full) .none kV21 dc21 pm21 an21 cd21 ct21), sl21⟩) (c21 : PySem.W.codeIn K cd21 "_law_full" = true) (k21 : PySem.W.keepIn K (.ref f21) = true) (a22 : PySem.W.nsIn K mainGlobals "_law_sided_program" = some (some (.ref f22))) (l22 : K.lookup f22 = some ⟨oc22, od22, .func (PySem.W.fnOf "_law_sided_program" "_law_sided_program" (defArgs s__law_sided_program) (defBody s__law_sided_program) (defScope s__law_sided_program) .none kV22 dc22 pm22 an22 cd22 ct22), sl22⟩) (c22 : PySem.W.codeIn K cd22 "_law_sided_program" = true) (k22 : PySem.W.keepIn K (.ref f22) = true) (a23 : PySem.W.nsIn K mainGlobals "law" = some (some (.ref f23))) (l23 : K.lookup f23 = some ⟨oc23, od23, .func (PySem.W.fnOf "law" "law" (defArgs s_law) (defBody s_law) (defScope s_law) .none kV23 dc23 pm23 an23 cd23 ct23), sl23⟩) (c23 : PySem.W.codeIn K cd23 "law" = true) (k23 : PySem.W.keepIn K (.ref f23) = true) (z_int : PySem.W.nsIn K mainGlobals "int" = some none) (z_str : PySem.W.nsIn K mainGlobals "str" = some none) (z_len : PySem.W.nsIn K mainGlobals "len" = some none) (z_range : PySem.W.nsIn K mainGlobals "range" = some none) (z_tuple : PySem.W.nsIn K mainGlobals "tuple" = some none) (z_isinstance : PySem.W.nsIn K mainGlobals "isinstance" = some none) (z_zip : PySem.W.nsIn K mainGlobals "zip" = some none) (z_enumerate : PySem.W.nsIn K mainGlobals "enumerate" = some none) (z_min : PySem.W.nsIn K mainGlobals "min" = some none) (g_LEVELS : PySem.W.nsIn K mainGlobals "LEVELS" = some (some (.ref q_LEVELS))) (u_LEVELS : K.lookup q_LEVELS = some ⟨.type "dict", none, .dict es_LEVELS n_LEVELS, #[]⟩) (v_LEVELS : tabIs K q_LEVELS k_LEVELS = true) (y_LEVELS : PySem.W.KeysLit w.params es_LEVELS.toList) (g_LEAST : PySem.W.nsIn K mainGlobals "LEAST" = some (some (.int 1 t_LEAST))) (g_FREE : PySem.W.nsIn K mainGlobals "FREE" = some (some (.ref q_FREE))) (u_FREE : K.lookup q_FREE = some o_FREE) (v_FREE : tupIs K 9 o_FREE k_FREE = true) (g_HIGHEST : PySem.W.nsIn K mainGlobals "HIGHEST" = some (some (.int 4 t_HIGHEST))) : Top w K mg where
  a_level_of := f0
  d_level_of := PySem.W.fnOf "level_of" "level_of" (defArgs s_level_of) (defBody s_level_of) (defScope s_level_of) .none kV0 dc0 pm0 an0 cd0 ct0
  F_level_of := fun_mk (st := s_level_of) l0 c0 k0
  b_level_of := (fun_mk (st := s_level_of) l0 c0 k0).binds (ps := ["expression"]) fun _ _ _ _ _ _ us hl => match us, hl with | [_], _ => rfl
  m_level_of := PySem.W.mg_of X G a0
  a_side_text := f1
  d_side_text := PySem.W.fnOf "side_text" "side_text" (defArgs s_side_text) (defBody s_side_text) (defScope s_side_text) .none kV1 dc1 pm1 an1 cd1 ct1
  F_side_text := fun_mk (st := s_side_text) l1 c1 k1
  b_side_text := (fun_mk (st := s_side_text) l1 c1 k1).binds (ps := ["m", "expression", "level"]) fun _ _ _ _ _ _ us hl => match us, hl with | [_, _, _], _ => rfl
  m_side_text := PySem.W.mg_of X G a1
  a_call_text := f2
  d_call_text := PySem.W.fnOf "call_text" "call_text" (defArgs s_call_text) (defBody s_call_text) (defScope s_call_text) .none kV2 dc2 pm2 an2 cd2 ct2
  F_call_text := fun_mk (st := s_call_text) l2 c2 k2
  b_call_text := (fun_mk (st := s_call_text) l2 c2 k2).binds (ps := ["m", "expression"]) fun _ _ _ _ _ _ us hl => match us, hl with | [_, _], _ => rfl
  m_call_text := PySem.W.mg_of X G a2
  a_sign_text := f3
  d_sign_text := PySem.W.fnOf "sign_text" "sign_text" (defArgs s_sign_text) (defBody s_sign_text) (defScope s_sign_text) .none kV3 dc3 pm3 an3 cd3 ct3
  F_sign_text := fun_mk (st := s_sign_text) l3 c3 k3
  b_sign_text := (fun_mk (st := s_sign_text) l3 c3 k3).binds (ps := ["m", "expression"]) fun _ _ _ _ _ _ us hl => match us, hl with | [_, _], _ => rfl
  m_sign_text := PySem.W.mg_of X G a3
  a_expression_text := f4
  d_expression_text := PySem.W.fnOf "expression_text" "expression_text" (defArgs s_expression_text) (defBody s_expression_text) (defScope s_expression_text) .none kV4 dc4 pm4 an4 cd4 ct4
  F_expression_text := fun_mk (st := s_expression_text) l4 c4 k4
  b_expression_text := (fun_mk (st := s_expression_text) l4 c4 k4).binds (ps := ["m", "expression"]) fun _ _ _ _ _ _ us hl => match us, hl with | [_, _], _ => rfl
  m_expression_text := PySem.W.mg_of X G a4
  a_text_of := f5
  d_text_of := PySem.W.fnOf "text_of" "text_of" (defArgs s_text_of) (defBody s_text_of) (defScope s_text_of) .none kV5 dc5 pm5 an5 cd5 ct5
  F_text_of := fun_mk (st := s_text_of) l5 c5 k5
  b_text_of := (fun_mk (st := s_text_of) l5 c5 k5).binds (ps := ["program"]) fun _ _ _ _ _ _ us hl => match us, hl with | [_], _ => rfl
  m_text_of := PySem.W.mg_of X G a5
  a__law_cell := f6
  d__law_cell := PySem.W.fnOf "_law_cell" "_law_cell" (defArgs s__law_cell) (defBody s__law_cell) (defScope s__law_cell) .none kV6 dc6 pm6 an6 cd6 ct6
  F__law_cell := fun_mk (st := s__law_cell) l6 c6 k6
  b__law_cell := (fun_mk (st := s__law_cell) l6 c6 k6).binds (ps := ["_law_cells", "_law_spot"]) fun _ _ _ _ _ _ us hl => match us, hl with | [_, _], _ => rfl
  m__law_cell := PySem.W.mg_of X G a6
  a__law_names := f7
  d__law_names := PySem.W.fnOf "_law_names" "_law_names" (defArgs s__law_names) (defBody s__law_names) (defScope s__law_names) .none kV7 dc7 pm7 an7 cd7 ct7
  F__law_names := fun_mk (st := s__law_names) l7 c7 k7
  b__law_names := (fun_mk (st := s__law_names) l7 c7 k7).binds (ps := ["_law_n"]) fun _ _ _ _ _ _ us hl => match us, hl with | [_], _ => rfl
  m__law_names := PySem.W.mg_of X G a7
  a__law_number := f8
  d__law_number := PySem.W.fnOf "_law_number" "_law_number" (defArgs s__law_number) (defBody s__law_number) (defScope s__law_number) .none kV8 dc8 pm8 an8 cd8 ct8
  F__law_number := fun_mk (st := s__law_number) l8 c8 k8
  b__law_number := (fun_mk (st := s__law_number) l8 c8 k8).binds (ps := ["_law_n"]) fun _ _ _ _ _ _ us hl => match us, hl with | [_], _ => rfl
  m__law_number := PySem.W.mg_of X G a8
  a__law_leaf := f9
  d__law_leaf := PySem.W.fnOf "_law_leaf" "_law_leaf" (defArgs s__law_leaf) (defBody s__law_leaf) (defScope s__law_leaf) .none kV9 dc9 pm9 an9 cd9 ct9
  F__law_leaf := fun_mk (st := s__law_leaf) l9 c9 k9
  b__law_leaf := (fun_mk (st := s__law_leaf) l9 c9 k9).binds (ps := ["_law_at", "_law_scope", "_law_n"]) fun _ _ _ _ _ _ us hl => match us, hl with | [_, _, _], _ => rfl
  m__law_leaf := PySem.W.mg_of X G a9
  a__law_op := f10
  d__law_op := PySem.W.fnOf "_law_op" "_law_op" (defArgs s__law_op) (defBody s__law_op) (defScope s__law_op) .none kV10 dc10 pm10 an10 cd10 ct10
  F__law_op := fun_mk (st := s__law_op) l10 c10 k10
  b__law_op := (fun_mk (st := s__law_op) l10 c10 k10).binds (ps := ["_law_cells", "_law_spot", "_law_at", "_law_scope", "_law_deep", "_law_n"]) fun _ _ _ _ _ _ us hl => match us, hl with | [_, _, _, _, _, _], _ => rfl
  m__law_op := PySem.W.mg_of X G a10
  a__law_times := f11
  d__law_times := PySem.W.fnOf "_law_times" "_law_times" (defArgs s__law_times) (defBody s__law_times) (defScope s__law_times) .none kV11 dc11 pm11 an11 cd11 ct11
  F__law_times := fun_mk (st := s__law_times) l11 c11 k11
  b__law_times := (fun_mk (st := s__law_times) l11 c11 k11).binds (ps := ["_law_cells", "_law_spot", "_law_at", "_law_scope", "_law_deep", "_law_n"]) fun _ _ _ _ _ _ us hl => match us, hl with | [_, _, _, _, _, _], _ => rfl
  m__law_times := PySem.W.mg_of X G a11
  a__law_call := f12
  d__law_call := PySem.W.fnOf "_law_call" "_law_call" (defArgs s__law_call) (defBody s__law_call) (defScope s__law_call) .none kV12 dc12 pm12 an12 cd12 ct12
  F__law_call := fun_mk (st := s__law_call) l12 c12 k12
  b__law_call := (fun_mk (st := s__law_call) l12 c12 k12).binds (ps := ["_law_cells", "_law_spot", "_law_at", "_law_scope", "_law_deep", "_law_n"]) fun _ _ _ _ _ _ us hl => match us, hl with | [_, _, _, _, _, _], _ => rfl
  m__law_call := PySem.W.mg_of X G a12
  a__law_expression := f13
  d__law_expression := PySem.W.fnOf "_law_expression" "_law_expression" (defArgs s__law_expression) (defBody s__law_expression) (defScope s__law_expression) .none kV13 dc13 pm13 an13 cd13 ct13
  F__law_expression := fun_mk (st := s__law_expression) l13 c13 k13
  b__law_expression := (fun_mk (st := s__law_expression) l13 c13 k13).binds (ps := ["_law_cells", "_law_spot", "_law_at", "_law_scope", "_law_deep"]) fun _ _ _ _ _ _ us hl => match us, hl with | [_, _, _, _, _], _ => rfl
  m__law_expression := PySem.W.mg_of X G a13
  a__law_level := f14
  d__law_level := PySem.W.fnOf "_law_level" "_law_level" (defArgs s__law_level) (defBody s__law_level) (defScope s__law_level) .none kV14 dc14 pm14 an14 cd14 ct14
  F__law_level := fun_mk (st := s__law_level) l14 c14 k14
  b__law_level := (fun_mk (st := s__law_level) l14 c14 k14).binds (ps := ["_law_e"]) fun _ _ _ _ _ _ us hl => match us, hl with | [_], _ => rfl
  m__law_level := PySem.W.mg_of X G a14
  a__law_side := f15
  d__law_side := PySem.W.fnOf "_law_side" "_law_side" (defArgs s__law_side) (defBody s__law_side) (defScope s__law_side) .none kV15 dc15 pm15 an15 cd15 ct15
  F__law_side := fun_mk (st := s__law_side) l15 c15 k15
  b__law_side := (fun_mk (st := s__law_side) l15 c15 k15).binds (ps := ["_law_m", "_law_e", "_law_least", "_law_more"]) fun _ _ _ _ _ _ us hl => match us, hl with | [_, _, _, _], _ => rfl
  m__law_side := PySem.W.mg_of X G a15
  a__law_free_text := f16
  d__law_free_text := PySem.W.fnOf "_law_free_text" "_law_free_text" (defArgs s__law_free_text) (defBody s__law_free_text) (defScope s__law_free_text) .none kV16 dc16 pm16 an16 cd16 ct16
  F__law_free_text := fun_mk (st := s__law_free_text) l16 c16 k16
  b__law_free_text := (fun_mk (st := s__law_free_text) l16 c16 k16).binds (ps := ["_law_m", "_law_e", "_law_more"]) fun _ _ _ _ _ _ us hl => match us, hl with | [_, _, _], _ => rfl
  m__law_free_text := PySem.W.mg_of X G a16
  a__law_text := f17
  d__law_text := PySem.W.fnOf "_law_text" "_law_text" (defArgs s__law_text) (defBody s__law_text) (defScope s__law_text) .none kV17 dc17 pm17 an17 cd17 ct17
  F__law_text := fun_mk (st := s__law_text) l17 c17 k17
  b__law_text := (fun_mk (st := s__law_text) l17 c17 k17).binds (ps := ["_law_m", "_law_e", "_law_more"]) fun _ _ _ _ _ _ us hl => match us, hl with | [_, _, _], _ => rfl
  m__law_text := PySem.W.mg_of X G a17
  a__law_program_text := f18
  d__law_program_text := PySem.W.fnOf "_law_program_text" "_law_program_text" (defArgs s__law_program_text) (defBody s__law_program_text) (defScope s__law_program_text) .none kV18 dc18 pm18 an18 cd18 ct18
  F__law_program_text := fun_mk (st := s__law_program_text) l18 c18 k18
  b__law_program_text := (fun_mk (st := s__law_program_text) l18 c18 k18).binds (ps := ["_law_program", "_law_more"]) fun _ _ _ _ _ _ us hl => match us, hl with | [_, _], _ => rfl
  m__law_program_text := PySem.W.mg_of X G a18
  a__law_sided := f19
  d__law_sided := PySem.W.fnOf "_law_sided" "_law_sided" (defArgs s__law_sided) (defBody s__law_sided) (defScope s__law_sided) .none kV19 dc19 pm19 an19 cd19 ct19
  F__law_sided := fun_mk (st := s__law_sided) l19 c19 k19
  b__law_sided := (fun_mk (st := s__law_sided) l19 c19 k19).binds (ps := ["_law_cells", "_law_spot", "_law_at", "_law_scope", "_law_deep"]) fun _ _ _ _ _ _ us hl => match us, hl with | [_, _, _, _, _], _ => rfl
  m__law_sided := PySem.W.mg_of X G a19
  a__law_chain := f20
  d__law_chain := PySem.W.fnOf "_law_chain" "_law_chain" (defArgs s__law_chain) (defBody s__law_chain) (defScope s__law_chain) .none kV20 dc20 pm20 an20 cd20 ct20
  F__law_chain := fun_mk (st := s__law_chain) l20 c20 k20
  b__law_chain := (fun_mk (st := s__law_chain) l20 c20 k20).binds (ps := ["_law_cells", "_law_spot", "_law_at", "_law_scope", "_law_many"]) fun _ _ _ _ _ _ us hl => match us, hl with | [_, _, _, _, _], _ => rfl
  m__law_chain := PySem.W.mg_of X G a20
  a__law_full := f21
  d__law_full := PySem.W.fnOf "_law_full" "_law_full" (defArgs s__law_full) (defBody s__law_full) (defScope s__law_full) .none kV21 dc21 pm21 an21 cd21 ct21
  F__law_full := fun_mk (st := s__law_full) l21 c21 k21
  b__law_full := (fun_mk (st := s__law_full) l21 c21 k21).binds (ps := ["_law_n"]) fun _ _ _ _ _ _ us hl => match us, hl with | [_], _ => rfl
  m__law_full := PySem.W.mg_of X G a21
  a__law_sided_program := f22
  d__law_sided_program := PySem.W.fnOf "_law_sided_program" "_law_sided_program" (defArgs s__law_sided_program) (defBody s__law_sided_program) (defScope s__law_sided_program) .none kV22 dc22 pm22 an22 cd22 ct22
  F__law_sided_program := fun_mk (st := s__law_sided_program) l22 c22 k22
  b__law_sided_program := (fun_mk (st := s__law_sided_program) l22 c22 k22).binds (ps := ["_law_cells", "_law_spot"]) fun _ _ _ _ _ _ us hl => match us, hl with | [_, _], _ => rfl
  m__law_sided_program := PySem.W.mg_of X G a22
  a_law := f23
  d_law := PySem.W.fnOf "law" "law" (defArgs s_law) (defBody s_law) (defScope s_law) .none kV23 dc23 pm23 an23 cd23 ct23
  F_law := fun_mk (st := s_law) l23 c23 k23
  b_law := (fun_mk (st := s_law) l23 c23 k23).binds (ps := ["_law_script"]) fun _ _ _ _ _ _ us hl => match us, hl with | [_], _ => rfl
  m_law := PySem.W.mg_of X G a23
  bb_law := fun s v => .of_eq rfl
  z_int := PySem.W.mg_none_of X G z_int
  z_str := PySem.W.mg_none_of X G z_str
  z_len := PySem.W.mg_none_of X G z_len
  z_range := PySem.W.mg_none_of X G z_range
  z_tuple := PySem.W.mg_none_of X G z_tuple
  z_isinstance := PySem.W.mg_none_of X G z_isinstance
  z_zip := PySem.W.mg_none_of X G z_zip
  z_enumerate := PySem.W.mg_none_of X G z_enumerate
  z_min := PySem.W.mg_none_of X G z_min
  q_LEVELS := q_LEVELS
  c_LEVELS := PySem.W.mg_of X G g_LEVELS
  t_LEVELS := tab_ok u_LEVELS y_LEVELS v_LEVELS
  c_LEAST := ⟨_, PySem.W.mg_of X G g_LEAST⟩
  q_FREE := q_FREE
  c_FREE := PySem.W.mg_of X G g_FREE
  r_FREE := fun A G => tupIs_rep u_FREE v_FREE
  c_HIGHEST := ⟨_, PySem.W.mg_of X G g_HIGHEST⟩
theorem law_fin (lvl : Nat) {l : PySem.W.OpenLaw} {w : World} {K : PySem.W.Frag} {h : Heap} {mg : Str → Option Value} {fa : Addr} (X : K.In h) (G : h.Ns mainGlobals mg) (hfa : mg "law" = some (.ref fa)) {f0 : Addr} {od0 an0 : Option Addr} {sl0 : Array (Option Value)} {oc0 kV0 dc0 pm0 cd0 ct0 : Value} {f1 : Addr} {od1 an1 : Option Addr} {sl1 : Array (Option Value)} {oc1 kV1 dc1 pm1 cd1 ct1 : Value} {f2 : Addr} {od2 an2 : Option Addr} {sl2 : Array (Option Value)} {oc2 kV2 dc2 pm2 cd2 ct2 : Value} {f3 : Addr} {od3 an3 : Option Addr} {sl3 : Array (Option Value)} {oc3 kV3 dc3 pm3 cd3 ct3 : Value} {f4 : Addr} {od4 an4 : Option Addr} {sl4 : Array (Option Value)} {oc4 kV4 dc4 pm4 cd4 ct4 : Value} {f5 : Addr} {od5 an5 : Option Addr} {sl5 : Array (Option Value)} {oc5 kV5 dc5 pm5 cd5 ct5 : Value} {f6 : Addr} {od6 an6 : Option Addr} {sl6 : Array (Option Value)} {oc6 kV6 dc6 pm6 cd6 ct6 : Value} {f7 : Addr} {od7 an7 : Option Addr} {sl7 : Array (Option Value)} {oc7 kV7 dc7 pm7 cd7 ct7 : Value} {f8 : Addr} {od8 an8 : Option Addr} {sl8 : Array (Option Value)} {oc8 kV8 dc8 pm8 cd8 ct8 : Value} {f9 : Addr} {od9 an9 : Option Addr} {sl9 : Array (Option Value)} {oc9 kV9 dc9 pm9 cd9 ct9 : Value} {f10 : Addr} {od10 an10 : Option Addr} {sl10 : Array (Option Value)} {oc10 kV10 dc10 pm10 cd10 ct10 : Value} {f11 : Addr} {od11 an11 : Option Addr} {sl11 : Array (Option Value)} {oc11 kV11 dc11 pm11 cd11 ct11 : Value} {f12 : Addr} {od12 an12 : Option Addr} {sl12 : Array (Option Value)} {oc12 kV12 dc12 pm12 cd12 ct12 : Value} {f13 : Addr} {od13 an13 : Option Addr} {sl13 : Array (Option Value)} {oc13 kV13 dc13 pm13 cd13 ct13 : Value} {f14 : Addr} {od14 an14 : Option Addr} {sl14 : Array (Option Value)} {oc14 kV14 dc14 pm14 cd14 ct14 : Value} {f15 : Addr} {od15 an15 : Option Addr} {sl15 : Array (Option Value)} {oc15 kV15 dc15 pm15 cd15 ct15 : Value} {f16 : Addr} {od16 an16 : Option Addr} {sl16 : Array (Option Value)} {oc16 kV16 dc16 pm16 cd16 ct16 : Value} {f17 : Addr} {od17 an17 : Option Addr} {sl17 : Array (Option Value)} {oc17 kV17 dc17 pm17 cd17 ct17 : Value} {f18 : Addr} {od18 an18 : Option Addr} {sl18 : Array (Option Value)} {oc18 kV18 dc18 pm18 cd18 ct18 : Value} {f19 : Addr} {od19 an19 : Option Addr} {sl19 : Array (Option Value)} {oc19 kV19 dc19 pm19 cd19 ct19 : Value} {f20 : Addr} {od20 an20 : Option Addr} {sl20 : Array (Option Value)} {oc20 kV20 dc20 pm20 cd20 ct20 : Value} {f21 : Addr} {od21 an21 : Option Addr} {sl21 : Array (Option Value)} {oc21 kV21 dc21 pm21 cd21 ct21 : Value} {f22 : Addr} {od22 an22 : Option Addr} {sl22 : Array (Option Value)} {oc22 kV22 dc22 pm22 cd22 ct22 : Value} {f23 : Addr} {od23 an23 : Option Addr} {sl23 : Array (Option Value)} {oc23 kV23 dc23 pm23 cd23 ct23 : Value} {q_LEVELS : Addr} {es_LEVELS : Array DictEntry} {n_LEVELS : Nat} {t_LEAST : Tok} {q_FREE : Addr} {o_FREE : Obj} {t_HIGHEST : Tok} (a0 : PySem.W.nsIn K mainGlobals "level_of" = some (some (.ref f0))) (l0 : K.lookup f0 = some ⟨oc0, od0, .func (PySem.W.fnOf "level_of" "level_of" (defArgs s_level_of) (defBody s_level_of) (defScope s_level_of) .none kV0 dc0 pm0 an0 cd0 ct0), sl0⟩) (c0 : PySem.W.codeIn K cd0 "level_of" = true) (k0 : PySem.W.keepIn K (.ref f0) = true) (a1 : PySem.W.nsIn K mainGlobals "side_text" = some (some (.ref f1))) (l1 : K.lookup f1 = some ⟨oc1, od1, .func (PySem.W.fnOf "side_text" "side_text" (defArgs s_side_text) (defBody s_side_text) (defScope s_side_text) .none kV1 dc1 pm1 an1 cd1 ct1), sl1⟩) (c1 : PySem.W.codeIn K cd1 "side_text" = true) (k1 : PySem.W.keepIn K (.ref f1) = true) (a2 : PySem.W.nsIn K mainGlobals "call_text" = some (some (.ref f2))) (l2 : K.lookup f2 = some ⟨oc2, od2, .func (PySem.W.fnOf "call_text" "call_text" (defArgs s_call_text) (defBody s_call_text) (defScope s_call_text) .none kV2 dc2 pm2 an2 cd2 ct2), sl2⟩) (c2 : PySem.W.codeIn K cd2 "call_text" = true) (k2 : PySem.W.keepIn K (.ref f2) = true) (a3 : PySem.W.nsIn K mainGlobals "sign_text" = some (some (.ref f3))) (l3 : K.lookup f3 = some ⟨oc3, od3, .func (PySem.W.fnOf "sign_text" "sign_text" (defArgs s_sign_text) (defBody s_sign_text) (defScope s_sign_text) .none kV3 dc3 pm3 an3 cd3 ct3), sl3⟩) (c3 : PySem.W.codeIn K cd3 "sign_text" = true) (k3 : PySem.W.keepIn K (.ref f3) = true) (a4 : PySem.W.nsIn K mainGlobals "expression_text" = some (some (.ref f4))) (l4 : K.lookup f4 = some ⟨oc4, od4, .func (PySem.W.fnOf "expression_text" "expression_text" (defArgs s_expression_text) (defBody s_expression_text) (defScope s_expression_text) .none kV4 dc4 pm4 an4 cd4 ct4), sl4⟩) (c4 : PySem.W.codeIn K cd4 "expression_text" = true) (k4 : PySem.W.keepIn K (.ref f4) = true) (a5 : PySem.W.nsIn K mainGlobals "text_of" = some (some (.ref f5))) (l5 : K.lookup f5 = some ⟨oc5, od5, .func (PySem.W.fnOf "text_of" "text_of" (defArgs s_text_of) (defBody s_text_of) (defScope s_text_of) .none kV5 dc5 pm5 an5 cd5 ct5), sl5⟩) (c5 : PySem.W.codeIn K cd5 "text_of" = true) (k5 : PySem.W.keepIn K (.ref f5) = true) (a6 : PySem.W.nsIn K mainGlobals "_law_cell" = some (some (.ref f6))) (l6 : K.lookup f6 = some ⟨oc6, od6, .func (PySem.W.fnOf "_law_cell" "_law_cell" (defArgs s__law_cell) (defBody s__law_cell) (defScope s__law_cell) .none kV6 dc6 pm6 an6 cd6 ct6), sl6⟩) (c6 : PySem.W.codeIn K cd6 "_law_cell" = true) (k6 : PySem.W.keepIn K (.ref f6) = true) (a7 : PySem.W.nsIn K mainGlobals "_law_names" = some (some (.ref f7))) (l7 : K.lookup f7 = some ⟨oc7, od7, .func (PySem.W.fnOf "_law_names" "_law_names" (defArgs s__law_names) (defBody s__law_names) (defScope s__law_names) .none kV7 dc7 pm7 an7 cd7 ct7), sl7⟩) (c7 : PySem.W.codeIn K cd7 "_law_names" = true) (k7 : PySem.W.keepIn K (.ref f7) = true) (a8 : PySem.W.nsIn K mainGlobals "_law_number" = some (some (.ref f8))) (l8 : K.lookup f8 = some ⟨oc8, od8, .func (PySem.W.fnOf "_law_number" "_law_number" (defArgs s__law_number) (defBody s__law_number) (defScope s__law_number) .none kV8 dc8 pm8 an8 cd8 ct8), sl8⟩) (c8 : PySem.W.codeIn K cd8 "_law_number" = true) (k8 : PySem.W.keepIn K (.ref f8) = true) (a9 : PySem.W.nsIn K mainGlobals "_law_leaf" = some (some (.ref f9))) (l9 : K.lookup f9 = some ⟨oc9, od9, .func (PySem.W.fnOf "_law_leaf" "_law_leaf" (defArgs s__law_leaf) (defBody s__law_leaf) (defScope s__law_leaf) .none kV9 dc9 pm9 an9 cd9 ct9), sl9⟩) (c9 : PySem.W.codeIn K cd9 "_law_leaf" = true) (k9 : PySem.W.keepIn K (.ref f9) = true) (a10 : PySem.W.nsIn K mainGlobals "_law_op" = some (some (.ref f10))) (l10 : K.lookup f10 = some ⟨oc10, od10, .func (PySem.W.fnOf "_law_op" "_law_op" (defArgs s__law_op) (defBody s__law_op) (defScope s__law_op) .none kV10 dc10 pm10 an10 cd10 ct10), sl10⟩) (c10 : PySem.W.codeIn K cd10 "_law_op" = true) (k10 : PySem.W.keepIn K (.ref f10) = true) (a11 : PySem.W.nsIn K mainGlobals "_law_times" = some (some (.ref f11))) (l11 : K.lookup f11 = some ⟨oc11, od11, .func (PySem.W.fnOf "_law_times" "_law_times" (defArgs s__law_times) (defBody s__law_times) (defScope s__law_times) .none kV11 dc11 pm11 an11 cd11 ct11), sl11⟩) (c11 : PySem.W.codeIn K cd11 "_law_times" = true) (k11 : PySem.W.keepIn K (.ref f11) = true) (a12 : PySem.W.nsIn K mainGlobals "_law_call" = some (some (.ref f12))) (l12 : K.lookup f12 = some ⟨oc12, od12, .func (PySem.W.fnOf "_law_call" "_law_call" (defArgs s__law_call) (defBody s__law_call) (defScope s__law_call) .none kV12 dc12 pm12 an12 cd12 ct12), sl12⟩) (c12 : PySem.W.codeIn K cd12 "_law_call" = true) (k12 : PySem.W.keepIn K (.ref f12) = true) (a13 : PySem.W.nsIn K mainGlobals "_law_expression" = some (some (.ref f13))) (l13 : K.lookup f13 = some ⟨oc13, od13, .func (PySem.W.fnOf "_law_expression" "_law_expression" (defArgs s__law_expression) (defBody s__law_expression) (defScope s__law_expression) .none kV13 dc13 pm13 an13 cd13 ct13), sl13⟩) (c13 : PySem.W.codeIn K cd13 "_law_expression" = true) (k13 : PySem.W.keepIn K (.ref f13) = true) (a14 : PySem.W.nsIn K mainGlobals "_law_level" = some (some (.ref f14))) (l14 : K.lookup f14 = some ⟨oc14, od14, .func (PySem.W.fnOf "_law_level" "_law_level" (defArgs s__law_level) (defBody s__law_level) (defScope s__law_level) .none kV14 dc14 pm14 an14 cd14 ct14), sl14⟩) (c14 : PySem.W.codeIn K cd14 "_law_level" = true) (k14 : PySem.W.keepIn K (.ref f14) = true) (a15 : PySem.W.nsIn K mainGlobals "_law_side" = some (some (.ref f15))) (l15 : K.lookup f15 = some ⟨oc15, od15, .func (PySem.W.fnOf "_law_side" "_law_side" (defArgs s__law_side) (defBody s__law_side) (defScope s__law_side) .none kV15 dc15 pm15 an15 cd15 ct15), sl15⟩) (c15 : PySem.W.codeIn K cd15 "_law_side" = true) (k15 : PySem.W.keepIn K (.ref f15) = true) (a16 : PySem.W.nsIn K mainGlobals "_law_free_text" = some (some (.ref f16))) (l16 : K.lookup f16 = some ⟨oc16, od16, .func (PySem.W.fnOf "_law_free_text" "_law_free_text" (defArgs s__law_free_text) (defBody s__law_free_text) (defScope s__law_free_text) .none kV16 dc16 pm16 an16 cd16 ct16), sl16⟩) (c16 : PySem.W.codeIn K cd16 "_law_free_text" = true) (k16 : PySem.W.keepIn K (.ref f16) = true) (a17 : PySem.W.nsIn K mainGlobals "_law_text" = some (some (.ref f17))) (l17 : K.lookup f17 = some ⟨oc17, od17, .func (PySem.W.fnOf "_law_text" "_law_text" (defArgs s__law_text) (defBody s__law_text) (defScope s__law_text) .none kV17 dc17 pm17 an17 cd17 ct17), sl17⟩) (c17 : PySem.W.codeIn K cd17 "_law_text" = true) (k17 : PySem.W.keepIn K (.ref f17) = true) (a18 : PySem.W.nsIn K mainGlobals "_law_program_text" = some (some (.ref f18))) (l18 : K.lookup f18 = some ⟨oc18, od18, .func (PySem.W.fnOf "_law_program_text" "_law_program_text" (defArgs s__law_program_text) (defBody s__law_program_text) (defScope s__law_program_text) .none kV18 dc18 pm18 an18 cd18 ct18), sl18⟩) (c18 : PySem.W.codeIn K cd18 "_law_program_text" = true) (k18 : PySem.W.keepIn K (.ref f18) = true) (a19 : PySem.W.nsIn K mainGlobals "_law_sided" = some (some (.ref f19))) (l19 : K.lookup f19 = some ⟨oc19, od19, .func (PySem.W.fnOf "_law_sided" "_law_sided" (defArgs s__law_sided) (defBody s__law_sided) (defScope s__law_sided) .none kV19 dc19 pm19 an19 cd19 ct19), sl19⟩) (c19 : PySem.W.codeIn K cd19 "_law_sided" = true) (k19 : PySem.W.keepIn K (.ref f19) = true) (a20 : PySem.W.nsIn K mainGlobals "_law_chain" = some (some (.ref f20))) (l20 : K.lookup f20 = some ⟨oc20, od20, .func (PySem.W.fnOf "_law_chain" "_law_chain" (defArgs s__law_chain) (defBody s__law_chain) (defScope s__law_chain) .none kV20 dc20 pm20 an20 cd20 ct20), sl20⟩) (c20 : PySem.W.codeIn K cd20 "_law_chain" = true) (k20 : PySem.W.keepIn K (.ref f20) = true) (a21 : PySem.W.nsIn K mainGlobals "_law_full" = some (some (.ref f21))) (l21 : K.lookup f21 = some ⟨oc21, od21, .func (PySem.W.fnOf "_law_full" "_law_full" (defArgs s__law_full) (defBody s__law_full) (defScope s__law_full) .none kV21 dc21 pm21 an21 cd21 ct21), sl21⟩) (c21 : PySem.W.codeIn K cd21 "_law_full" = true) (k21 : PySem.W.keepIn K (.ref f21) = true) (a22 : PySem.W.nsIn K mainGlobals "_law_sided_program" = some (some (.ref f22))) (l22 : K.lookup f22 = some ⟨oc22, od22, .func (PySem.W.fnOf "_law_sided_program" "_law_sided_program" (defArgs s__law_sided_program) (defBody s__law_sided_program) (defScope s__law_sided_program) .none kV22 dc22 pm22 an22 cd22 ct22), sl22⟩) (c22 : PySem.W.codeIn K cd22 "_law_sided_program" = true) (k22 : PySem.W.keepIn K (.ref f22) = true) (a23 : PySem.W.nsIn K mainGlobals "law" = some (some (.ref f23))) (l23 : K.lookup f23 = some ⟨oc23, od23, .func (PySem.W.fnOf "law" "law" (defArgs s_law) (defBody s_law) (defScope s_law) .none kV23 dc23 pm23 an23 cd23 ct23), sl23⟩) (c23 : PySem.W.codeIn K cd23 "law" = true) (k23 : PySem.W.keepIn K (.ref f23) = true) (z_int : PySem.W.nsIn K mainGlobals "int" = some none) (z_str : PySem.W.nsIn K mainGlobals "str" = some none) (z_len : PySem.W.nsIn K mainGlobals "len" = some none) (z_range : PySem.W.nsIn K mainGlobals "range" = some none) (z_tuple : PySem.W.nsIn K mainGlobals "tuple" = some none) (z_isinstance : PySem.W.nsIn K mainGlobals "isinstance" = some none) (z_zip : PySem.W.nsIn K mainGlobals "zip" = some none) (z_enumerate : PySem.W.nsIn K mainGlobals "enumerate" = some none) (z_min : PySem.W.nsIn K mainGlobals "min" = some none) (g_LEVELS : PySem.W.nsIn K mainGlobals "LEVELS" = some (some (.ref q_LEVELS))) (u_LEVELS : K.lookup q_LEVELS = some ⟨.type "dict", none, .dict es_LEVELS n_LEVELS, #[]⟩) (v_LEVELS : tabIs K q_LEVELS k_LEVELS = true) (y_LEVELS : PySem.W.KeysLit w.params es_LEVELS.toList) (g_LEAST : PySem.W.nsIn K mainGlobals "LEAST" = some (some (.int 1 t_LEAST))) (g_FREE : PySem.W.nsIn K mainGlobals "FREE" = some (some (.ref q_FREE))) (u_FREE : K.lookup q_FREE = some o_FREE) (v_FREE : tupIs K 9 o_FREE k_FREE = true) (g_HIGHEST : PySem.W.nsIn K mainGlobals "HIGHEST" = some (some (.int 4 t_HIGHEST))) :
    ∃ fd : FuncData, (∀ (s : Shared) (v : Value), BindsTo s fd ⟨[v], []⟩ [("_law_script", v)]) ∧ ∀ base : Heap, K.In base → base.Ns mainGlobals mg → GOk l.prog w K mg base CX0 lvl fa fd ["_law_script"] (spD K W0 1 (sem lvl f_law)) := by
  have T : Top w K mg := top_mk X G (a0 := a0) (l0 := l0) (c0 := c0) (k0 := k0) (a1 := a1) (l1 := l1) (c1 := c1) (k1 := k1) (a2 := a2) (l2 := l2) (c2 := c2) (k2 := k2) (a3 := a3) (l3 := l3) (c3 := c3) (k3 := k3) (a4 := a4) (l4 := l4) (c4 := c4) (k4 := k4) (a5 := a5) (l5 := l5) (c5 := c5) (k5 := k5) (a6 := a6) (l6 := l6) (c6 := c6) (k6 := k6) (a7 := a7) (l7 := l7) (c7 := c7) (k7 := k7) (a8 := a8) (l8 := l8) (c8 := c8) (k8 := k8) (a9 := a9) (l9 := l9) (c9 := c9) (k9 := k9) (a10 := a10) (l10 := l10) (c10 := c10) (k10 := k10) (a11 := a11) (l11 := l11) (c11 := c11) (k11 := k11) (a12 := a12) (l12 := l12) (c12 := c12) (k12 := k12) (a13 := a13) (l13 := l13) (c13 := c13) (k13 := k13) (a14 := a14) (l14 := l14) (c14 := c14) (k14 := k14) (a15 := a15) (l15 := l15) (c15 := c15) (k15 := k15) (a16 := a16) (l16 := l16) (c16 := c16) (k16 := k16) (a17 := a17) (l17 := l17) (c17 := c17) (k17 := k17) (a18 := a18) (l18 := l18) (c18 := c18) (k18 := k18) (a19 := a19) (l19 := l19) (c19 := c19) (k19 := k19) (a20 := a20) (l20 := l20) (c20 := c20) (k20 := k20) (a21 := a21) (l21 := l21) (c21 := c21) (k21 := k21) (a22 := a22) (l22 := l22) (c22 := c22) (k22 := k22) (a23 := a23) (l23 := l23) (c23 := c23) (k23 := k23) (z_int := z_int) (z_str := z_str) (z_len := z_len) (z_range := z_range) (z_tuple := z_tuple) (z_isinstance := z_isinstance) (z_zip := z_zip) (z_enumerate := z_enumerate) (z_min := z_min) (g_LEVELS := g_LEVELS) (u_LEVELS := u_LEVELS) (v_LEVELS := v_LEVELS) (y_LEVELS := y_LEVELS) (g_LEAST := g_LEAST) (g_FREE := g_FREE) (u_FREE := u_FREE) (v_FREE := v_FREE) (g_HIGHEST := g_HIGHEST)
  have e : fa = T.a_law := PySem.Value.ref.inj (Option.some.inj (hfa.symm.trans T.m_law))
  subst e
  exact ⟨T.d_law, T.bb_law, fun base _ _ => (oks T lvl).i_law⟩
end K46
/-! TPwi: an expression with other parts, with another one at a place, plain. -/
namespace TP
open PySem L2
theorem len0 {α : Type} {xs : List α} (h : xs.length = 0) : xs = [] := List.eq_nil_of_length_eq_zero h
theorem len1 {α : Type} {xs : List α} (h : xs.length = 1) : ∃ a, xs = [a] := match xs, h with | [a], _ => ⟨a, rfl⟩
theorem len2 {α : Type} {xs : List α} (h : xs.length = 2) : ∃ a b, xs = [a, b] := match xs, h with | [a, b], _ => ⟨a, b, rfl⟩
theorem len3 {α : Type} {xs : List α} (h : xs.length = 3) : ∃ a b c, xs = [a, b, c] := match xs, h with | [a, b, c], _ => ⟨a, b, c, rfl⟩
theorem take_snoc {α : Type} {xs : List α} {i : Nat} {x : α} (h : xs[i]? = some x) : xs.take (i + 1) = xs.take i ++ [x] := by
  rw [List.take_add_one, h]; rfl
namespace Ex
def withs : Ex → List Ex → Ex
  | .op s _ _, [c, d] => .op s c d
  | .lt x _ _, [c, d] => .lt x c d
  | .ite _ _ _, [c, d, e] => .ite c d e
  | .times _ i s _ _, [c, d, e] => .times c i s d e
  | .tell _ _, [c, d] => .tell c d
  | .stop _, [c] => .stop c
  | .call m f _, bs => .call m f bs
  | e, _ => e
theorem withs_parts (e : Ex) : withs e e.parts = e := by cases e <;> rfl
theorem withs_p {e : Ex} {bs : List Ex} (hb : bs.length = e.parts.length) : (withs e bs).parts = bs := by
  cases e
  case num n => rw [len0 hb]; rfl
  case use n => rw [len0 hb]; rfl
  case op s a b => obtain ⟨p, q, rfl⟩ := len2 hb; rfl
  case lt s a b => obtain ⟨p, q, rfl⟩ := len2 hb; rfl
  case ite a b c => obtain ⟨p, q, r, rfl⟩ := len3 hb; rfl
  case times a i s b c => obtain ⟨p, q, r, rfl⟩ := len3 hb; rfl
  case tell a b => obtain ⟨p, q, rfl⟩ := len2 hb; rfl
  case stop a => obtain ⟨p, rfl⟩ := len1 hb; rfl
  case call m f as => rfl
theorem withs_withs {e : Ex} {bs cs : List Ex} (hb : bs.length = e.parts.length) (hc : cs.length = e.parts.length) : withs (withs e bs) cs = withs e cs := by
  cases e
  case num n => rw [len0 hb, len0 hc]; rfl
  case use n => rw [len0 hb, len0 hc]; rfl
  case op s a b => obtain ⟨p, q, rfl⟩ := len2 hb; obtain ⟨p, q, rfl⟩ := len2 hc; rfl
  case lt s a b => obtain ⟨p, q, rfl⟩ := len2 hb; obtain ⟨p, q, rfl⟩ := len2 hc; rfl
  case ite a b c => obtain ⟨p, q, r, rfl⟩ := len3 hb; obtain ⟨p, q, r, rfl⟩ := len3 hc; rfl
  case times a i s b c => obtain ⟨p, q, r, rfl⟩ := len3 hb; obtain ⟨p, q, r, rfl⟩ := len3 hc; rfl
  case tell a b => obtain ⟨p, q, rfl⟩ := len2 hb; obtain ⟨p, q, rfl⟩ := len2 hc; rfl
  case stop a => obtain ⟨p, rfl⟩ := len1 hb; obtain ⟨p, rfl⟩ := len1 hc; rfl
  case call m f as => rfl
section
variable {p : Str → Prop} {q : Int → Prop}
theorem als_parts {e : Ex} (h : Al p q e) : Als p q e.parts := by
  cases e <;> simp [Al] at h <;> simp [parts, Als, h]
theorem als_mem : ∀ {es : List Ex}, Als p q es → ∀ e ∈ es, Al p q e
  | [], _, e, he => absurd he List.not_mem_nil
  | x :: xs, h, e, he => by
    rw [Als] at h
    rcases List.mem_cons.mp he with rfl | he
    · exact h.1
    · exact als_mem h.2 e he
theorem als_of : ∀ {es : List Ex}, (∀ e ∈ es, Al p q e) → Als p q es
  | [], _ => by rw [Als]; trivial
  | x :: xs, h => by
    rw [Als]
    exact ⟨h x List.mem_cons_self, als_of fun e he => h e (List.mem_cons_of_mem _ he)⟩
theorem withs_al {e : Ex} {bs : List Ex} (hb : bs.length = e.parts.length) (h : Al p q e) (hs : Als p q bs) : Al p q (withs e bs) := by
  cases e
  case num n => exact h
  case use n => exact h
  case op s a b => obtain ⟨x, y, rfl⟩ := len2 hb; simp [Al] at h; simp [Als] at hs; simp [withs, Al, h, hs]
  case lt s a b => obtain ⟨x, y, rfl⟩ := len2 hb; simp [Al] at h; simp [Als] at hs; simp [withs, Al, h, hs]
  case ite a b c => obtain ⟨x, y, z, rfl⟩ := len3 hb; simp [Als] at hs; simp [withs, Al, hs]
  case times a i s b c => obtain ⟨x, y, z, rfl⟩ := len3 hb; simp [Al] at h; simp [Als] at hs; simp [withs, Al, h, hs]
  case tell a b => obtain ⟨x, y, rfl⟩ := len2 hb; simp [Als] at hs; simp [withs, Al, hs]
  case stop a => obtain ⟨x, rfl⟩ := len1 hb; simp [Als] at hs; simp [withs, Al, hs]
  case call m f as => simp [Al] at h; simp [withs, Al, h, hs]
end
theorem dep_le {n : Nat} {e : Ex} (h : ∀ p ∈ e.parts, p.dep ≤ n) : e.dep ≤ n + 1 := by
  have h2 := deps_le h
  cases e <;> simp [dep, parts, deps] at h2 ⊢ <;> omega
/-- other at a place -/
def putE : Ex → List Nat → Ex → Ex
  | _, [], o => o
  | e, i :: r, o => match e.parts[i]? with
    | some p => withs e (e.parts.set i (putE p r o))
    | none => e
theorem putE_cons {e p : Ex} {i : Nat} {r : List Nat} {o : Ex} (h : e.parts[i]? = some p) : putE e (i :: r) o = withs e (e.parts.set i (putE p r o)) := by
  rw [putE, h]
theorem sub_cons {e : Ex} {i : Nat} {r : List Nat} : sub e (i :: r) = match e.parts[i]? with | some p => sub p r | none => none := by first | (rw [sub]; done) | (rw [sub]; cases e.parts[i]? <;> rfl)
theorem putE_parts {e p : Ex} {i : Nat} {r : List Nat} {o : Ex} (h : e.parts[i]? = some p) : (putE e (i :: r) o).parts = e.parts.set i (putE p r o) := by
  rw [putE_cons h, withs_p (List.length_set ..)]
/-- what was there, put back -/
theorem putE_sub : ∀ {r : List Nat} {e p : Ex}, sub e r = some p → putE e r p = e
  | [], e, p, h => by rw [sub] at h; cases h; rfl
  | i :: r, e, p, h => by
    rw [sub_cons] at h
    cases hp : e.parts[i]? with
    | none => rw [hp] at h; cases h
    | some x =>
      rw [hp] at h
      rw [putE_cons hp, putE_sub h]
      obtain ⟨hi, hx⟩ := List.getElem?_eq_some_iff.mp hp
      rw [← hx, List.set_getElem_self, withs_parts]
theorem sub_putE : ∀ {r : List Nat} {e p o : Ex}, sub e r = some p → sub (putE e r o) r = some o
  | [], e, p, o, h => rfl
  | i :: r, e, p, o, h => by
    rw [sub_cons] at h
    cases hp : e.parts[i]? with
    | none => rw [hp] at h; cases h
    | some x =>
      rw [hp] at h
      have hi := (List.getElem?_eq_some_iff.mp hp).1
      rw [sub_cons, putE_parts hp, List.getElem?_set_self hi]
      exact sub_putE h
theorem putE_putE : ∀ {r : List Nat} {e p o o2 : Ex}, sub e r = some p → putE (putE e r o) r o2 = putE e r o2
  | [], e, p, o, o2, h => rfl
  | i :: r, e, p, o, o2, h => by
    rw [sub_cons] at h
    cases hp : e.parts[i]? with
    | none => rw [hp] at h; cases h
    | some x =>
      rw [hp] at h
      have hi := (List.getElem?_eq_some_iff.mp hp).1
      have h2 : (putE e (i :: r) o).parts[i]? = some (putE x r o) := by rw [putE_parts hp, List.getElem?_set_self hi]
      rw [putE_cons h2, putE_parts hp, putE_putE h, List.set_set, putE_cons hp, putE_cons hp, withs_withs (List.length_set ..) (List.length_set ..)]
theorem cnts_set : ∀ {es : List Ex} {i : Nat} {p x : Ex}, es[i]? = some p → cnts (es.set i x) + p.cnt = cnts es + x.cnt
  | e :: es, 0, p, x, h => by cases h; rw [List.set_cons_zero, cnts, cnts]; omega
  | e :: es, i + 1, p, x, h => by
    rw [List.set_cons_succ, cnts, cnts]
    have := cnts_set (x := x) (show es[i]? = some p by simpa using h)
    omega
theorem putE_cnt : ∀ {r : List Nat} {e p o : Ex}, sub e r = some p → (putE e r o).cnt ≤ e.cnt + o.cnt
  | [], e, p, o, h => Nat.le_add_left _ _
  | i :: r, e, p, o, h => by
    rw [sub_cons] at h
    cases hp : e.parts[i]? with
    | none => rw [hp] at h; cases h
    | some x =>
      rw [hp] at h
      have h1 := putE_cnt (o := o) h
      have h2 := cnts_set (x := putE x r o) hp
      rw [cnt_eq, putE_parts hp, cnt_eq e]
      omega
theorem putE_dep : ∀ {r : List Nat} {e p o : Ex}, sub e r = some p → (putE e r o).dep ≤ e.dep + o.dep
  | [], e, p, o, h => Nat.le_add_left _ _
  | i :: r, e, p, o, h => by
    rw [sub_cons] at h
    cases hp : e.parts[i]? with
    | none => rw [hp] at h; cases h
    | some x =>
      rw [hp] at h
      have h1 := putE_dep (o := o) h
      have hxm := List.mem_of_getElem? hp
      have h3 := parts_dep hxm
      have := dep_le (n := e.dep - 1 + o.dep) (e := putE e (i :: r) o) fun y hy => by
        rw [putE_parts hp] at hy
        rcases List.mem_or_eq_of_mem_set hy with hy | rfl
        · have := parts_dep hy; omega
        · omega
      omega
theorem putE_al {p : Str → Prop} {q : Int → Prop} {o : Ex} (ho : Al p q o) : ∀ {r : List Nat} {e x : Ex}, sub e r = some x → Al p q e → Al p q (putE e r o)
  | [], e, x, h, _ => ho
  | i :: r, e, x, h, ha => by
    rw [sub_cons] at h
    cases hp : e.parts[i]? with
    | none => rw [hp] at h; cases h
    | some y =>
      rw [hp] at h
      rw [putE_cons hp]
      refine withs_al (List.length_set ..) ha (als_of fun z hz => ?_)
      rcases List.mem_or_eq_of_mem_set hz with hz | rfl
      · exact als_mem (als_parts ha) z hz
      · exact putE_al ho h (als_mem (als_parts ha) y (List.mem_of_getElem? hp))
theorem sub_al {p : Str → Prop} {q : Int → Prop} : ∀ {r : List Nat} {e x : Ex}, sub e r = some x → Al p q e → Al p q x
  | [], e, x, h, ha => by rw [sub] at h; cases h; exact ha
  | i :: r, e, x, h, ha => by
    rw [sub_cons] at h
    cases hp : e.parts[i]? with
    | none => rw [hp] at h; cases h
    | some y =>
      rw [hp] at h
      exact sub_al h (als_mem (als_parts ha) y (List.mem_of_getElem? hp))
theorem sub_cnt : ∀ {r : List Nat} {e x : Ex}, sub e r = some x → x.cnt ≤ e.cnt
  | [], e, x, h => by rw [sub] at h; cases h; exact Nat.le_refl _
  | i :: r, e, x, h => by
    rw [sub_cons] at h
    cases hp : e.parts[i]? with
    | none => rw [hp] at h; cases h
    | some y =>
      rw [hp] at h
      have := sub_cnt h
      have := parts_cnt (List.mem_of_getElem? hp)
      omega
end Ex
end TP
/-! TPtx: the text of an expression, plain. -/
namespace TP
open PySem L2
def sLvl (s : Str) : Int := if s = "=" ∨ s = "<" then 1 else if s = "+" ∨ s = "-" then 2 else 3
def lvlE : Ex → Int
  | .op s _ _ => sLvl s
  | .num _ => 4
  | .use _ => 4
  | .call _ _ _ => 4
  | _ => 0
def parT (b : Bool) (t : Str) : Str := if b = true then "(" ++ t ++ ")" else t
def intT (i : Int) : Str := toString i
mutual
def txt (m : Str) : Ex → Str
  | .num n => intT n
  | .use x => x
  | .op s a b => parT (decide (lvlE a < sLvl s + (if sLvl s = 1 then 1 else 0))) (txt m a) ++ " " ++ s ++ " " ++ parT (decide (lvlE b < sLvl s + 1)) (txt m b)
  | .call n f as => (if n = m then f else n ++ "." ++ f) ++ "(" ++ Txt.join ", " (txts m as) ++ ")"
  | .times a i s b c => "times " ++ txt m a ++ " as " ++ i ++ ", " ++ s ++ " from " ++ txt m b ++ " do " ++ txt m c
  | .lt x a b => "let " ++ x ++ " = " ++ txt m a ++ " in " ++ txt m b
  | .ite a b c => "if " ++ txt m a ++ " then " ++ txt m b ++ " else " ++ txt m c
  | .tell a b => "tell " ++ txt m a ++ " in " ++ txt m b
  | .stop a => "stop " ++ txt m a
def txts (m : Str) : List Ex → List Str
  | [] => []
  | e :: es => txt m e :: txts m es
end
theorem txts_eq (m : Str) : ∀ es : List Ex, txts m es = es.map (txt m)
  | [] => rfl
  | e :: es => by rw [txts, txts_eq m es]; rfl
theorem parT_len (b : Bool) (t : Str) : (parT b t).length ≤ t.length + 2 := by
  unfold parT
  split
  · rw [Str.length_append, Str.length_append, show (Str.ofString "(").length = 1 from rfl, show (Str.ofString ")").length = 1 from rfl]; omega
  · omega
theorem intT_len {i : Int} (h : i.natAbs < 10 ^ 31) : (intT i).length ≤ 32 := by
  have h2 := int_text_length_le10 (k := 31) (by decide) h
  have e : (Str.ofString (toString i)).length = (toString i).length := PySem.ofString_length _
  unfold intT
  show (Str.ofString (toString i)).length ≤ 32
  omega
theorem join_len (sep : Str) : ∀ ts : List Str, (Txt.join sep ts).length ≤ (ts.map (·.length)).sum + ts.length * sep.length
  | [] => by
    have : Txt.join sep [] = Str.join sep [] := StrLaws.glued_eq_join sep []
    rw [this]; exact Nat.zero_le _
  | [x] => by
    have : Txt.join sep [x] = Str.join sep [x] := StrLaws.glued_eq_join sep [x]
    rw [this]
    show x.length ≤ _
    simp
  | x :: y :: ts => by
    have e1 : Txt.join sep (x :: y :: ts) = Str.join sep (x :: y :: ts) := StrLaws.glued_eq_join sep _
    have e2 : Txt.join sep (y :: ts) = Str.join sep (y :: ts) := StrLaws.glued_eq_join sep _
    have ih := join_len sep (y :: ts)
    rw [e2] at ih
    rw [e1]
    show (x ++ sep ++ Str.join sep (y :: ts)).length ≤ _
    rw [Str.length_append, Str.length_append, List.map_cons, List.sum_cons, List.length_cons, Nat.succ_mul]
    omega
/-- the names are short, the numbers small -/
abbrev TxOk (e : Ex) : Prop := Ex.Al (fun x => x.length ≤ 12) (fun n => n.natAbs < 10 ^ 31) e
abbrev TxsOk (es : List Ex) : Prop := Ex.Als (fun x => x.length ≤ 12) (fun n => n.natAbs < 10 ^ 31) es
theorem wl (s : String) {n : Nat} (h : (Str.ofString s).length = n := by decide +kernel) : (Str.ofString s).length = n := h
section
open Str
mutual
theorem txt_len {m : Str} (hm : m.length ≤ 12) : ∀ e : Ex, TxOk e → (txt m e).length ≤ 82 * e.cnt - 2
  | .num n, h => by
    unfold TxOk at h; rw [Ex.Al] at h; rw [txt, Ex.cnt]
    have := intT_len h
    omega
  | .use x, h => by
    unfold TxOk at h; rw [Ex.Al] at h; rw [txt, Ex.cnt]
    omega
  | .op s a b, h => by
    unfold TxOk at h; rw [Ex.Al] at h; rw [txt, Ex.cnt]
    have h1 := txt_len hm a h.2.1
    have h2 := txt_len hm b h.2.2
    have p1 := parT_len (decide (lvlE a < sLvl s + (if sLvl s = 1 then 1 else 0))) (txt m a)
    have p2 := parT_len (decide (lvlE b < sLvl s + 1)) (txt m b)
    have h0 := h.1
    simp only [length_append, wl " " (n := 1)]
    omega
  | .lt x a b, h => by
    unfold TxOk at h; rw [Ex.Al] at h; rw [txt, Ex.cnt]
    have h1 := txt_len hm a h.2.1
    have h2 := txt_len hm b h.2.2
    have h0 := h.1
    simp only [length_append, wl "let " (n := 4), wl " = " (n := 3), wl " in " (n := 4)]
    omega
  | .ite a b c, h => by
    unfold TxOk at h; rw [Ex.Al] at h; rw [txt, Ex.cnt]
    have h1 := txt_len hm a h.1
    have h2 := txt_len hm b h.2.1
    have h3 := txt_len hm c h.2.2
    simp only [length_append, wl "if " (n := 3), wl " then " (n := 6), wl " else " (n := 6)]
    omega
  | .times a i s b c, h => by
    unfold TxOk at h; rw [Ex.Al] at h; rw [txt, Ex.cnt]
    have h1 := txt_len hm a h.2.2.1
    have h2 := txt_len hm b h.2.2.2.1
    have h3 := txt_len hm c h.2.2.2.2
    have g1 := h.1
    have g2 := h.2.1
    simp only [length_append, wl "times " (n := 6), wl " as " (n := 4), wl ", " (n := 2), wl " from " (n := 6), wl " do " (n := 4)]
    omega
  | .tell a b, h => by
    unfold TxOk at h; rw [Ex.Al] at h; rw [txt, Ex.cnt]
    have h1 := txt_len hm a h.1
    have h2 := txt_len hm b h.2
    simp only [length_append, wl "tell " (n := 5), wl " in " (n := 4)]
    omega
  | .stop a, h => by
    unfold TxOk at h; rw [Ex.Al] at h; rw [txt, Ex.cnt]
    have h1 := txt_len hm a h
    simp only [length_append, wl "stop " (n := 5)]
    omega
  | .call n f as, h => by
    unfold TxOk at h; rw [Ex.Al] at h; rw [txt, Ex.cnt]
    have h1 := txts_len hm as h.2.2
    have h2 := join_len ", " (txts m as)
    rw [wl ", " (n := 2)] at h2
    have g1 := h.1
    have g2 := h.2.1
    have h3 : (if n = m then f else n ++ "." ++ f).length ≤ 25 := by
      split
      · omega
      · simp only [length_append, wl "." (n := 1)]; omega
    simp only [length_append, wl "(" (n := 1), wl ")" (n := 1)]
    omega
theorem txts_len {m : Str} (hm : m.length ≤ 12) : ∀ es : List Ex, TxsOk es → ((txts m es).map (·.length)).sum + (txts m es).length * 2 ≤ 82 * Ex.cnts es
  | [], _ => by simp [txts]
  | e :: es, h => by
    unfold TxsOk at h; rw [Ex.Als] at h; rw [txts, Ex.cnts]
    have h1 := txt_len hm e h.1
    have h2 := txts_len hm es h.2
    have h3 := Ex.cnt_pos e
    rw [List.map_cons, List.sum_cons, List.length_cons]
    omega
end
end
end TP
namespace K46
open PySem L2 TP
set_option maxHeartbeats 4000000
theorem eq_ss (N : Store) (a b : Str) : eqD N (.str a) (.str b) = some (.val (.bl (decide (a = b)))) := rfl
theorem add_ss {N : Store} {a b : Str} (h : a.length + b.length ≤ 16777216) : addD N (.str a) (.str b) = some (.val (.str (a ++ b))) := by
  show (if a.length + b.length ≤ sizeLine then _ else _) = _
  rw [szL, if_pos h]
theorem lev_at {s : Str} (h : s ∈ signs) : tabFind k_LEVELS s = some (.int (sLvl s)) := by
  simp only [signs, List.mem_cons, List.not_mem_nil, or_false] at h
  rcases h with rfl | rfl | rfl | rfl | rfl | rfl | rfl <;> rfl
theorem sl_le (s : Str) : 1 ≤ sLvl s ∧ sLvl s ≤ 3 := by
  unfold sLvl
  split
  · omega
  · split <;> omega
theorem level_ok (K : Nat) {e : Ex} (h : ∀ s a b, e = .op s a b → s ∈ signs) (M : Store) : sem (K + 1) f_level_of [e.toD] M = .ok (.val (.int (lvlE e))) M := by
  have i1 : ∀ N, inD N (.str "num") k_FREE = some (.val (.bl false)) := fun N => rfl
  have i2 : ∀ N, inD N (.str "use") k_FREE = some (.val (.bl false)) := fun N => rfl
  have i3 : ∀ N, inD N (.str "op") k_FREE = some (.val (.bl false)) := fun N => rfl
  have i4 : ∀ N, inD N (.str "let") k_FREE = some (.val (.bl true)) := fun N => rfl
  have i5 : ∀ N, inD N (.str "if") k_FREE = some (.val (.bl true)) := fun N => rfl
  have i6 : ∀ N, inD N (.str "times") k_FREE = some (.val (.bl true)) := fun N => rfl
  have i7 : ∀ N, inD N (.str "tell") k_FREE = some (.val (.bl true)) := fun N => rfl
  have i8 : ∀ N, inD N (.str "stop") k_FREE = some (.val (.bl true)) := fun N => rfl
  have i9 : ∀ N, inD N (.str "call") k_FREE = some (.val (.bl false)) := fun N => rfl
  have c1 : ∀ N, eqD N (.str "num") (.str "op") = some (.val (.bl false)) := fun N => eqW (by decide +kernel) N
  have c2 : ∀ N, eqD N (.str "use") (.str "op") = some (.val (.bl false)) := fun N => eqW (by decide +kernel) N
  have c3 : ∀ N, eqD N (.str "op") (.str "op") = some (.val (.bl true)) := fun N => eqW (by decide +kernel) N
  have c9 : ∀ N, eqD N (.str "call") (.str "op") = some (.val (.bl false)) := fun N => eqW (by decide +kernel) N
  rw [e_level_of]
  cases e
  case op s a b =>
    have hl := lev_at (h s a b rfl)
    simp [runF, m_level_of, startD, Ex.toD, i3, c3, hl, lvlE]
  all_goals simp [runF, m_level_of, startD, Ex.toD, i1, i2, i4, i5, i6, i7, i8, i9, c1, c2, c9, lvlE]
end K46
namespace K46
open PySem L2 TP
set_option maxHeartbeats 4000000
theorem w1 : (Str.ofString "(").length = 1 := rfl
theorem w2 : (Str.ofString ")").length = 1 := rfl
theorem w3 : (Str.ofString " ").length = 1 := rfl
theorem w4 : (Str.ofString ".").length = 1 := rfl
theorem w5 : (Str.ofString ", ").length = 2 := rfl
theorem w6 : (Str.ofString "let ").length = 4 := rfl
theorem w7 : (Str.ofString " = ").length = 3 := rfl
theorem w8 : (Str.ofString " in ").length = 4 := rfl
theorem w9 : (Str.ofString "if ").length = 3 := rfl
theorem w10 : (Str.ofString " then ").length = 6 := rfl
theorem w11 : (Str.ofString " else ").length = 6 := rfl
theorem w12 : (Str.ofString "times ").length = 6 := rfl
theorem w13 : (Str.ofString " as ").length = 4 := rfl
theorem w14 : (Str.ofString " from ").length = 6 := rfl
theorem w15 : (Str.ofString " do ").length = 4 := rfl
theorem w16 : (Str.ofString "tell ").length = 5 := rfl
theorem w17 : (Str.ofString "stop ").length = 5 := rfl
theorem side_ok (K : Nat) {m t : Str} {e : Ex} (h : ∀ s a b, e = .op s a b → s ∈ signs) (ht : t.length ≤ 9000000) (l : Int) (M : Store) (hx : sem (K + 1) f_expression_text [.str m, e.toD] M = .ok (.val (.str t)) M) :
    sem (K + 2) f_side_text [.str m, e.toD, .int l] M = .ok (.val (.str (parT (decide (lvlE e < l)) t))) M := by
  have hl := level_ok K h M
  have a1 : addD M (.str "(") (.str t) = some (.val (.str ("(" ++ t))) := add_ss (by (simp only [Str.length_append, w1, w2, w3, w4, w5, w6, w7, w8, w9, w10, w11, w12, w13, w14, w15, w16, w17]; omega))
  have a2 : addD M (.str ("(" ++ t)) (.str ")") = some (.val (.str ("(" ++ t ++ ")"))) := add_ss (by (simp only [Str.length_append, w1, w2, w3, w4, w5, w6, w7, w8, w9, w10, w11, w12, w13, w14, w15, w16, w17]; omega))
  rw [e_side_text]
  generalize e.toD = ED at *
  unfold parT
  by_cases hb : lvlE e < l
  · simp [runF, m_side_text, startD, hx, hl, hb, a1, a2]
  · simp [runF, m_side_text, startD, hx, hl, hb]
theorem sign_ok (K : Nat) {m s ta tb : Str} {a b : Ex} (hs : s ∈ signs) (hsl : s.length ≤ 12) (ha : ta.length ≤ 4000000) (hb : tb.length ≤ 4000000) (M : Store)
    (h1 : ∀ l, sem (K + 2) f_side_text [.str m, a.toD, .int l] M = .ok (.val (.str (parT (decide (lvlE a < l)) ta))) M) (h2 : ∀ l, sem (K + 2) f_side_text [.str m, b.toD, .int l] M = .ok (.val (.str (parT (decide (lvlE b < l)) tb))) M) :
    sem (K + 3) f_sign_text [.str m, (Ex.op s a b).toD] M = .ok (.val (.str (parT (decide (lvlE a < sLvl s + (if sLvl s = 1 then 1 else 0))) ta ++ " " ++ s ++ " " ++ parT (decide (lvlE b < sLvl s + 1)) tb))) M := by
  have hl := lev_at hs
  have p1 := parT_len (decide (lvlE a < sLvl s + (if sLvl s = 1 then 1 else 0))) ta
  have p2 := parT_len (decide (lvlE b < sLvl s + 1)) tb
  have g1 := h1 (sLvl s + (if sLvl s = 1 then 1 else 0))
  have g2 := h2 (sLvl s + 1)
  have s1 : ∀ N x y z w, slD N (.tup [x, y, z, w]) (some 1) none = some (.val (.tup [y, z, w])) := fun _ _ _ _ _ => rfl
  have iq : ∀ N, intD N [.bl (decide (sLvl s = 1))] = some (.val (.int (if sLvl s = 1 then 1 else 0))) := fun N => by
    show some (Slot.val (.int (if decide (sLvl s = 1) = true then 1 else 0))) = _
    simp
  rw [e_sign_text, Ex.toD]
  obtain ⟨q, hq⟩ : ∃ q : Int, (if sLvl s = 1 then 1 else 0) = q := ⟨_, rfl⟩
  rw [hq] at g1 p1 ⊢
  simp only [hq] at iq
  generalize parT (decide (lvlE a < sLvl s + q)) ta = TA at *
  generalize parT (decide (lvlE b < sLvl s + 1)) tb = TB at *
  generalize a.toD = AD at *
  generalize b.toD = BD at *
  have a1 : ∀ N, addD N (.str TA) (.str " ") = some (.val (.str (TA ++ " "))) := fun N => add_ss (by (simp only [Str.length_append, w1, w2, w3, w4, w5, w6, w7, w8, w9, w10, w11, w12, w13, w14, w15, w16, w17]; omega))
  have a2 : ∀ N, addD N (.str (TA ++ " ")) (.str s) = some (.val (.str (TA ++ " " ++ s))) := fun N => add_ss (by (simp only [Str.length_append, w1, w2, w3, w4, w5, w6, w7, w8, w9, w10, w11, w12, w13, w14, w15, w16, w17]; omega))
  have a3 : ∀ N, addD N (.str (TA ++ " " ++ s)) (.str " ") = some (.val (.str (TA ++ " " ++ s ++ " "))) := fun N => add_ss (by (simp only [Str.length_append, w1, w2, w3, w4, w5, w6, w7, w8, w9, w10, w11, w12, w13, w14, w15, w16, w17]; omega))
  have a4 : ∀ N, addD N (.str (TA ++ " " ++ s ++ " ")) (.str TB) = some (.val (.str (TA ++ " " ++ s ++ " " ++ TB))) := fun N => add_ss (by (simp only [Str.length_append, w1, w2, w3, w4, w5, w6, w7, w8, w9, w10, w11, w12, w13, w14, w15, w16, w17]; omega))
  simp [runF, m_sign_text, startD, s1, bTup, bNames, hl, iq, g1, g2, a1, a2, a3, a4]
end K46
namespace K46
open PySem L2 TP
set_option maxHeartbeats 4000000
theorem strsOf_map (ys : List Str) : strsOf (ys.map .str) = some ys := by
  induction ys with
  | nil => rfl
  | cons a l ih => rw [List.map_cons, strsOf, ih]; rfl
theorem join_ok {N : Store} {a : Str} {ys : List Str} (h : (ys.map (·.length)).sum + ys.length * a.length ≤ 16777216) : joinD N (.str a) [.lst (ys.map .str)] = some (.val (.str (Txt.join a ys))) := by
  show (match strsOf (ys.map .str) with | some ys => if (ys.map fun z : Str => z.length).sum + ys.length * a.length ≤ 16777216 then some (Slot.val (.str (Txt.join a ys))) else none | none => none) = _
  rw [strsOf_map]
  simp only
  rw [if_pos h]
theorem join_okT {N : Store} {a : Str} {ys : List Str} (h : (ys.map (·.length)).sum + ys.length * a.length ≤ 16777216) : joinD N (.str a) [.tup (ys.map .str)] = some (.val (.str (Txt.join a ys))) := by
  show (match strsOf (ys.map .str) with | some ys => if (ys.map fun z : Str => z.length).sum + ys.length * a.length ≤ 16777216 then some (Slot.val (.str (Txt.join a ys))) else none | none => none) = _
  rw [strsOf_map]
  simp only
  rw [if_pos h]
theorem ty_str (N : Store) (a : Str) : tyD N (.str a) = some "str" := rfl
theorem call_ok (K : Nat) {m n f : Str} {as : List Ex} (hn : n.length ≤ 12) (hf : f.length ≤ 12) (hl : as.length ≤ 100000) (M : Store) (hj : ((txts m as).map (·.length)).sum + (txts m as).length * 2 ≤ 9000000)
    (h : ∀ e ∈ as, sem K f_expression_text [.str m, e.toD] M = .ok (.val (.str (txt m e))) M) :
    sem (K + 1) f_call_text [.str m, (Ex.call n f as).toD] M = .ok (.val (.str ((if n = m then f else n ++ "." ++ f) ++ "(" ++ Txt.join ", " (txts m as) ++ ")"))) M := by
  have hg : ∀ s2 : Slot, lcGo (bName 3) dYes (el_call_text_0 (sem K)) [.val (.str m), .val (Ex.call n f as).toD, s2, .un] (as.map Ex.toD) [] M = .ok (as.map fun e => .str (txt m e)) M := fun s2 =>
    lcGo_mp Ex.toD (fun e => .str (txt m e)) as (fun e he => ⟨_, rfl, by
      have := h e he
      generalize (Ex.call n f as).toD = CD at *
      simp [el_call_text_0_eq, this]⟩) (by omega)
  have hm : (as.map fun e => D.str (txt m e)) = (txts m as).map .str := by rw [txts_eq, List.map_map]; rfl
  rw [hm] at hg
  have hjn := join_len ", " (txts m as)
  rw [w5] at hjn
  have hjo : ∀ N, joinD N (.str ", ") [.lst ((txts m as).map .str)] = some (.val (.str (Txt.join ", " (txts m as)))) := fun N => join_ok (by rw [w5]; omega)
  rw [e_call_text]
  rw [Ex.toD, Ex.toDs_eq] at *
  obtain ⟨AD, hAD⟩ : ∃ z, as.map Ex.toD = z := ⟨_, rfl⟩
  rw [hAD]
  simp only [hAD] at hg
  generalize (txts m as).map D.str = TD at *
  generalize Txt.join ", " (txts m as) = J at *
  have b1 : ∀ N, addD N (.str n) (.str ".") = some (.val (.str (n ++ "."))) := fun N => add_ss (by (simp only [Str.length_append, w1, w2, w3, w4, w5, w6, w7, w8, w9, w10, w11, w12, w13, w14, w15, w16, w17]; omega))
  have b2 : ∀ N, addD N (.str (n ++ ".")) (.str f) = some (.val (.str (n ++ "." ++ f))) := fun N => add_ss (by (simp only [Str.length_append, w1, w2, w3, w4, w5, w6, w7, w8, w9, w10, w11, w12, w13, w14, w15, w16, w17]; omega))
  obtain ⟨c, hc, hcl⟩ : ∃ c : Str, (if n = m then f else n ++ "." ++ f) = c ∧ c.length ≤ 30 := ⟨_, rfl, by
    split
    · omega
    · (simp only [Str.length_append, w1, w2, w3, w4, w5, w6, w7, w8, w9, w10, w11, w12, w13, w14, w15, w16, w17]; omega)⟩
  have a1 : ∀ N, addD N (.str c) (.str "(") = some (.val (.str (c ++ "("))) := fun N => add_ss (by (simp only [Str.length_append, w1, w2, w3, w4, w5, w6, w7, w8, w9, w10, w11, w12, w13, w14, w15, w16, w17]; omega))
  have a2 : ∀ N, addD N (.str (c ++ "(")) (.str J) = some (.val (.str (c ++ "(" ++ J))) := fun N => add_ss (by (simp only [Str.length_append, w1, w2, w3, w4, w5, w6, w7, w8, w9, w10, w11, w12, w13, w14, w15, w16, w17]; omega))
  have a3 : ∀ N, addD N (.str (c ++ "(" ++ J)) (.str ")") = some (.val (.str (c ++ "(" ++ J ++ ")"))) := fun N => add_ss (by (simp only [Str.length_append, w1, w2, w3, w4, w5, w6, w7, w8, w9, w10, w11, w12, w13, w14, w15, w16, w17]; omega))
  rw [hc]
  by_cases hq : n = m
  · rw [if_pos hq] at hc
    subst hc
    subst hq
    simp [runF, m_call_text, startD, eq_ss, itemsD, wipeD, hg, hjo, a1, a2, a3, ty_str]
  · rw [if_neg hq] at hc
    subst hc
    simp [runF, m_call_text, startD, eq_ss, hq, b1, b2, itemsD, wipeD, hg, hjo, a1, a2, a3, ty_str]
end K46
namespace K46
open PySem L2 TP
set_option maxHeartbeats 4000000
mutual
/-- all its signs are signs -/
def Sg : Ex → Prop
  | .num _ => True
  | .use _ => True
  | .op s a b => s ∈ signs ∧ Sg a ∧ Sg b
  | .lt _ a b => Sg a ∧ Sg b
  | .ite a b c => Sg a ∧ Sg b ∧ Sg c
  | .times a _ _ b c => Sg a ∧ Sg b ∧ Sg c
  | .tell a b => Sg a ∧ Sg b
  | .stop a => Sg a
  | .call _ _ as => Sgs as
def Sgs : List Ex → Prop
  | [] => True
  | e :: es => Sg e ∧ Sgs es
end
theorem sgs_mem : ∀ {es : List Ex}, Sgs es → ∀ e ∈ es, Sg e
  | [], _, e, he => absurd he List.not_mem_nil
  | x :: xs, h, e, he => by
    rw [Sgs] at h
    rcases List.mem_cons.mp he with rfl | he
    · exact h.1
    · exact sgs_mem h.2 e he
theorem sg_op {e : Ex} (h : Sg e) : ∀ s a b, e = .op s a b → s ∈ signs := fun s a b he => by
  subst he
  rw [Sg] at h
  exact h.1
theorem sg_part {e p : Ex} (h : Sg e) (hp : p ∈ e.parts) : Sg p := by
  cases e <;> simp only [Ex.parts, List.mem_cons, List.not_mem_nil, or_false] at hp <;> rw [Sg] at h
  case op => rcases hp with rfl | rfl; exact h.2.1; exact h.2.2
  case lt => rcases hp with rfl | rfl; exact h.1; exact h.2
  case ite => rcases hp with rfl | rfl | rfl; exact h.1; exact h.2.1; exact h.2.2
  case times => rcases hp with rfl | rfl | rfl; exact h.1; exact h.2.1; exact h.2.2
  case tell => rcases hp with rfl | rfl; exact h.1; exact h.2
  case stop => subst hp; exact h
  case call => exact sgs_mem h p hp
theorem str_num (M : Store) {i : Int} (h : i.natAbs < 10 ^ 31) : strD M [.int i] = some (.val (.str (intT i))) := by
  have h1 : i.natAbs.log2 < 1920 := by
    have h1 : i.natAbs < 2 ^ 1920 := Nat.lt_of_lt_of_le h (by decide +kernel)
    by_cases h0 : i.natAbs = 0
    · rw [h0]; decide
    · exact (Nat.log2_lt h0).mpr h1
  rw [strD_int, if_pos h1]
  rfl
theorem text_ok : ∀ (n : Nat) (e : Ex) (K : Nat) {m : Str}, m.length ≤ 12 → e.dep ≤ n → TxOk e → Sg e → e.cnt ≤ 40000 → ∀ M, sem (K + 3 * n + 3) f_expression_text [.str m, e.toD] M = .ok (.val (.str (txt m e))) M
  | n, e, K, m, hm, hd, ht, hg, hc, M => by
    have hlen := txt_len hm e ht
    have hpl := Ex.parts_len (e := e)
    -- the parts
    have ih : ∀ p ∈ e.parts, ∀ L M, L ≥ 3 * n → sem L f_expression_text [.str m, p.toD] M = .ok (.val (.str (txt m p))) M := fun p hp L M hL => by
      have h1 := Ex.parts_dep hp
      have h2 := Ex.parts_cnt hp
      obtain ⟨k, rfl⟩ : ∃ k, n = k + 1 := ⟨n - 1, by omega⟩
      have := text_ok k p (L - 3 * (k + 1)) hm (by omega) (Ex.als_mem (Ex.als_parts ht) p hp) (sg_part hg hp) (by omega) M
      rwa [show L - 3 * (k + 1) + 3 * k + 3 = L by omega] at this
    have ihl : ∀ p ∈ e.parts, (txt m p).length ≤ 82 * p.cnt - 2 ∧ p.cnt < e.cnt := fun p hp => ⟨txt_len hm p (Ex.als_mem (Ex.als_parts ht) p hp), Ex.parts_cnt hp⟩
    have i1 : ∀ N, inD N (.str "num") (.tup [.str "num", .str "use"]) = some (.val (.bl true)) := fun N => rfl
    have i2 : ∀ N, inD N (.str "use") (.tup [.str "num", .str "use"]) = some (.val (.bl true)) := fun N => rfl
    have i3 : ∀ N, inD N (.str "op") (.tup [.str "num", .str "use"]) = some (.val (.bl false)) := fun N => rfl
    have i4 : ∀ N, inD N (.str "let") (.tup [.str "num", .str "use"]) = some (.val (.bl false)) := fun N => rfl
    have i5 : ∀ N, inD N (.str "if") (.tup [.str "num", .str "use"]) = some (.val (.bl false)) := fun N => rfl
    have i6 : ∀ N, inD N (.str "times") (.tup [.str "num", .str "use"]) = some (.val (.bl false)) := fun N => rfl
    have i7 : ∀ N, inD N (.str "tell") (.tup [.str "num", .str "use"]) = some (.val (.bl false)) := fun N => rfl
    have i8 : ∀ N, inD N (.str "stop") (.tup [.str "num", .str "use"]) = some (.val (.bl false)) := fun N => rfl
    have i9 : ∀ N, inD N (.str "call") (.tup [.str "num", .str "use"]) = some (.val (.bl false)) := fun N => rfl
    unfold TxOk at ht
    rw [e_expression_text]
    cases e with
    | num v =>
      rw [Ex.Al] at ht
      have := fun N => str_num N ht
      simp [-strD_int, runF, m_expression_text, startD, Ex.toD, i1, this, txt]
    | use x => simp [runF, m_expression_text, startD, Ex.toD, i2, txt]
    | op s a b =>
      rw [Ex.Al] at ht
      rw [Sg] at hg
      rw [Ex.dep] at hd
      obtain ⟨k, rfl⟩ : ∃ k, n = k + 1 := ⟨n - 1, by omega⟩
      have l1 := ihl a (by simp [Ex.parts])
      have l2 := ihl b (by simp [Ex.parts])
      have h := sign_ok (K + 3 * k + 2) (m := m) (ta := txt m a) (tb := txt m b) hg.1 ht.1 (by omega) (by omega) M
        (fun l => side_ok (K + 3 * k + 2) (sg_op hg.2.1) (by omega) l M (ih a (by simp [Ex.parts]) _ M (by omega))) (fun l => side_ok (K + 3 * k + 2) (sg_op hg.2.2) (by omega) l M (ih b (by simp [Ex.parts]) _ M (by omega)))
      have h' : sem (K + 3 * (k + 1) + 2) f_sign_text [.str m, (Ex.op s a b).toD] M = _ := h
      rw [txt]
      rw [Ex.toD] at h' ⊢
      generalize a.toD = AD at *
      generalize b.toD = BD at *
      simp [runF, m_expression_text, startD, i3, h']
    | lt x a b =>
      rw [Ex.Al] at ht
      have l1 := ihl a (by simp [Ex.parts])
      have l2 := ihl b (by simp [Ex.parts])
      have g1 := ih a (by simp [Ex.parts]) (K + 3 * n + 2) M (by omega)
      have g2 := ih b (by simp [Ex.parts]) (K + 3 * n + 2) M (by omega)
      have hx := ht.1
      rw [txt, Ex.toD]
      generalize txt m a = ta at *
      generalize txt m b = tb at *
      generalize a.toD = AD at *
      generalize b.toD = BD at *
      have s2 : ∀ N, slD N (.tup [.str "let", .str x, AD, BD]) (some 2) none = some (.val (.tup [AD, BD])) := fun _ => rfl
      have iq : ∀ N, intD N [.bl true] = some (.val (.int 1)) := fun _ => rfl
      have a1 : ∀ N, addD N (.str "let ") (.str x) = some (.val (.str ("let " ++ x))) := fun N => add_ss (by (simp only [Str.length_append, w1, w2, w3, w4, w5, w6, w7, w8, w9, w10, w11, w12, w13, w14, w15, w16, w17]; omega))
      have a2 : ∀ N, addD N (.str ("let " ++ x)) (.str " = ") = some (.val (.str ("let " ++ x ++ " = "))) := fun N => add_ss (by (simp only [Str.length_append, w1, w2, w3, w4, w5, w6, w7, w8, w9, w10, w11, w12, w13, w14, w15, w16, w17]; omega))
      have a3 : ∀ N, addD N (.str ("let " ++ x ++ " = ")) (.str ta) = some (.val (.str ("let " ++ x ++ " = " ++ ta))) := fun N => add_ss (by (simp only [Str.length_append, w1, w2, w3, w4, w5, w6, w7, w8, w9, w10, w11, w12, w13, w14, w15, w16, w17]; omega))
      have a4 : ∀ N, addD N (.str ("let " ++ x ++ " = " ++ ta)) (.str " in ") = some (.val (.str ("let " ++ x ++ " = " ++ ta ++ " in "))) := fun N => add_ss (by (simp only [Str.length_append, w1, w2, w3, w4, w5, w6, w7, w8, w9, w10, w11, w12, w13, w14, w15, w16, w17]; omega))
      have a5 : ∀ N, addD N (.str ("let " ++ x ++ " = " ++ ta ++ " in ")) (.str tb) = some (.val (.str ("let " ++ x ++ " = " ++ ta ++ " in " ++ tb))) := fun N => add_ss (by (simp only [Str.length_append, w1, w2, w3, w4, w5, w6, w7, w8, w9, w10, w11, w12, w13, w14, w15, w16, w17]; omega))
      simp [runF, m_expression_text, startD, i4, iq, s2, itemsD, wipeD, lcGo, bName, el_expression_text_1_eq, g1, g2, a1, a2, a3, a4, a5]
    | ite a b c =>
      rw [Ex.Al] at ht
      have l1 := ihl a (by simp [Ex.parts])
      have l2 := ihl b (by simp [Ex.parts])
      have l3 := ihl c (by simp [Ex.parts])
      have g1 := ih a (by simp [Ex.parts]) (K + 3 * n + 2) M (by omega)
      have g2 := ih b (by simp [Ex.parts]) (K + 3 * n + 2) M (by omega)
      have g3 := ih c (by simp [Ex.parts]) (K + 3 * n + 2) M (by omega)
      rw [txt, Ex.toD]
      generalize txt m a = ta at *
      generalize txt m b = tb at *
      generalize txt m c = tc at *
      generalize a.toD = AD at *
      generalize b.toD = BD at *
      generalize c.toD = CD at *
      have s2 : ∀ N, slD N (.tup [.str "if", AD, BD, CD]) (some 1) none = some (.val (.tup [AD, BD, CD])) := fun _ => rfl
      have iq : ∀ N, intD N [.bl false] = some (.val (.int 0)) := fun _ => rfl
      have a1 : ∀ N, addD N (.str "if ") (.str ta) = some (.val (.str ("if " ++ ta))) := fun N => add_ss (by (simp only [Str.length_append, w1, w2, w3, w4, w5, w6, w7, w8, w9, w10, w11, w12, w13, w14, w15, w16, w17]; omega))
      have a2 : ∀ N, addD N (.str ("if " ++ ta)) (.str " then ") = some (.val (.str ("if " ++ ta ++ " then "))) := fun N => add_ss (by (simp only [Str.length_append, w1, w2, w3, w4, w5, w6, w7, w8, w9, w10, w11, w12, w13, w14, w15, w16, w17]; omega))
      have a3 : ∀ N, addD N (.str ("if " ++ ta ++ " then ")) (.str tb) = some (.val (.str ("if " ++ ta ++ " then " ++ tb))) := fun N => add_ss (by (simp only [Str.length_append, w1, w2, w3, w4, w5, w6, w7, w8, w9, w10, w11, w12, w13, w14, w15, w16, w17]; omega))
      have a4 : ∀ N, addD N (.str ("if " ++ ta ++ " then " ++ tb)) (.str " else ") = some (.val (.str ("if " ++ ta ++ " then " ++ tb ++ " else "))) := fun N => add_ss (by (simp only [Str.length_append, w1, w2, w3, w4, w5, w6, w7, w8, w9, w10, w11, w12, w13, w14, w15, w16, w17]; omega))
      have a5 : ∀ N, addD N (.str ("if " ++ ta ++ " then " ++ tb ++ " else ")) (.str tc) = some (.val (.str ("if " ++ ta ++ " then " ++ tb ++ " else " ++ tc))) := fun N => add_ss (by (simp only [Str.length_append, w1, w2, w3, w4, w5, w6, w7, w8, w9, w10, w11, w12, w13, w14, w15, w16, w17]; omega))
      simp [runF, m_expression_text, startD, i5, iq, s2, itemsD, wipeD, lcGo, bName, el_expression_text_1_eq, g1, g2, g3, a1, a2, a3, a4, a5]
    | times a i s b c =>
      rw [Ex.Al] at ht
      have l1 := ihl a (by simp [Ex.parts])
      have l2 := ihl b (by simp [Ex.parts])
      have l3 := ihl c (by simp [Ex.parts])
      have g1 := ih a (by simp [Ex.parts]) (K + 3 * n + 2) M (by omega)
      have g2 := ih b (by simp [Ex.parts]) (K + 3 * n + 2) M (by omega)
      have g3 := ih c (by simp [Ex.parts]) (K + 3 * n + 2) M (by omega)
      have hi := ht.1
      have hs := ht.2.1
      rw [txt, Ex.toD]
      generalize txt m a = ta at *
      generalize txt m b = tb at *
      generalize txt m c = tc at *
      generalize a.toD = AD at *
      generalize b.toD = BD at *
      generalize c.toD = CD at *
      have a1 : ∀ N, addD N (.str "times ") (.str ta) = some (.val (.str ("times " ++ ta))) := fun N => add_ss (by (simp only [Str.length_append, w1, w2, w3, w4, w5, w6, w7, w8, w9, w10, w11, w12, w13, w14, w15, w16, w17]; omega))
      have a2 : ∀ N, addD N (.str ("times " ++ ta)) (.str " as ") = some (.val (.str ("times " ++ ta ++ " as "))) := fun N => add_ss (by (simp only [Str.length_append, w1, w2, w3, w4, w5, w6, w7, w8, w9, w10, w11, w12, w13, w14, w15, w16, w17]; omega))
      have a3 : ∀ N, addD N (.str ("times " ++ ta ++ " as ")) (.str i) = some (.val (.str ("times " ++ ta ++ " as " ++ i))) := fun N => add_ss (by (simp only [Str.length_append, w1, w2, w3, w4, w5, w6, w7, w8, w9, w10, w11, w12, w13, w14, w15, w16, w17]; omega))
      have a4 : ∀ N, addD N (.str ("times " ++ ta ++ " as " ++ i)) (.str ", ") = some (.val (.str ("times " ++ ta ++ " as " ++ i ++ ", "))) := fun N => add_ss (by (simp only [Str.length_append, w1, w2, w3, w4, w5, w6, w7, w8, w9, w10, w11, w12, w13, w14, w15, w16, w17]; omega))
      have a5 : ∀ N, addD N (.str ("times " ++ ta ++ " as " ++ i ++ ", ")) (.str s) = some (.val (.str ("times " ++ ta ++ " as " ++ i ++ ", " ++ s))) := fun N => add_ss (by (simp only [Str.length_append, w1, w2, w3, w4, w5, w6, w7, w8, w9, w10, w11, w12, w13, w14, w15, w16, w17]; omega))
      have a6 : ∀ N, addD N (.str ("times " ++ ta ++ " as " ++ i ++ ", " ++ s)) (.str " from ") = some (.val (.str ("times " ++ ta ++ " as " ++ i ++ ", " ++ s ++ " from "))) := fun N => add_ss (by (simp only [Str.length_append, w1, w2, w3, w4, w5, w6, w7, w8, w9, w10, w11, w12, w13, w14, w15, w16, w17]; omega))
      have a7 : ∀ N, addD N (.str ("times " ++ ta ++ " as " ++ i ++ ", " ++ s ++ " from ")) (.str tb) = some (.val (.str ("times " ++ ta ++ " as " ++ i ++ ", " ++ s ++ " from " ++ tb))) := fun N => add_ss (by (simp only [Str.length_append, w1, w2, w3, w4, w5, w6, w7, w8, w9, w10, w11, w12, w13, w14, w15, w16, w17]; omega))
      have a8 : ∀ N, addD N (.str ("times " ++ ta ++ " as " ++ i ++ ", " ++ s ++ " from " ++ tb)) (.str " do ") = some (.val (.str ("times " ++ ta ++ " as " ++ i ++ ", " ++ s ++ " from " ++ tb ++ " do "))) := fun N => add_ss (by (simp only [Str.length_append, w1, w2, w3, w4, w5, w6, w7, w8, w9, w10, w11, w12, w13, w14, w15, w16, w17]; omega))
      have a9 : ∀ N, addD N (.str ("times " ++ ta ++ " as " ++ i ++ ", " ++ s ++ " from " ++ tb ++ " do ")) (.str tc) = some (.val (.str ("times " ++ ta ++ " as " ++ i ++ ", " ++ s ++ " from " ++ tb ++ " do " ++ tc))) := fun N => add_ss (by (simp only [Str.length_append, w1, w2, w3, w4, w5, w6, w7, w8, w9, w10, w11, w12, w13, w14, w15, w16, w17]; omega))
      simp [runF, m_expression_text, startD, i6, itemsD, wipeD, lcGo, bName, bLst, bNames, el_expression_text_0_eq, g1, g2, g3, a1, a2, a3, a4, a5, a6, a7, a8, a9]
    | tell a b =>
      rw [Ex.Al] at ht
      have l1 := ihl a (by simp [Ex.parts])
      have l2 := ihl b (by simp [Ex.parts])
      have g1 := ih a (by simp [Ex.parts]) (K + 3 * n + 2) M (by omega)
      have g2 := ih b (by simp [Ex.parts]) (K + 3 * n + 2) M (by omega)
      rw [txt, Ex.toD]
      generalize txt m a = ta at *
      generalize txt m b = tb at *
      generalize a.toD = AD at *
      generalize b.toD = BD at *
      have s2 : ∀ N, slD N (.tup [.str "tell", AD, BD]) (some 1) none = some (.val (.tup [AD, BD])) := fun _ => rfl
      have iq : ∀ N, intD N [.bl false] = some (.val (.int 0)) := fun _ => rfl
      have a1 : ∀ N, addD N (.str "tell ") (.str ta) = some (.val (.str ("tell " ++ ta))) := fun N => add_ss (by (simp only [Str.length_append, w1, w2, w3, w4, w5, w6, w7, w8, w9, w10, w11, w12, w13, w14, w15, w16, w17]; omega))
      have a2 : ∀ N, addD N (.str ("tell " ++ ta)) (.str " in ") = some (.val (.str ("tell " ++ ta ++ " in "))) := fun N => add_ss (by (simp only [Str.length_append, w1, w2, w3, w4, w5, w6, w7, w8, w9, w10, w11, w12, w13, w14, w15, w16, w17]; omega))
      have a3 : ∀ N, addD N (.str ("tell " ++ ta ++ " in ")) (.str tb) = some (.val (.str ("tell " ++ ta ++ " in " ++ tb))) := fun N => add_ss (by (simp only [Str.length_append, w1, w2, w3, w4, w5, w6, w7, w8, w9, w10, w11, w12, w13, w14, w15, w16, w17]; omega))
      simp [runF, m_expression_text, startD, i7, iq, s2, itemsD, wipeD, lcGo, bName, el_expression_text_1_eq, g1, g2, a1, a2, a3]
    | stop a =>
      rw [Ex.Al] at ht
      have l1 := ihl a (by simp [Ex.parts])
      have g1 := ih a (by simp [Ex.parts]) (K + 3 * n + 2) M (by omega)
      rw [txt, Ex.toD]
      generalize txt m a = ta at *
      generalize a.toD = AD at *
      have s2 : ∀ N, slD N (.tup [.str "stop", AD]) (some 1) none = some (.val (.tup [AD])) := fun _ => rfl
      have iq : ∀ N, intD N [.bl false] = some (.val (.int 0)) := fun _ => rfl
      have a1 : ∀ N, addD N (.str "stop ") (.str ta) = some (.val (.str ("stop " ++ ta))) := fun N => add_ss (by (simp only [Str.length_append, w1, w2, w3, w4, w5, w6, w7, w8, w9, w10, w11, w12, w13, w14, w15, w16, w17]; omega))
      simp [runF, m_expression_text, startD, i8, iq, s2, itemsD, wipeD, lcGo, bName, el_expression_text_1_eq, g1, a1]
    | call f g as =>
      rw [Ex.Al] at ht
      have l1 := txts_len hm as ht.2.2
      have hcc := Ex.cnt_eq (.call f g as)
      have hpp : (Ex.call f g as).parts = as := rfl
      rw [hpp] at hcc hpl ih
      have h := call_ok (K + 3 * n + 1) (m := m) ht.1 ht.2.1 (by omega) M (by omega) (fun e he => ih e he _ M (by omega))
      rw [txt]
      rw [Ex.toD] at h ⊢
      generalize Ex.toDs as = AD at *
      simp [runF, m_expression_text, startD, i9, h]
end K46
namespace K46
open PySem L2 TP
set_option maxHeartbeats 4000000
theorem llevel_ok (K : Nat) {e : Ex} (h : ∀ s a b, e = .op s a b → s ∈ signs) (M : Store) : ∃ X, sem (K + 1) f__law_level [e.toD] M = .ok (.val (.int (lvlE e))) (M ++ X) := by
  have i1 : ∀ N, inD N (.str "num") (.tup [.str "let", .str "if", .str "times", .str "tell", .str "stop"]) = some (.val (.bl false)) := fun N => rfl
  have i2 : ∀ N, inD N (.str "use") (.tup [.str "let", .str "if", .str "times", .str "tell", .str "stop"]) = some (.val (.bl false)) := fun N => rfl
  have i3 : ∀ N, inD N (.str "op") (.tup [.str "let", .str "if", .str "times", .str "tell", .str "stop"]) = some (.val (.bl false)) := fun N => rfl
  have i4 : ∀ N, inD N (.str "let") (.tup [.str "let", .str "if", .str "times", .str "tell", .str "stop"]) = some (.val (.bl true)) := fun N => rfl
  have i5 : ∀ N, inD N (.str "if") (.tup [.str "let", .str "if", .str "times", .str "tell", .str "stop"]) = some (.val (.bl true)) := fun N => rfl
  have i6 : ∀ N, inD N (.str "times") (.tup [.str "let", .str "if", .str "times", .str "tell", .str "stop"]) = some (.val (.bl true)) := fun N => rfl
  have i7 : ∀ N, inD N (.str "tell") (.tup [.str "let", .str "if", .str "times", .str "tell", .str "stop"]) = some (.val (.bl true)) := fun N => rfl
  have i8 : ∀ N, inD N (.str "stop") (.tup [.str "let", .str "if", .str "times", .str "tell", .str "stop"]) = some (.val (.bl true)) := fun N => rfl
  have i9 : ∀ N, inD N (.str "call") (.tup [.str "let", .str "if", .str "times", .str "tell", .str "stop"]) = some (.val (.bl false)) := fun N => rfl
  obtain ⟨Y, hY⟩ : ∃ Y : List (Key × D), mergeD ["=", "<", "+", "-"] [.int 1, .int 1, .int 2, .int 2] = Y := ⟨_, rfl⟩
  rw [e__law_level]
  cases e
  case op s a b =>
    have hl : ∃ o, lookD Y (.inr s) = o ∧ (o = some (.int (sLvl s)) ∨ (o = none ∧ sLvl s = 3)) := by
      rw [← hY]
      have hs := h s a b rfl
      simp only [signs, List.mem_cons, List.not_mem_nil, or_false] at hs
      rcases hs with rfl | rfl | rfl | rfl | rfl | rfl | rfl
      · exact ⟨_, rfl, .inl rfl⟩
      · exact ⟨_, rfl, .inl rfl⟩
      · exact ⟨_, rfl, .inr ⟨rfl, rfl⟩⟩
      · exact ⟨_, rfl, .inl rfl⟩
      · exact ⟨_, rfl, .inl rfl⟩
      · exact ⟨_, rfl, .inr ⟨rfl, rfl⟩⟩
      · exact ⟨_, rfl, .inr ⟨rfl, rfl⟩⟩
    obtain ⟨o, ho, hh⟩ := hl
    refine ⟨[.dK Y], ?_⟩
    rcases hh with rfl | ⟨rfl, h3⟩
    · simp [runF, m__law_level, startD, Ex.toD, i3, dVals, hY, dGet2, dGetO, isDD, at_end, keyD, ho, lvlE]
    · simp [runF, m__law_level, startD, Ex.toD, i3, dVals, hY, dGet2, dGetO, isDD, at_end, keyD, ho, lvlE, h3]
  all_goals exact ⟨[], by simp [runF, m__law_level, startD, Ex.toD, i1, i2, i4, i5, i6, i7, i8, i9, lvlE]⟩
theorem ne_nil (N : Store) : neD N (.lst []) (.lst []) = some (.val (.bl false)) := rfl
theorem lside_ok (K : Nat) {m t : Str} {e : Ex} (h : ∀ s a b, e = .op s a b → s ∈ signs) (ht : t.length ≤ 9000000) (l : Int) (M X : Store) (hx : sem (K + 1) f__law_text [.str m, e.toD, .lst []] M = .ok (.val (.str t)) (M ++ X)) :
    ∃ X, sem (K + 2) f__law_side [.str m, e.toD, .int l, .lst []] M = .ok (.val (.str (parT (decide (lvlE e < l)) t))) (M ++ X) := by
  obtain ⟨X2, hl⟩ := llevel_ok K h (M ++ X)
  have a1 : ∀ N, addD N (.str "(") (.str t) = some (.val (.str ("(" ++ t))) := fun N => add_ss (by (simp only [Str.length_append, w1, w2, w3, w4, w5, w6, w7, w8, w9, w10, w11, w12, w13, w14, w15, w16, w17]; omega))
  have a2 : ∀ N, addD N (.str ("(" ++ t)) (.str ")") = some (.val (.str ("(" ++ t ++ ")"))) := fun N => add_ss (by (simp only [Str.length_append, w1, w2, w3, w4, w5, w6, w7, w8, w9, w10, w11, w12, w13, w14, w15, w16, w17]; omega))
  refine ⟨X ++ X2, ?_⟩
  rw [e__law_side, ← List.append_assoc]
  generalize e.toD = ED at *
  unfold parT
  by_cases hb : lvlE e < l
  · simp [-List.append_assoc, runF, m__law_side, startD, hx, hl, hb, a1, a2, ne_nil]
  · simp [-List.append_assoc, runF, m__law_side, startD, hx, hl, hb, ne_nil]
theorem lfree_ok (K : Nat) {m t : Str} {e : Ex} (M X : Store) (hx : sem K f__law_text [.str m, e.toD, .lst []] M = .ok (.val (.str t)) (M ++ X)) :
    sem (K + 1) f__law_free_text [.str m, e.toD, .lst []] M = .ok (.val (.str t)) (M ++ X) := by
  rw [e__law_free_text]
  generalize e.toD = ED at *
  simp [-List.append_assoc, runF, m__law_free_text, startD, hx, ne_nil]
end K46
namespace K46
open PySem L2 TP
set_option maxHeartbeats 4000000
theorem lcGo_st {b : D → EnvD → Option EnvD} {f : FD} {ρ0 : EnvD} (I : Nat → List D → Store → Prop) (items : List D) {M : Store} (h0 : I 0 [] M)
    (step : ∀ i d acc N, items[i]? = some d → I i acc N → ∃ ρ1 y N', b d ρ0 = some ρ1 ∧ f ρ1 N = .ok y N' ∧ acc.length < sizeLine ∧ I (i + 1) (acc ++ [y]) N') : ∃ res M', lcGo b dYes f ρ0 items [] M = .ok res M' ∧ I items.length res M' := by
  have key : ∀ (k : Nat) (xs : List D) (i : Nat) (acc : List D) (N : Store), xs.length = k → xs = items.drop i → i + k = items.length → I i acc N → ∃ res M', lcGo b dYes f ρ0 xs acc N = .ok res M' ∧ I items.length res M' := by
    intro k
    induction k with
    | zero =>
      intro xs i acc N hl hd hi hI
      have : xs = [] := List.eq_nil_of_length_eq_zero hl
      subst this
      rw [show items.length = i by omega]
      exact ⟨acc, N, rfl, hI⟩
    | succ k ih =>
      intro xs i acc N hl hd hi hI
      have hlt : i < items.length := by omega
      rw [List.drop_eq_getElem_cons hlt] at hd
      subst hd
      obtain ⟨ρ1, y, N', h1, h2, h3, h4⟩ := step i items[i] acc N (List.getElem?_eq_getElem hlt) hI
      obtain ⟨res, M', g1, g2⟩ := ih (items.drop (i + 1)) (i + 1) (acc ++ [y]) N' (by rw [List.length_drop]; omega) rfl (by omega) h4
      refine ⟨res, M', ?_, g2⟩
      unfold lcGo
      rw [h1]
      simp only [dYes, h2, h3, if_true]
      exact g1
  exact key items.length items 0 [] M rfl rfl (by omega) h0
theorem lsign_ok (K : Nat) {m s ta tb : Str} {a b : Ex} (hs : s ∈ signs) (hsl : s.length ≤ 12) (ha : ta.length ≤ 4000000) (hb : tb.length ≤ 4000000) (M : Store)
    (h1 : ∀ l M, ∃ X, sem (K + 2) f__law_side [.str m, a.toD, .int l, .lst []] M = .ok (.val (.str (parT (decide (lvlE a < l)) ta))) (M ++ X)) (h2 : ∀ l M, ∃ X, sem (K + 2) f__law_side [.str m, b.toD, .int l, .lst []] M = .ok (.val (.str (parT (decide (lvlE b < l)) tb))) (M ++ X)) :
    ∃ X, sem (K + 3) f__law_text [.str m, (Ex.op s a b).toD, .lst []] M = .ok (.val (.str (parT (decide (lvlE a < sLvl s + (if sLvl s = 1 then 1 else 0))) ta ++ " " ++ s ++ " " ++ parT (decide (lvlE b < sLvl s + 1)) tb))) (M ++ X) := by
  have p1 := parT_len (decide (lvlE a < sLvl s + (if sLvl s = 1 then 1 else 0))) ta
  have p2 := parT_len (decide (lvlE b < sLvl s + 1)) tb
  obtain ⟨X0, hl⟩ := llevel_ok (K + 1) (e := .op s a b) (fun s' a' b' h => by cases h; exact hs) M
  obtain ⟨X1, g1⟩ := h1 (sLvl s + (if sLvl s = 1 then 1 else 0)) (M ++ X0)
  obtain ⟨X2, g2⟩ := h2 (sLvl s + 1) (M ++ X0 ++ X1)
  have i3 : ∀ N, inD N (.str "op") (.tup [.str "num", .str "use"]) = some (.val (.bl false)) := fun N => rfl
  have iq : ∀ N, intD N [.bl (decide (sLvl s = 1))] = some (.val (.int (if sLvl s = 1 then 1 else 0))) := fun N => by
    show some (Slot.val (.int (if decide (sLvl s = 1) = true then 1 else 0))) = _
    simp
  refine ⟨X0 ++ X1 ++ X2, ?_⟩
  rw [e__law_text, ← List.append_assoc, ← List.append_assoc]
  rw [show lvlE (.op s a b) = sLvl s from rfl] at hl
  rw [Ex.toD] at hl ⊢
  obtain ⟨q, hq⟩ : ∃ q : Int, (if sLvl s = 1 then 1 else 0) = q := ⟨_, rfl⟩
  rw [hq] at g1 p1 ⊢
  simp only [hq] at iq
  generalize parT (decide (lvlE a < sLvl s + q)) ta = TA at *
  generalize parT (decide (lvlE b < sLvl s + 1)) tb = TB at *
  generalize a.toD = AD at *
  generalize b.toD = BD at *
  have a1 : ∀ N, addD N (.str TA) (.str " ") = some (.val (.str (TA ++ " "))) := fun N => add_ss (by (simp only [Str.length_append, w1, w2, w3, w4, w5, w6, w7, w8, w9, w10, w11, w12, w13, w14, w15, w16, w17]; omega))
  have a2 : ∀ N, addD N (.str (TA ++ " ")) (.str s) = some (.val (.str (TA ++ " " ++ s))) := fun N => add_ss (by (simp only [Str.length_append, w1, w2, w3, w4, w5, w6, w7, w8, w9, w10, w11, w12, w13, w14, w15, w16, w17]; omega))
  have a3 : ∀ N, addD N (.str (TA ++ " " ++ s)) (.str " ") = some (.val (.str (TA ++ " " ++ s ++ " "))) := fun N => add_ss (by (simp only [Str.length_append, w1, w2, w3, w4, w5, w6, w7, w8, w9, w10, w11, w12, w13, w14, w15, w16, w17]; omega))
  have a4 : ∀ N, addD N (.str (TA ++ " " ++ s ++ " ")) (.str TB) = some (.val (.str (TA ++ " " ++ s ++ " " ++ TB))) := fun N => add_ss (by (simp only [Str.length_append, w1, w2, w3, w4, w5, w6, w7, w8, w9, w10, w11, w12, w13, w14, w15, w16, w17]; omega))
  simp [-List.append_assoc, runF, m__law_text, startD, i3, hl, iq, g1, g2, a1, a2, a3, a4]
theorem lcall_ok (K : Nat) {m n f : Str} {as : List Ex} (hn : n.length ≤ 12) (hf : f.length ≤ 12) (hl : as.length ≤ 100000) (M : Store) (hj : ((txts m as).map (·.length)).sum + (txts m as).length * 2 ≤ 9000000)
    (h : ∀ e ∈ as, ∀ M, ∃ X, sem K f__law_free_text [.str m, e.toD, .lst []] M = .ok (.val (.str (txt m e))) (M ++ X)) :
    ∃ X, sem (K + 1) f__law_text [.str m, (Ex.call n f as).toD, .lst []] M = .ok (.val (.str ((if n = m then f else n ++ "." ++ f) ++ "(" ++ Txt.join ", " (txts m as) ++ ")"))) (M ++ X) := by
  have hg : ∀ s7 : Slot, ∃ X, lcGo (bName 9) dYes (el__law_text_0 (sem K)) [.val (.str m), .val (Ex.call n f as).toD, .val (.lst []), .un, .un, .un, .un, s7, .un, .un, .un, .un] (as.map Ex.toD) [] M = .ok ((txts m as).map .str) (M ++ X) := fun s7 => by
    obtain ⟨res, M', g, hr, X, hX⟩ := lcGo_st (b := bName 9) (f := el__law_text_0 (sem K)) (ρ0 := [.val (.str m), .val (Ex.call n f as).toD, .val (.lst []), .un, .un, .un, .un, s7, .un, .un, .un, .un]) (fun i acc N => acc = (as.take i).map (fun e => D.str (txt m e)) ∧ ∃ X, N = M ++ X) (as.map Ex.toD) (M := M) ⟨rfl, [], by simp⟩
      (fun i d acc N hdd ⟨h1, X, h2⟩ => by
        rw [List.getElem?_map] at hdd
        cases hq : as[i]? with
        | none => rw [hq] at hdd; cases hdd
        | some e =>
          rw [hq] at hdd
          cases hdd
          obtain ⟨X2, hc⟩ := h e (List.mem_of_getElem? hq) N
          refine ⟨_, .str (txt m e), N ++ X2, rfl, ?_, ?_, ?_, X ++ X2, by rw [h2, List.append_assoc]⟩
          · generalize (Ex.call n f as).toD = CD at *
            simp [el__law_text_0_eq, hc]
          · rw [h1, szL, List.length_map, List.length_take]; omega
          · rw [h1, take_snoc hq, List.map_append]; rfl)
    rw [List.length_map, List.take_length] at hr
    subst hX
    refine ⟨X, ?_⟩
    rw [g, hr, txts_eq, List.map_map]
    rfl
  have hjn := join_len ", " (txts m as)
  rw [w5] at hjn
  have hjo : ∀ N, joinD N (.str ", ") [.lst ((txts m as).map .str)] = some (.val (.str (Txt.join ", " (txts m as)))) := fun N => join_ok (by rw [w5]; omega)
  have i9 : ∀ N, inD N (.str "call") (.tup [.str "num", .str "use"]) = some (.val (.bl false)) := fun N => rfl
  have nq : ∀ N, neD N (.str n) (.str m) = some (.val (.bl (!decide (n = m)))) := fun N => rfl
  obtain ⟨X, hgx⟩ := hg (.val (.bl (!decide (n = m))))
  refine ⟨X, ?_⟩
  rw [e__law_text]
  rw [Ex.toD, Ex.toDs_eq] at *
  obtain ⟨AD, hAD⟩ : ∃ z, as.map Ex.toD = z := ⟨_, rfl⟩
  rw [hAD] at hgx ⊢
  generalize (txts m as).map D.str = TD at *
  generalize Txt.join ", " (txts m as) = J at *
  have b1 : ∀ N, addD N (.str n) (.str ".") = some (.val (.str (n ++ "."))) := fun N => add_ss (by (simp only [Str.length_append, w1, w2, w3, w4, w5, w6, w7, w8, w9, w10, w11, w12, w13, w14, w15, w16, w17]; omega))
  have b2 : ∀ N, addD N (.str (n ++ ".")) (.str f) = some (.val (.str (n ++ "." ++ f))) := fun N => add_ss (by (simp only [Str.length_append, w1, w2, w3, w4, w5, w6, w7, w8, w9, w10, w11, w12, w13, w14, w15, w16, w17]; omega))
  have b3 : ∀ N, addD N (.str Str.empty) (.str f) = some (.val (.str f)) := fun N => by
    rw [add_ss (by rw [show Str.empty.length = 0 from rfl]; omega), Str.empty_append]
  obtain ⟨c, hc, hcl⟩ : ∃ c : Str, (if n = m then f else n ++ "." ++ f) = c ∧ c.length ≤ 30 := ⟨_, rfl, by
    split
    · omega
    · (simp only [Str.length_append, w1, w2, w3, w4, w5, w6, w7, w8, w9, w10, w11, w12, w13, w14, w15, w16, w17]; omega)⟩
  have a1 : ∀ N, addD N (.str c) (.str "(") = some (.val (.str (c ++ "("))) := fun N => add_ss (by (simp only [Str.length_append, w1, w2, w3, w4, w5, w6, w7, w8, w9, w10, w11, w12, w13, w14, w15, w16, w17]; omega))
  have a2 : ∀ N, addD N (.str (c ++ "(")) (.str J) = some (.val (.str (c ++ "(" ++ J))) := fun N => add_ss (by (simp only [Str.length_append, w1, w2, w3, w4, w5, w6, w7, w8, w9, w10, w11, w12, w13, w14, w15, w16, w17]; omega))
  have a3 : ∀ N, addD N (.str (c ++ "(" ++ J)) (.str ")") = some (.val (.str (c ++ "(" ++ J ++ ")"))) := fun N => add_ss (by (simp only [Str.length_append, w1, w2, w3, w4, w5, w6, w7, w8, w9, w10, w11, w12, w13, w14, w15, w16, w17]; omega))
  have it : ∀ N, intD N [.bl true] = some (.val (.int 1)) := fun _ => rfl
  have iF : ∀ N, intD N [.bl false] = some (.val (.int 0)) := fun _ => rfl
  rw [hc]
  by_cases hq : n = m
  · rw [if_pos hq] at hc
    rw [decide_eq_true hq, Bool.not_true] at hgx
    simp only [decide_eq_true hq] at nq
    subst hc
    simp [-List.append_assoc, runF, m__law_text, startD, i9, nq, ne_nil, itemsD, wipeD, iF, b1, b3, hgx, hjo, a1, a2, a3, ty_str]
  · rw [if_neg hq] at hc
    rw [decide_eq_false hq, Bool.not_false] at hgx
    simp only [decide_eq_false hq] at nq
    subst hc
    simp [-List.append_assoc, runF, m__law_text, startD, i9, nq, ne_nil, itemsD, wipeD, it, b1, b2, hgx, hjo, a1, a2, a3, ty_str]
end K46
namespace K46
open PySem L2 TP
set_option maxHeartbeats 4000000
theorem j1 (a : Str) : Txt.join "" [a] = a := StrLaws.glued_eq_join "" [a]
theorem j2 (a b : Str) : Txt.join "" [a, b] = a ++ b := by
  have h : Txt.join "" [a, b] = Str.join "" [a, b] := StrLaws.glued_eq_join "" [a, b]
  rw [h]
  show a ++ Str.empty ++ b = a ++ b
  rw [Str.append_empty]
theorem j3 (a b c : Str) : Txt.join "" [a, b, c] = a ++ b ++ c := by
  have h : Txt.join "" [a, b, c] = Str.join "" [a, b, c] := StrLaws.glued_eq_join "" [a, b, c]
  rw [h]
  show a ++ Str.empty ++ (b ++ Str.empty ++ c) = a ++ b ++ c
  rw [Str.append_empty, Str.append_empty, Str.append_assoc]
theorem w0 : (Str.ofString "").length = 0 := rfl
theorem isi_ex (N : Store) (e : Ex) : isiD "tuple" N e.toD = some (.val (.bl true)) := by
  obtain ⟨xs, hx⟩ : ∃ xs, e.toD = .tup xs := by cases e <;> exact ⟨_, rfl⟩
  rw [hx]
  simp [isiD, clsD, subTy]
theorem isi_st (N : Store) (x : Str) : isiD "tuple" N (.str x) = some (.val (.bl false)) := by simp [isiD, clsD, subTy]
theorem llt_ok (K : Nat) {m ta tb x : Str} {a b : Ex} (hx : x.length ≤ 12) (ka : ta.length ≤ 4000000) (kb : tb.length ≤ 4000000) (M : Store)
    (ga : ∀ M, ∃ X, sem K f__law_free_text [.str m, a.toD, .lst []] M = .ok (.val (.str ta)) (M ++ X))
    (gb : ∀ M, ∃ X, sem K f__law_free_text [.str m, b.toD, .lst []] M = .ok (.val (.str tb)) (M ++ X))
    : ∃ X, sem (K + 1) f__law_text [.str m, (Ex.lt x a b).toD, .lst []] M = .ok (.val (.str ("let " ++ x ++ " = " ++ ta ++ " in " ++ tb))) (M ++ X) := by
  obtain ⟨X0, qa⟩ := ga (M)
  obtain ⟨X1, qb⟩ := gb (M ++ X0)
  have ya := fun N => isi_ex N a
  have yb := fun N => isi_ex N b
  obtain ⟨Y, hY⟩ : ∃ Y : List (Key × D), mergeD ["if", "tell", "stop"] [.lst [.str "if ", .str " then ", .str " else "], .lst [.str "tell ", .str " in "], .lst [.str "stop "]] = Y := ⟨_, rfl⟩
  have hk : lookD Y (.inr "let") = none := by rw [← hY]; rfl
  have iw : ∀ N, inD N (.str "let") (.tup [.str "num", .str "use"]) = some (.val (.bl false)) := fun N => rfl
  refine ⟨X0 ++ X1 ++ [.dK Y], ?_⟩
  have hfin : M ++ (X0 ++ X1 ++ [.dK Y]) = M ++ X0 ++ X1 ++ [.dK Y] := by simp
  rw [hfin, e__law_text, Ex.toD]
  generalize a.toD = AD at *
  generalize b.toD = BD at *
  have s1 : ∀ N, slD N (.tup [.str "let", .str x, AD, BD]) (some 1) none = some (.val (.tup [.str x, AD, BD])) := fun _ => rfl
  have a0 : ∀ N, addD N (.str ("let ")) (.str (x)) = some (.val (.str ("let " ++ x))) := fun N => add_ss (by (simp only [Str.length_append, w1, w2, w3, w4, w5, w6, w7, w8, w9, w10, w11, w12, w13, w14, w15, w16, w17]; omega))
  have a1 : ∀ N, addD N (.str ("let " ++ x)) (.str (" = ")) = some (.val (.str ("let " ++ x ++ " = "))) := fun N => add_ss (by (simp only [Str.length_append, w1, w2, w3, w4, w5, w6, w7, w8, w9, w10, w11, w12, w13, w14, w15, w16, w17]; omega))
  have a2 : ∀ N, addD N (.str ("let " ++ x ++ " = ")) (.str (ta)) = some (.val (.str ("let " ++ x ++ " = " ++ ta))) := fun N => add_ss (by (simp only [Str.length_append, w1, w2, w3, w4, w5, w6, w7, w8, w9, w10, w11, w12, w13, w14, w15, w16, w17]; omega))
  have a3 : ∀ N, addD N (.str (" in ")) (.str (tb)) = some (.val (.str (" in " ++ tb))) := fun N => add_ss (by (simp only [Str.length_append, w1, w2, w3, w4, w5, w6, w7, w8, w9, w10, w11, w12, w13, w14, w15, w16, w17]; omega))
  have hj : ∀ N, joinD N (.str "") [.lst [.str ("let " ++ x ++ " = " ++ ta), .str (" in " ++ tb)]] = some (.val (.str (Txt.join "" ["let " ++ x ++ " = " ++ ta, " in " ++ tb]))) := fun N => join_ok (ys := ["let " ++ x ++ " = " ++ ta, " in " ++ tb]) (by simp only [List.map_cons, List.map_nil, List.sum_cons, List.sum_nil, List.length_cons, List.length_nil, w0]; (simp only [Str.length_append, w1, w2, w3, w4, w5, w6, w7, w8, w9, w10, w11, w12, w13, w14, w15, w16, w17]; omega))
  have he : Txt.join "" ["let " ++ x ++ " = " ++ ta, " in " ++ tb] = "let " ++ x ++ " = " ++ ta ++ " in " ++ tb := by
    rw [j2]
    try simp only [Str.append_assoc]
  simp only [he] at hj
  simp [-List.append_assoc, runF, m__law_text, startD, iw, s1, itemsD, wipeD, lcGo, bName, bTup, bNames, zipL, cd__law_text_0_eq, el__law_text_1_eq, el__law_text_2_eq, isi_st, dVals, hY, dGet2, dGetO, isDD, at_end, keyD, hk, ty_str, hj, qa, qb, ya, yb, a0, a1, a2, a3]
theorem lite_ok (K : Nat) {m ta tb tc : Str} {a b c : Ex} (ka : ta.length ≤ 4000000) (kb : tb.length ≤ 4000000) (kc : tc.length ≤ 4000000) (M : Store)
    (ga : ∀ M, ∃ X, sem K f__law_free_text [.str m, a.toD, .lst []] M = .ok (.val (.str ta)) (M ++ X))
    (gb : ∀ M, ∃ X, sem K f__law_free_text [.str m, b.toD, .lst []] M = .ok (.val (.str tb)) (M ++ X))
    (gc : ∀ M, ∃ X, sem K f__law_free_text [.str m, c.toD, .lst []] M = .ok (.val (.str tc)) (M ++ X))
    : ∃ X, sem (K + 1) f__law_text [.str m, (Ex.ite a b c).toD, .lst []] M = .ok (.val (.str ("if " ++ ta ++ " then " ++ tb ++ " else " ++ tc))) (M ++ X) := by
  obtain ⟨X0, qa⟩ := ga (M)
  obtain ⟨X1, qb⟩ := gb (M ++ X0)
  obtain ⟨X2, qc⟩ := gc (M ++ X0 ++ X1)
  have ya := fun N => isi_ex N a
  have yb := fun N => isi_ex N b
  have yc := fun N => isi_ex N c
  obtain ⟨Y, hY⟩ : ∃ Y : List (Key × D), mergeD ["if", "tell", "stop"] [.lst [.str "if ", .str " then ", .str " else "], .lst [.str "tell ", .str " in "], .lst [.str "stop "]] = Y := ⟨_, rfl⟩
  have hk : lookD Y (.inr "if") = some (.lst [.str "if ", .str " then ", .str " else "]) := by rw [← hY]; rfl
  have iw : ∀ N, inD N (.str "if") (.tup [.str "num", .str "use"]) = some (.val (.bl false)) := fun N => rfl
  refine ⟨X0 ++ X1 ++ X2 ++ [.dK Y], ?_⟩
  have hfin : M ++ (X0 ++ X1 ++ X2 ++ [.dK Y]) = M ++ X0 ++ X1 ++ X2 ++ [.dK Y] := by simp
  rw [hfin, e__law_text, Ex.toD]
  generalize a.toD = AD at *
  generalize b.toD = BD at *
  generalize c.toD = CD at *
  have s1 : ∀ N, slD N (.tup [.str "if", AD, BD, CD]) (some 1) none = some (.val (.tup [AD, BD, CD])) := fun _ => rfl
  have a0 : ∀ N, addD N (.str ("if ")) (.str (ta)) = some (.val (.str ("if " ++ ta))) := fun N => add_ss (by (simp only [Str.length_append, w1, w2, w3, w4, w5, w6, w7, w8, w9, w10, w11, w12, w13, w14, w15, w16, w17]; omega))
  have a1 : ∀ N, addD N (.str (" then ")) (.str (tb)) = some (.val (.str (" then " ++ tb))) := fun N => add_ss (by (simp only [Str.length_append, w1, w2, w3, w4, w5, w6, w7, w8, w9, w10, w11, w12, w13, w14, w15, w16, w17]; omega))
  have a2 : ∀ N, addD N (.str (" else ")) (.str (tc)) = some (.val (.str (" else " ++ tc))) := fun N => add_ss (by (simp only [Str.length_append, w1, w2, w3, w4, w5, w6, w7, w8, w9, w10, w11, w12, w13, w14, w15, w16, w17]; omega))
  have hj : ∀ N, joinD N (.str "") [.lst [.str ("if " ++ ta), .str (" then " ++ tb), .str (" else " ++ tc)]] = some (.val (.str (Txt.join "" ["if " ++ ta, " then " ++ tb, " else " ++ tc]))) := fun N => join_ok (ys := ["if " ++ ta, " then " ++ tb, " else " ++ tc]) (by simp only [List.map_cons, List.map_nil, List.sum_cons, List.sum_nil, List.length_cons, List.length_nil, w0]; (simp only [Str.length_append, w1, w2, w3, w4, w5, w6, w7, w8, w9, w10, w11, w12, w13, w14, w15, w16, w17]; omega))
  have he : Txt.join "" ["if " ++ ta, " then " ++ tb, " else " ++ tc] = "if " ++ ta ++ " then " ++ tb ++ " else " ++ tc := by
    rw [j3]
    try simp only [Str.append_assoc]
  simp only [he] at hj
  simp [-List.append_assoc, runF, m__law_text, startD, iw, s1, itemsD, wipeD, lcGo, bName, bTup, bNames, zipL, cd__law_text_0_eq, el__law_text_1_eq, el__law_text_2_eq, isi_st, dVals, hY, dGet2, dGetO, isDD, at_end, keyD, hk, ty_str, hj, qa, qb, qc, ya, yb, yc, a0, a1, a2]
theorem ltimes_ok (K : Nat) {m ta tb tc i s : Str} {a b c : Ex} (hi : i.length ≤ 12) (hs : s.length ≤ 12) (ka : ta.length ≤ 4000000) (kb : tb.length ≤ 4000000) (kc : tc.length ≤ 4000000) (M : Store)
    (ga : ∀ M, ∃ X, sem K f__law_free_text [.str m, a.toD, .lst []] M = .ok (.val (.str ta)) (M ++ X))
    (gb : ∀ M, ∃ X, sem K f__law_free_text [.str m, b.toD, .lst []] M = .ok (.val (.str tb)) (M ++ X))
    (gc : ∀ M, ∃ X, sem K f__law_free_text [.str m, c.toD, .lst []] M = .ok (.val (.str tc)) (M ++ X))
    : ∃ X, sem (K + 1) f__law_text [.str m, (Ex.times a i s b c).toD, .lst []] M = .ok (.val (.str ("times " ++ ta ++ " as " ++ i ++ ", " ++ s ++ " from " ++ tb ++ " do " ++ tc))) (M ++ X) := by
  obtain ⟨X0, qa⟩ := ga (M)
  obtain ⟨X1, qb⟩ := gb (M ++ X0)
  obtain ⟨X2, qc⟩ := gc (M ++ X0 ++ X1)
  have ya := fun N => isi_ex N a
  have yb := fun N => isi_ex N b
  have yc := fun N => isi_ex N c
  obtain ⟨Y, hY⟩ : ∃ Y : List (Key × D), mergeD ["if", "tell", "stop"] [.lst [.str "if ", .str " then ", .str " else "], .lst [.str "tell ", .str " in "], .lst [.str "stop "]] = Y := ⟨_, rfl⟩
  have hk : lookD Y (.inr "times") = none := by rw [← hY]; rfl
  have iw : ∀ N, inD N (.str "times") (.tup [.str "num", .str "use"]) = some (.val (.bl false)) := fun N => rfl
  refine ⟨X0 ++ X1 ++ X2 ++ [.dK Y], ?_⟩
  have hfin : M ++ (X0 ++ X1 ++ X2 ++ [.dK Y]) = M ++ X0 ++ X1 ++ X2 ++ [.dK Y] := by simp
  rw [hfin, e__law_text, Ex.toD]
  generalize a.toD = AD at *
  generalize b.toD = BD at *
  generalize c.toD = CD at *
  have s1 : ∀ N, slD N (.tup [.str "times", AD, .str i, .str s, BD, CD]) (some 1) none = some (.val (.tup [AD, .str i, .str s, BD, CD])) := fun _ => rfl
  have a0 : ∀ N, addD N (.str (" as ")) (.str (i)) = some (.val (.str (" as " ++ i))) := fun N => add_ss (by (simp only [Str.length_append, w1, w2, w3, w4, w5, w6, w7, w8, w9, w10, w11, w12, w13, w14, w15, w16, w17]; omega))
  have a1 : ∀ N, addD N (.str (" as " ++ i)) (.str (", ")) = some (.val (.str (" as " ++ i ++ ", "))) := fun N => add_ss (by (simp only [Str.length_append, w1, w2, w3, w4, w5, w6, w7, w8, w9, w10, w11, w12, w13, w14, w15, w16, w17]; omega))
  have a2 : ∀ N, addD N (.str (" as " ++ i ++ ", ")) (.str (s)) = some (.val (.str (" as " ++ i ++ ", " ++ s))) := fun N => add_ss (by (simp only [Str.length_append, w1, w2, w3, w4, w5, w6, w7, w8, w9, w10, w11, w12, w13, w14, w15, w16, w17]; omega))
  have a3 : ∀ N, addD N (.str (" as " ++ i ++ ", " ++ s)) (.str (" from ")) = some (.val (.str (" as " ++ i ++ ", " ++ s ++ " from "))) := fun N => add_ss (by (simp only [Str.length_append, w1, w2, w3, w4, w5, w6, w7, w8, w9, w10, w11, w12, w13, w14, w15, w16, w17]; omega))
  have a4 : ∀ N, addD N (.str ("times ")) (.str (ta)) = some (.val (.str ("times " ++ ta))) := fun N => add_ss (by (simp only [Str.length_append, w1, w2, w3, w4, w5, w6, w7, w8, w9, w10, w11, w12, w13, w14, w15, w16, w17]; omega))
  have a5 : ∀ N, addD N (.str (" as " ++ i ++ ", " ++ s ++ " from ")) (.str (tb)) = some (.val (.str (" as " ++ i ++ ", " ++ s ++ " from " ++ tb))) := fun N => add_ss (by (simp only [Str.length_append, w1, w2, w3, w4, w5, w6, w7, w8, w9, w10, w11, w12, w13, w14, w15, w16, w17]; omega))
  have a6 : ∀ N, addD N (.str (" do ")) (.str (tc)) = some (.val (.str (" do " ++ tc))) := fun N => add_ss (by (simp only [Str.length_append, w1, w2, w3, w4, w5, w6, w7, w8, w9, w10, w11, w12, w13, w14, w15, w16, w17]; omega))
  have hj : ∀ N, joinD N (.str "") [.lst [.str ("times " ++ ta), .str (" as " ++ i ++ ", " ++ s ++ " from " ++ tb), .str (" do " ++ tc)]] = some (.val (.str (Txt.join "" ["times " ++ ta, " as " ++ i ++ ", " ++ s ++ " from " ++ tb, " do " ++ tc]))) := fun N => join_ok (ys := ["times " ++ ta, " as " ++ i ++ ", " ++ s ++ " from " ++ tb, " do " ++ tc]) (by simp only [List.map_cons, List.map_nil, List.sum_cons, List.sum_nil, List.length_cons, List.length_nil, w0]; (simp only [Str.length_append, w1, w2, w3, w4, w5, w6, w7, w8, w9, w10, w11, w12, w13, w14, w15, w16, w17]; omega))
  have he : Txt.join "" ["times " ++ ta, " as " ++ i ++ ", " ++ s ++ " from " ++ tb, " do " ++ tc] = "times " ++ ta ++ " as " ++ i ++ ", " ++ s ++ " from " ++ tb ++ " do " ++ tc := by
    rw [j3]
    try simp only [Str.append_assoc]
  simp only [he] at hj
  simp [-List.append_assoc, runF, m__law_text, startD, iw, s1, itemsD, wipeD, lcGo, bName, bTup, bNames, zipL, cd__law_text_0_eq, el__law_text_1_eq, el__law_text_2_eq, isi_st, dVals, hY, dGet2, dGetO, isDD, at_end, keyD, hk, ty_str, hj, qa, qb, qc, ya, yb, yc, a0, a1, a2, a3, a4, a5, a6]
theorem ltell_ok (K : Nat) {m ta tb : Str} {a b : Ex} (ka : ta.length ≤ 4000000) (kb : tb.length ≤ 4000000) (M : Store)
    (ga : ∀ M, ∃ X, sem K f__law_free_text [.str m, a.toD, .lst []] M = .ok (.val (.str ta)) (M ++ X))
    (gb : ∀ M, ∃ X, sem K f__law_free_text [.str m, b.toD, .lst []] M = .ok (.val (.str tb)) (M ++ X))
    : ∃ X, sem (K + 1) f__law_text [.str m, (Ex.tell a b).toD, .lst []] M = .ok (.val (.str ("tell " ++ ta ++ " in " ++ tb))) (M ++ X) := by
  obtain ⟨X0, qa⟩ := ga (M)
  obtain ⟨X1, qb⟩ := gb (M ++ X0)
  have ya := fun N => isi_ex N a
  have yb := fun N => isi_ex N b
  obtain ⟨Y, hY⟩ : ∃ Y : List (Key × D), mergeD ["if", "tell", "stop"] [.lst [.str "if ", .str " then ", .str " else "], .lst [.str "tell ", .str " in "], .lst [.str "stop "]] = Y := ⟨_, rfl⟩
  have hk : lookD Y (.inr "tell") = some (.lst [.str "tell ", .str " in "]) := by rw [← hY]; rfl
  have iw : ∀ N, inD N (.str "tell") (.tup [.str "num", .str "use"]) = some (.val (.bl false)) := fun N => rfl
  refine ⟨X0 ++ X1 ++ [.dK Y], ?_⟩
  have hfin : M ++ (X0 ++ X1 ++ [.dK Y]) = M ++ X0 ++ X1 ++ [.dK Y] := by simp
  rw [hfin, e__law_text, Ex.toD]
  generalize a.toD = AD at *
  generalize b.toD = BD at *
  have s1 : ∀ N, slD N (.tup [.str "tell", AD, BD]) (some 1) none = some (.val (.tup [AD, BD])) := fun _ => rfl
  have a0 : ∀ N, addD N (.str ("tell ")) (.str (ta)) = some (.val (.str ("tell " ++ ta))) := fun N => add_ss (by (simp only [Str.length_append, w1, w2, w3, w4, w5, w6, w7, w8, w9, w10, w11, w12, w13, w14, w15, w16, w17]; omega))
  have a1 : ∀ N, addD N (.str (" in ")) (.str (tb)) = some (.val (.str (" in " ++ tb))) := fun N => add_ss (by (simp only [Str.length_append, w1, w2, w3, w4, w5, w6, w7, w8, w9, w10, w11, w12, w13, w14, w15, w16, w17]; omega))
  have hj : ∀ N, joinD N (.str "") [.lst [.str ("tell " ++ ta), .str (" in " ++ tb)]] = some (.val (.str (Txt.join "" ["tell " ++ ta, " in " ++ tb]))) := fun N => join_ok (ys := ["tell " ++ ta, " in " ++ tb]) (by simp only [List.map_cons, List.map_nil, List.sum_cons, List.sum_nil, List.length_cons, List.length_nil, w0]; (simp only [Str.length_append, w1, w2, w3, w4, w5, w6, w7, w8, w9, w10, w11, w12, w13, w14, w15, w16, w17]; omega))
  have he : Txt.join "" ["tell " ++ ta, " in " ++ tb] = "tell " ++ ta ++ " in " ++ tb := by
    rw [j2]
    try simp only [Str.append_assoc]
  simp only [he] at hj
  simp [-List.append_assoc, runF, m__law_text, startD, iw, s1, itemsD, wipeD, lcGo, bName, bTup, bNames, zipL, cd__law_text_0_eq, el__law_text_1_eq, el__law_text_2_eq, isi_st, dVals, hY, dGet2, dGetO, isDD, at_end, keyD, hk, ty_str, hj, qa, qb, ya, yb, a0, a1]
theorem lstop_ok (K : Nat) {m ta : Str} {a : Ex} (ka : ta.length ≤ 4000000) (M : Store)
    (ga : ∀ M, ∃ X, sem K f__law_free_text [.str m, a.toD, .lst []] M = .ok (.val (.str ta)) (M ++ X))
    : ∃ X, sem (K + 1) f__law_text [.str m, (Ex.stop a).toD, .lst []] M = .ok (.val (.str ("stop " ++ ta))) (M ++ X) := by
  obtain ⟨X0, qa⟩ := ga (M)
  have ya := fun N => isi_ex N a
  obtain ⟨Y, hY⟩ : ∃ Y : List (Key × D), mergeD ["if", "tell", "stop"] [.lst [.str "if ", .str " then ", .str " else "], .lst [.str "tell ", .str " in "], .lst [.str "stop "]] = Y := ⟨_, rfl⟩
  have hk : lookD Y (.inr "stop") = some (.lst [.str "stop "]) := by rw [← hY]; rfl
  have iw : ∀ N, inD N (.str "stop") (.tup [.str "num", .str "use"]) = some (.val (.bl false)) := fun N => rfl
  refine ⟨X0 ++ [.dK Y], ?_⟩
  have hfin : M ++ (X0 ++ [.dK Y]) = M ++ X0 ++ [.dK Y] := by simp
  rw [hfin, e__law_text, Ex.toD]
  generalize a.toD = AD at *
  have s1 : ∀ N, slD N (.tup [.str "stop", AD]) (some 1) none = some (.val (.tup [AD])) := fun _ => rfl
  have a0 : ∀ N, addD N (.str ("stop ")) (.str (ta)) = some (.val (.str ("stop " ++ ta))) := fun N => add_ss (by (simp only [Str.length_append, w1, w2, w3, w4, w5, w6, w7, w8, w9, w10, w11, w12, w13, w14, w15, w16, w17]; omega))
  have hj : ∀ N, joinD N (.str "") [.lst [.str ("stop " ++ ta)]] = some (.val (.str (Txt.join "" ["stop " ++ ta]))) := fun N => join_ok (ys := ["stop " ++ ta]) (by simp only [List.map_cons, List.map_nil, List.sum_cons, List.sum_nil, List.length_cons, List.length_nil, w0]; (simp only [Str.length_append, w1, w2, w3, w4, w5, w6, w7, w8, w9, w10, w11, w12, w13, w14, w15, w16, w17]; omega))
  have he : Txt.join "" ["stop " ++ ta] = "stop " ++ ta := by
    rw [j1]
    try simp only [Str.append_assoc]
  simp only [he] at hj
  simp [-List.append_assoc, runF, m__law_text, startD, iw, s1, itemsD, wipeD, lcGo, bName, bTup, bNames, zipL, cd__law_text_0_eq, el__law_text_1_eq, el__law_text_2_eq, isi_st, dVals, hY, dGet2, dGetO, isDD, at_end, keyD, hk, ty_str, hj, qa, ya, a0]
end K46
namespace K46
open PySem L2 TP
set_option maxHeartbeats 4000000
theorem ltext_ok : ∀ (n : Nat) (e : Ex) (K : Nat) {m : Str}, m.length ≤ 12 → e.dep ≤ n → TxOk e → Sg e → e.cnt ≤ 40000 → ∀ M, ∃ X, sem (K + 2 * n + 3) f__law_text [.str m, e.toD, .lst []] M = .ok (.val (.str (txt m e))) (M ++ X)
  | n, e, K, m, hm, hd, ht, hg, hc, M => by
    have hpl := Ex.parts_len (e := e)
    have ih : ∀ p ∈ e.parts, ∀ M, ∃ X, sem (K + 2 * n + 1) f__law_text [.str m, p.toD, .lst []] M = .ok (.val (.str (txt m p))) (M ++ X) := fun p hp M => by
      have h1 := Ex.parts_dep hp
      have h2 := Ex.parts_cnt hp
      obtain ⟨k, rfl⟩ : ∃ k, n = k + 1 := ⟨n - 1, by omega⟩
      exact ltext_ok k p K hm (by omega) (Ex.als_mem (Ex.als_parts ht) p hp) (sg_part hg hp) (by omega) M
    have ihf : ∀ p ∈ e.parts, ∀ M, ∃ X, sem (K + 2 * n + 2) f__law_free_text [.str m, p.toD, .lst []] M = .ok (.val (.str (txt m p))) (M ++ X) := fun p hp M => by
      obtain ⟨X, h⟩ := ih p hp M
      exact ⟨X, lfree_ok (K + 2 * n + 1) M X h⟩
    have ihl : ∀ p ∈ e.parts, (txt m p).length ≤ 82 * p.cnt - 2 ∧ p.cnt < e.cnt := fun p hp => ⟨txt_len hm p (Ex.als_mem (Ex.als_parts ht) p hp), Ex.parts_cnt hp⟩
    unfold TxOk at ht
    cases e with
    | num v =>
      rw [Ex.Al] at ht
      have h := fun N => str_num N ht
      have i1 : ∀ N, inD N (.str "num") (.tup [.str "num", .str "use"]) = some (.val (.bl true)) := fun N => rfl
      refine ⟨[], ?_⟩
      rw [e__law_text]
      simp [-strD_int, runF, m__law_text, startD, Ex.toD, i1, h, txt]
    | use x =>
      have i2 : ∀ N, inD N (.str "use") (.tup [.str "num", .str "use"]) = some (.val (.bl true)) := fun N => rfl
      refine ⟨[], ?_⟩
      rw [e__law_text]
      simp [runF, m__law_text, startD, Ex.toD, i2, txt]
    | op s a b =>
      rw [Ex.Al] at ht
      rw [Sg] at hg
      have l1 := ihl a (by simp [Ex.parts])
      have l2 := ihl b (by simp [Ex.parts])
      rw [txt]
      exact lsign_ok (K + 2 * n) hg.1 ht.1 (by omega) (by omega) M
        (fun l M => by obtain ⟨X, h⟩ := ih a (by simp [Ex.parts]) M; exact lside_ok (K + 2 * n) (sg_op hg.2.1) (by omega) l M X h) (fun l M => by obtain ⟨X, h⟩ := ih b (by simp [Ex.parts]) M; exact lside_ok (K + 2 * n) (sg_op hg.2.2) (by omega) l M X h)
    | lt x a b =>
      rw [Ex.Al] at ht
      have l1 := ihl a (by simp [Ex.parts])
      have l2 := ihl b (by simp [Ex.parts])
      rw [txt]
      exact llt_ok (K + 2 * n + 2) ht.1 (by omega) (by omega) M (ihf a (by simp [Ex.parts])) (ihf b (by simp [Ex.parts]))
    | ite a b c =>
      have l1 := ihl a (by simp [Ex.parts])
      have l2 := ihl b (by simp [Ex.parts])
      have l3 := ihl c (by simp [Ex.parts])
      rw [txt]
      exact lite_ok (K + 2 * n + 2) (by omega) (by omega) (by omega) M (ihf a (by simp [Ex.parts])) (ihf b (by simp [Ex.parts])) (ihf c (by simp [Ex.parts]))
    | times a i s b c =>
      rw [Ex.Al] at ht
      have l1 := ihl a (by simp [Ex.parts])
      have l2 := ihl b (by simp [Ex.parts])
      have l3 := ihl c (by simp [Ex.parts])
      rw [txt]
      exact ltimes_ok (K + 2 * n + 2) ht.1 ht.2.1 (by omega) (by omega) (by omega) M (ihf a (by simp [Ex.parts])) (ihf b (by simp [Ex.parts])) (ihf c (by simp [Ex.parts]))
    | tell a b =>
      have l1 := ihl a (by simp [Ex.parts])
      have l2 := ihl b (by simp [Ex.parts])
      rw [txt]
      exact ltell_ok (K + 2 * n + 2) (by omega) (by omega) M (ihf a (by simp [Ex.parts])) (ihf b (by simp [Ex.parts]))
    | stop a =>
      have l1 := ihl a (by simp [Ex.parts])
      rw [txt]
      exact lstop_ok (K + 2 * n + 2) (by omega) M (ihf a (by simp [Ex.parts]))
    | call f g as =>
      rw [Ex.Al] at ht
      have l1 := txts_len hm as ht.2.2
      have hcc := Ex.cnt_eq (.call f g as)
      have hpp : (Ex.call f g as).parts = as := rfl
      rw [hpp] at hcc hpl ihf
      rw [txt]
      exact lcall_ok (K + 2 * n + 2) ht.1 ht.2.1 (by omega) M (by omega) (fun e he M => ihf e he M)
end K46
namespace K46
open PySem L2 TP
set_option maxHeartbeats 4000000
theorem w18 : (Str.ofString "def ").length = 4 := rfl
theorem w19 : (Str.ofString ") = ").length = 4 := rfl
theorem w20 : (Str.ofString "module ").length = 7 := rfl
def lineR (m : Str) (r : Row) : Str := "def " ++ r.f ++ "(" ++ Txt.join ", " r.ps ++ ") = " ++ txt m r.b
structure RowTx (r : Row) : Prop where
  f : r.f.length ≤ 12
  ps : ∀ y ∈ r.ps, y.length ≤ 12
  pl : r.ps.length ≤ 10
  tx : TxOk r.b
  sg : Sg r.b
  dep : r.b.dep ≤ 30
  cnt : r.b.cnt ≤ 1900
theorem sum_le {k : Nat} : ∀ {ys : List Str}, (∀ y ∈ ys, y.length ≤ k) → (ys.map (·.length)).sum ≤ ys.length * k
  | [], _ => by simp
  | y :: ys, h => by
    rw [List.map_cons, List.sum_cons, List.length_cons, Nat.succ_mul]
    have h1 := h y List.mem_cons_self
    have h2 := sum_le (ys := ys) fun z hz => h z (List.mem_cons_of_mem _ hz)
    omega
theorem RowTx.sum {r : Row} (h : RowTx r) : (r.ps.map (·.length)).sum + r.ps.length * 2 ≤ 140 := by
  have h1 := sum_le h.ps
  have h2 := h.pl
  omega
theorem RowTx.line {r : Row} (h : RowTx r) {m : Str} (hm : m.length ≤ 12) : (lineR m r).length ≤ 156000 := by
  have h1 := txt_len hm r.b h.tx
  have h2 := join_len ", " r.ps
  rw [w5] at h2
  have h3 := h.sum
  have h4 := h.f
  have h5 := h.cnt
  unfold lineR
  simp only [Str.length_append, w18, w1, w19]
  omega
theorem inner_ok (K : Nat) {m : Str} (hm : m.length ≤ 12) (s0 s3 : Slot) (M : Store) : ∀ (rs : List Row) (acc : List D) (s4 s5 s6 : Slot), (∀ r ∈ rs, RowTx r) → acc.length + rs.length ≤ 1000 →
    ∃ s4' s5' s6', forGo (bTup [4, 5, 6]) (lp_text_of_0 (sem (K + 93))) (rs.map Row.toD) [s0, .own acc, .val (.str m), s3, s4, s5, s6] M = .next [s0, .own (acc ++ rs.map fun r => .str (lineR m r)), .val (.str m), s3, s4', s5', s6'] M
  | [], acc, s4, s5, s6, _, _ => ⟨s4, s5, s6, by simp [forGo]⟩
  | r :: rs, acc, s4, s5, s6, h, hl => by
    have hr := h r List.mem_cons_self
    have hx : sem (K + 93) f_expression_text [.str m, r.b.toD] M = .ok (.val (.str (txt m r.b))) M := text_ok 30 r.b K hm hr.dep hr.tx hr.sg (by have := hr.cnt; omega) M
    rw [List.length_cons] at hl
    obtain ⟨t4, t5, t6, ih⟩ := inner_ok K hm s0 s3 M rs (acc ++ [.str (lineR m r)]) (.val (.str r.f)) (.val (.tup (r.ps.map .str))) (.val r.b.toD) (fun y hy => h y (List.mem_cons_of_mem _ hy)) (by simp; omega)
    refine ⟨t4, t5, t6, ?_⟩
    have h1 := txt_len hm r.b hr.tx
    have h2 := join_len ", " r.ps
    rw [w5] at h2
    have h3 := hr.sum
    have h4 := hr.f
    have h5 := hr.cnt
    have hj : ∀ N, joinD N (.str ", ") [.tup (r.ps.map .str)] = some (.val (.str (Txt.join ", " r.ps))) := fun N => join_okT (by rw [w5]; omega)
    have hz : acc.length < 16777216 := by omega
    unfold lineR at ih ⊢
    rw [List.map_cons, List.map_cons]
    unfold forGo
    rw [show acc ++ D.str ("def " ++ r.f ++ "(" ++ Txt.join ", " r.ps ++ ") = " ++ txt m r.b) :: rs.map (fun r => D.str ("def " ++ r.f ++ "(" ++ Txt.join ", " r.ps ++ ") = " ++ txt m r.b)) = acc ++ [D.str ("def " ++ r.f ++ "(" ++ Txt.join ", " r.ps ++ ") = " ++ txt m r.b)] ++ rs.map (fun r => D.str ("def " ++ r.f ++ "(" ++ Txt.join ", " r.ps ++ ") = " ++ txt m r.b)) by simp]
    obtain ⟨rest, hrest⟩ : ∃ z, rs.map (fun r => D.str ("def " ++ r.f ++ "(" ++ Txt.join ", " r.ps ++ ") = " ++ txt m r.b)) = z := ⟨_, rfl⟩
    rw [hrest] at ih ⊢
    generalize txt m r.b = tb at *
    generalize Txt.join ", " r.ps = J at *
    have a1 : ∀ N, addD N (.str "def ") (.str r.f) = some (.val (.str ("def " ++ r.f))) := fun N => add_ss (by rw [w18]; omega)
    have a2 : ∀ N, addD N (.str ("def " ++ r.f)) (.str "(") = some (.val (.str ("def " ++ r.f ++ "("))) := fun N => add_ss (by simp only [Str.length_append, w18, w1]; omega)
    have a3 : ∀ N, addD N (.str ("def " ++ r.f ++ "(")) (.str J) = some (.val (.str ("def " ++ r.f ++ "(" ++ J))) := fun N => add_ss (by simp only [Str.length_append, w18, w1]; omega)
    have a4 : ∀ N, addD N (.str ("def " ++ r.f ++ "(" ++ J)) (.str ") = ") = some (.val (.str ("def " ++ r.f ++ "(" ++ J ++ ") = "))) := fun N => add_ss (by simp only [Str.length_append, w18, w1, w19]; omega)
    have a5 : ∀ N, addD N (.str ("def " ++ r.f ++ "(" ++ J ++ ") = ")) (.str tb) = some (.val (.str ("def " ++ r.f ++ "(" ++ J ++ ") = " ++ tb))) := fun N => add_ss (by simp only [Str.length_append, w18, w1, w19]; omega)
    have step : lp_text_of_0 (sem (K + 93)) [s0, .own acc, .val (.str m), s3, .val (.str r.f), .val (.tup (r.ps.map .str)), .val r.b.toD] M = .next [s0, .own (acc ++ [.str ("def " ++ r.f ++ "(" ++ J ++ ") = " ++ tb)]), .val (.str m), s3, .val (.str r.f), .val (.tup (r.ps.map .str)), .val r.b.toD] M := by
      generalize r.b.toD = BD at *
      generalize r.ps.map D.str = PS at *
      simp [lp_text_of_0_eq, a1, a2, a3, a4, a5, hj, ty_str, hx, hz]
    simp only [Row.toD, bTup, bNames]
    generalize r.b.toD = BD at *
    generalize r.ps.map D.str = PS at *
    simp [step, ih]
end K46
namespace K46
open PySem L2 TP
set_option maxHeartbeats 4000000
def linesP : Pr → List Str
  | [] => []
  | (m, rs) :: P => ("module " ++ m) :: (rs.map (lineR m)) ++ linesP P
structure PrTx (P : Pr) : Prop where
  md : ∀ q ∈ P, q.1.length ≤ 12
  rw_ : ∀ q ∈ P, q.2.length ≤ 12 ∧ ∀ r ∈ q.2, RowTx r
  len : P.length ≤ 8
theorem outer_ok (K : Nat) (s0 : Slot) (M : Store) : ∀ (P : Pr) (acc : List D) (s2 s3 s4 s5 s6 : Slot), (∀ q ∈ P, q.1.length ≤ 12) → (∀ q ∈ P, q.2.length ≤ 12 ∧ ∀ r ∈ q.2, RowTx r) → acc.length + P.length * 13 ≤ 900 →
    ∃ s2' s3' s4' s5' s6', forGo (bTup [2, 3]) (lp_text_of_1 (sem (K + 93))) (P.map rmD) [s0, .own acc, s2, s3, s4, s5, s6] M = .next [s0, .own (acc ++ (linesP P).map .str), s2', s3', s4', s5', s6'] M
  | [], acc, s2, s3, s4, s5, s6, _, _, _ => ⟨s2, s3, s4, s5, s6, by simp [forGo, linesP]⟩
  | (m, rs) :: P, acc, s2, s3, s4, s5, s6, h, h2, hl => by
    have hm : m.length ≤ 12 := h (m, rs) List.mem_cons_self
    obtain ⟨hrl, hr⟩ := h2 (m, rs) List.mem_cons_self
    have hrl' : rs.length ≤ 12 := hrl
    rw [List.length_cons, Nat.succ_mul] at hl
    obtain ⟨t4, t5, t6, hi⟩ := inner_ok K hm s0 (.val (.tup (rs.map Row.toD))) M rs (acc ++ [.str ("module " ++ m)]) s4 s5 s6 hr (by simp; omega)
    obtain ⟨u2, u3, u4, u5, u6, ih⟩ := outer_ok K s0 M P (acc ++ [.str ("module " ++ m)] ++ rs.map fun r => .str (lineR m r)) (.val (.str m)) (.val (.tup (rs.map Row.toD))) t4 t5 t6 (fun q hq => h q (List.mem_cons_of_mem _ hq)) (fun q hq => h2 q (List.mem_cons_of_mem _ hq)) (by simp; omega)
    refine ⟨u2, u3, u4, u5, u6, ?_⟩
    have hz : acc.length < 16777216 := by omega
    have a1 : ∀ N, addD N (.str "module ") (.str m) = some (.val (.str ("module " ++ m))) := fun N => add_ss (by rw [w20]; omega)
    have e : acc ++ (linesP ((m, rs) :: P)).map D.str = acc ++ [.str ("module " ++ m)] ++ (rs.map fun r => .str (lineR m r)) ++ (linesP P).map .str := by
      rw [linesP, List.cons_append, List.map_cons, List.map_append, List.map_map]
      simp
    rw [e, List.map_cons]
    unfold forGo
    generalize (linesP P).map D.str = LP at *
    generalize (rs.map fun r => D.str (lineR m r)) = LR at *
    have hst : lp_text_of_1 (sem (K + 93)) [s0, .own acc, .val (.str m), .val (.tup (rs.map Row.toD)), s4, s5, s6] M = .next [s0, .own (acc ++ [.str ("module " ++ m)] ++ LR), .val (.str m), .val (.tup (rs.map Row.toD)), t4, t5, t6] M := by
      generalize rs.map Row.toD = RD at *
      simp [-List.append_assoc, lp_text_of_1_eq, a1, hz, itemsD, hi]
    simp only [rmD, bTup, bNames]
    generalize rs.map Row.toD = RD at *
    generalize P.map rmD = PM at *
    simp [-List.append_assoc, hst, ih]
theorem lines_len : ∀ {P : Pr}, (∀ q ∈ P, q.1.length ≤ 12) → (∀ q ∈ P, q.2.length ≤ 12 ∧ ∀ r ∈ q.2, RowTx r) → ((linesP P).map (·.length)).sum + (linesP P).length ≤ P.length * 1873000
  | [], _, _ => by simp [linesP]
  | (m, rs) :: P, h, h2 => by
    have hm : m.length ≤ 12 := h (m, rs) List.mem_cons_self
    obtain ⟨hrl, hr⟩ := h2 (m, rs) List.mem_cons_self
    have hrl' : rs.length ≤ 12 := hrl
    have ih := lines_len (P := P) (fun q hq => h q (List.mem_cons_of_mem _ hq)) (fun q hq => h2 q (List.mem_cons_of_mem _ hq))
    have h3 := sum_le (k := 156000) (ys := rs.map (lineR m)) (fun y hy => by
      obtain ⟨r, hr2, rfl⟩ := List.mem_map.mp hy
      exact (hr r hr2).line hm)
    rw [List.length_map] at h3
    have h4 : rs.length * 156000 ≤ 12 * 156000 := Nat.mul_le_mul_right _ hrl'
    rw [linesP, List.cons_append, List.map_cons, List.map_append, List.sum_cons, List.sum_append, List.length_cons, List.length_append, List.length_map, List.length_cons, Nat.succ_mul, Str.length_append, w20]
    omega
theorem wnl : (Str.ofString "\n").length = 1 := rfl
theorem textof_ok (K : Nat) {P : Pr} (ok : PrTx P) (M : Store) : sem (K + 94) f_text_of [pgD P] M = .ok (.val (.str (Txt.join "\n" (linesP P)))) M := by
  have hlp := ok.len
  obtain ⟨u2, u3, u4, u5, u6, h⟩ := outer_ok K (.val (pgD P)) M P [] .un .un .un .un .un ok.md ok.rw_ (by simp; omega)
  have hl := lines_len ok.md ok.rw_
  have hj : ∀ N, joinD N (.str "\n") [.lst ((linesP P).map .str)] = some (.val (.str (Txt.join "\n" (linesP P)))) := fun N => join_ok (by
    rw [wnl]
    have : P.length * 1873000 ≤ 8 * 1873000 := Nat.mul_le_mul_right _ hlp
    omega)
  have hi : itemsD (pgD P) = some (P.map rmD) := rfl
  rw [List.nil_append] at h
  rw [e_text_of]
  generalize pgD P = PG at *
  generalize (linesP P).map D.str = LP at *
  simp [runF, m_text_of, startD, hi, h, hj, ty_str]
end K46
namespace K46
open PySem L2 TP
set_option maxHeartbeats 4000000
theorem linner_ok (K : Nat) {m : Str} (hm : m.length ≤ 12) (s0 s3 : Slot) : ∀ (rs : List Row) (acc : List D) (s4 s5 s6 : Slot) (M : Store), (∀ r ∈ rs, RowTx r) → acc.length + rs.length ≤ 1000 →
    ∃ X s4' s5' s6', forGo (bTup [5, 6, 7]) (lp__law_program_text_0 (sem (K + 93))) (rs.map Row.toD) [s0, .val (.lst []), .own acc, .val (.str m), s3, s4, s5, s6] M = .next [s0, .val (.lst []), .own (acc ++ rs.map fun r => .str (lineR m r)), .val (.str m), s3, s4', s5', s6'] (M ++ X)
  | [], acc, s4, s5, s6, M, _, _ => ⟨[], s4, s5, s6, by simp [forGo]⟩
  | r :: rs, acc, s4, s5, s6, M, h, hl => by
    have hr := h r List.mem_cons_self
    obtain ⟨X, hx⟩ : ∃ X, sem (K + 93) f__law_free_text [.str m, r.b.toD, .lst []] M = .ok (.val (.str (txt m r.b))) (M ++ X) := by
      obtain ⟨X, h⟩ := ltext_ok 30 r.b (K + 29) hm hr.dep hr.tx hr.sg (by have := hr.cnt; omega) M
      exact ⟨X, lfree_ok (K + 92) M X h⟩
    rw [List.length_cons] at hl
    obtain ⟨X2, t4, t5, t6, ih⟩ := linner_ok K hm s0 s3 rs (acc ++ [.str (lineR m r)]) (.val (.str r.f)) (.val (.tup (r.ps.map .str))) (.val r.b.toD) (M ++ X) (fun y hy => h y (List.mem_cons_of_mem _ hy)) (by simp; omega)
    refine ⟨X ++ X2, t4, t5, t6, ?_⟩
    rw [← List.append_assoc]
    have h1 := txt_len hm r.b hr.tx
    have h2 := join_len ", " r.ps
    rw [w5] at h2
    have h3 := hr.sum
    have h4 := hr.f
    have h5 := hr.cnt
    have hj : ∀ N, joinD N (.str ", ") [.tup (r.ps.map .str)] = some (.val (.str (Txt.join ", " r.ps))) := fun N => join_okT (by rw [w5]; omega)
    have hz : acc.length < 16777216 := by omega
    unfold lineR at ih ⊢
    rw [List.map_cons, List.map_cons]
    unfold forGo
    rw [show acc ++ D.str ("def " ++ r.f ++ "(" ++ Txt.join ", " r.ps ++ ") = " ++ txt m r.b) :: rs.map (fun r => D.str ("def " ++ r.f ++ "(" ++ Txt.join ", " r.ps ++ ") = " ++ txt m r.b)) = acc ++ [D.str ("def " ++ r.f ++ "(" ++ Txt.join ", " r.ps ++ ") = " ++ txt m r.b)] ++ rs.map (fun r => D.str ("def " ++ r.f ++ "(" ++ Txt.join ", " r.ps ++ ") = " ++ txt m r.b)) by simp]
    obtain ⟨rest, hrest⟩ : ∃ z, rs.map (fun r => D.str ("def " ++ r.f ++ "(" ++ Txt.join ", " r.ps ++ ") = " ++ txt m r.b)) = z := ⟨_, rfl⟩
    rw [hrest] at ih ⊢
    generalize txt m r.b = tb at *
    generalize Txt.join ", " r.ps = J at *
    have a1 : ∀ N, addD N (.str "def ") (.str r.f) = some (.val (.str ("def " ++ r.f))) := fun N => add_ss (by rw [w18]; omega)
    have a2 : ∀ N, addD N (.str ("def " ++ r.f)) (.str "(") = some (.val (.str ("def " ++ r.f ++ "("))) := fun N => add_ss (by simp only [Str.length_append, w18, w1]; omega)
    have a3 : ∀ N, addD N (.str ("def " ++ r.f ++ "(")) (.str J) = some (.val (.str ("def " ++ r.f ++ "(" ++ J))) := fun N => add_ss (by simp only [Str.length_append, w18, w1]; omega)
    have a4 : ∀ N, addD N (.str ("def " ++ r.f ++ "(" ++ J)) (.str ") = ") = some (.val (.str ("def " ++ r.f ++ "(" ++ J ++ ") = "))) := fun N => add_ss (by simp only [Str.length_append, w18, w1, w19]; omega)
    have a5 : ∀ N, addD N (.str ("def " ++ r.f ++ "(" ++ J ++ ") = ")) (.str tb) = some (.val (.str ("def " ++ r.f ++ "(" ++ J ++ ") = " ++ tb))) := fun N => add_ss (by simp only [Str.length_append, w18, w1, w19]; omega)
    have step : lp__law_program_text_0 (sem (K + 93)) [s0, .val (.lst []), .own acc, .val (.str m), s3, .val (.str r.f), .val (.tup (r.ps.map .str)), .val r.b.toD] M = .next [s0, .val (.lst []), .own (acc ++ [.str ("def " ++ r.f ++ "(" ++ J ++ ") = " ++ tb)]), .val (.str m), s3, .val (.str r.f), .val (.tup (r.ps.map .str)), .val r.b.toD] (M ++ X) := by
      generalize r.b.toD = BD at *
      generalize r.ps.map D.str = PS at *
      simp [-List.append_assoc, lp__law_program_text_0_eq, a1, a2, a3, a4, a5, hj, ty_str, hx, hz]
    simp only [Row.toD, bTup, bNames]
    generalize r.b.toD = BD at *
    generalize r.ps.map D.str = PS at *
    simp [-List.append_assoc, step, ih]
theorem louter_ok (K : Nat) (s0 : Slot) : ∀ (P : Pr) (acc : List D) (s2 s3 s4 s5 s6 : Slot) (M : Store), (∀ q ∈ P, q.1.length ≤ 12) → (∀ q ∈ P, q.2.length ≤ 12 ∧ ∀ r ∈ q.2, RowTx r) → acc.length + P.length * 13 ≤ 900 →
    ∃ X s2' s3' s4' s5' s6', forGo (bTup [3, 4]) (lp__law_program_text_1 (sem (K + 93))) (P.map rmD) [s0, .val (.lst []), .own acc, s2, s3, s4, s5, s6] M = .next [s0, .val (.lst []), .own (acc ++ (linesP P).map .str), s2', s3', s4', s5', s6'] (M ++ X)
  | [], acc, s2, s3, s4, s5, s6, M, _, _, _ => ⟨[], s2, s3, s4, s5, s6, by simp [forGo, linesP]⟩
  | (m, rs) :: P, acc, s2, s3, s4, s5, s6, M, h, h2, hl => by
    have hm : m.length ≤ 12 := h (m, rs) List.mem_cons_self
    obtain ⟨hrl, hr⟩ := h2 (m, rs) List.mem_cons_self
    have hrl' : rs.length ≤ 12 := hrl
    rw [List.length_cons, Nat.succ_mul] at hl
    obtain ⟨X, t4, t5, t6, hi⟩ := linner_ok K hm s0 (.val (.tup (rs.map Row.toD))) rs (acc ++ [.str ("module " ++ m)]) s4 s5 s6 M hr (by simp; omega)
    obtain ⟨X2, u2, u3, u4, u5, u6, ih⟩ := louter_ok K s0 P (acc ++ [.str ("module " ++ m)] ++ rs.map fun r => .str (lineR m r)) (.val (.str m)) (.val (.tup (rs.map Row.toD))) t4 t5 t6 (M ++ X) (fun q hq => h q (List.mem_cons_of_mem _ hq)) (fun q hq => h2 q (List.mem_cons_of_mem _ hq)) (by simp; omega)
    refine ⟨X ++ X2, u2, u3, u4, u5, u6, ?_⟩
    rw [← List.append_assoc]
    have hz : acc.length < 16777216 := by omega
    have a1 : ∀ N, addD N (.str "module ") (.str m) = some (.val (.str ("module " ++ m))) := fun N => add_ss (by rw [w20]; omega)
    have e : acc ++ (linesP ((m, rs) :: P)).map D.str = acc ++ [.str ("module " ++ m)] ++ (rs.map fun r => .str (lineR m r)) ++ (linesP P).map .str := by
      rw [linesP, List.cons_append, List.map_cons, List.map_append, List.map_map]
      simp
    rw [e, List.map_cons]
    unfold forGo
    generalize (linesP P).map D.str = LP at *
    generalize (rs.map fun r => D.str (lineR m r)) = LR at *
    have hst : lp__law_program_text_1 (sem (K + 93)) [s0, .val (.lst []), .own acc, .val (.str m), .val (.tup (rs.map Row.toD)), s4, s5, s6] M = .next [s0, .val (.lst []), .own (acc ++ [.str ("module " ++ m)] ++ LR), .val (.str m), .val (.tup (rs.map Row.toD)), t4, t5, t6] (M ++ X) := by
      generalize rs.map Row.toD = RD at *
      simp [-List.append_assoc, lp__law_program_text_1_eq, a1, hz, itemsD, hi]
    simp only [rmD, bTup, bNames]
    generalize rs.map Row.toD = RD at *
    generalize P.map rmD = PM at *
    simp [-List.append_assoc, hst, ih]
theorem ltextof_ok (K : Nat) {P : Pr} (ok : PrTx P) (M : Store) : ∃ X, sem (K + 94) f__law_program_text [pgD P, .lst []] M = .ok (.val (.str (Txt.join "\n" (linesP P)))) (M ++ X) := by
  have hlp := ok.len
  obtain ⟨X, u2, u3, u4, u5, u6, h⟩ := louter_ok K (.val (pgD P)) P [] .un .un .un .un .un M ok.md ok.rw_ (by simp; omega)
  have hl := lines_len ok.md ok.rw_
  have hj : ∀ N, joinD N (.str "\n") [.lst ((linesP P).map .str)] = some (.val (.str (Txt.join "\n" (linesP P)))) := fun N => join_ok (by
    rw [wnl]
    have : P.length * 1873000 ≤ 8 * 1873000 := Nat.mul_le_mul_right _ hlp
    omega)
  have hi : itemsD (pgD P) = some (P.map rmD) := rfl
  rw [List.nil_append] at h
  refine ⟨X, ?_⟩
  rw [e__law_program_text]
  generalize pgD P = PG at *
  generalize (linesP P).map D.str = LP at *
  simp [-List.append_assoc, runF, m__law_program_text, startD, hi, h, hj, ty_str]
end K46
namespace K46
open PySem L2 TP
set_option maxHeartbeats 4000000
def abc : Str := "abcdefghijklmnopqrstuvwxyz"
def lets (r : Int) : List Str := (List.range 16).map fun k => (⟨#[97 + ((r + 5 * (k : Nat)) % 26).toNat]⟩ : Str)
def wrd (s : Str) : Str := "n" ++ s ++ "or"
def poolsOf (r : Int) : List (List Str) := [lets r, (lets r).map wrd,
  ["g", "gr", "gra", "grap", "graph", "graphi", "graphit", "graphite", "s", "sa", "san", "sand", "sandw", "sandwi", "sandwic", "sandwich"],
  ["modules", "defs", "letter", "ins", "iffy", "thence", "elsewhen", "timesup", "ass", "fromm", "dot", "tells", "stopped", "asas", "dodo", "inlet"]]
def pool (n : Int) : List Str := (atI (poolsOf (n / 1536 % 26)) (n % 4)).getD []
def nameAt (n k : Int) : Str := (atI (pool n) (spotAt n k)).getD ""
def namesL (n : Int) : List Str := (List.range 16).map fun k => nameAt n (k : Nat)
theorem pools_all : (List.range 26).all (fun r => (poolsOf (r : Nat)).all fun p => decide p.Nodup && (p.length == 16 && p.all fun x => okStr x && decide (x.length ≤ 12))) = true := by decide +kernel
theorem pool_mem (n : Int) : pool n ∈ poolsOf (n / 1536 % 26) ∧ atI (poolsOf (n / 1536 % 26)) (n % 4) = some (pool n) := by
  obtain ⟨p, hp, ha⟩ := atI_mem (xs := poolsOf (n / 1536 % 26)) (i := n % 4) (by omega) (by show _ < (4 : Int); omega)
  unfold pool
  rw [ha]
  exact ⟨hp, rfl⟩
theorem pool_ok (n : Int) : (pool n).Nodup ∧ (pool n).length = 16 ∧ ∀ x ∈ pool n, okStr x = true ∧ x.length ≤ 12 := by
  have h0 : 0 ≤ n / 1536 % 26 ∧ n / 1536 % 26 < 26 := by omega
  have h := (pool_mem n).1
  generalize n / 1536 % 26 = r at h h0
  have e : ((r.toNat : Nat) : Int) = r := by omega
  have h1 := List.all_eq_true.mp pools_all r.toNat (List.mem_range.mpr (by omega))
  rw [e] at h1
  have h2 := List.all_eq_true.mp h1 _ h
  simp only [Bool.and_eq_true, decide_eq_true_eq, beq_iff_eq] at h2
  refine ⟨h2.1, h2.2.1, fun x hx => ?_⟩
  have h3 := List.all_eq_true.mp h2.2.2 x hx
  simpa only [Bool.and_eq_true, decide_eq_true_eq] using h3
theorem nameAt_mem (n k : Int) : nameAt n k ∈ pool n ∧ atI (pool n) (spotAt n k) = some (nameAt n k) := by
  obtain ⟨p, hp, ha⟩ := atI_mem (xs := pool n) (i := spotAt n k) (by unfold spotAt; omega) (by rw [(pool_ok n).2.1]; unfold spotAt; omega)
  unfold nameAt
  rw [ha]
  exact ⟨hp, rfl⟩
theorem nameAt_ok (n k : Int) : okStr (nameAt n k) = true := ((pool_ok n).2.2 _ (nameAt_mem n k).1).1
theorem nameAt_len (n k : Int) : (nameAt n k).length ≤ 12 := ((pool_ok n).2.2 _ (nameAt_mem n k).1).2
theorem namesL_len (n : Int) : (namesL n).length = 16 := by unfold namesL; rw [List.length_map, List.length_range]
theorem namesL_of {n : Int} {x : Str} (h : x ∈ namesL n) : okStr x = true ∧ x.length ≤ 12 := by
  unfold namesL at h
  obtain ⟨k, _, rfl⟩ := List.mem_map.mp h
  exact ⟨nameAt_ok _ _, nameAt_len _ _⟩
theorem namesL_ok {n : Int} {x : Str} (h : x ∈ namesL n) : okStr x = true := (namesL_of h).1
theorem namesL_at {n i : Int} (h0 : 0 ≤ i) (h1 : i < 16) : atI ((namesL n).map D.str) i = some (.str (nameAt n i)) := by
  have e : ((i.toNat : Nat) : Int) = i := by omega
  have hi : i.toNat < 16 := by omega
  generalize i.toNat = j at e hi
  subst e
  refine atI_nat ?_
  unfold namesL
  rw [List.getElem?_map, List.getElem?_map, List.getElem?_range hi]
  rfl
theorem nameAt_names {n i : Int} (h0 : 0 ≤ i) (h1 : i < 16) : nameAt n i ∈ namesL n := by
  unfold namesL
  refine List.mem_map.mpr ⟨i.toNat, List.mem_range.mpr (by omega), ?_⟩
  rw [show ((i.toNat : Nat) : Int) = i by omega]
theorem nameAt_inj {n i j : Int} (hi : 0 ≤ i) (hi2 : i < 16) (hj : 0 ≤ j) (hj2 : j < 16) (h : nameAt n i = nameAt n j) : i = j := by
  have h1 := (nameAt_mem n i).2
  have h2 := (nameAt_mem n j).2
  rw [h, ← h2] at h1
  refine spot_inj hi hi2 hj hj2 (atI_inj (pool_ok n).1 ?_ ?_ ?_ ?_ h1) <;> (try rw [(pool_ok n).2.1]) <;> unfold spotAt <;> omega
theorem abc_at {i : Int} (h0 : 0 ≤ i) (h1 : i < 26) : atI (Str.ofString "abcdefghijklmnopqrstuvwxyz").cps.toList i = some (97 + i.toNat) := by
  have h3 : (Str.ofString "abcdefghijklmnopqrstuvwxyz").cps.toList = (List.range 26).map fun k => 97 + k := by decide +kernel
  have e : ((i.toNat : Nat) : Int) = i := by omega
  have hi : i.toNat < 26 := by omega
  generalize i.toNat = j at e hi
  subst e
  rw [h3]
  refine atI_nat ?_
  rw [List.getElem?_map, List.getElem?_range hi]
  rfl
theorem names_ok (K : Nat) (n : Int) (M : Store) : sem (K + 1) f__law_names [.int n] M = .ok (.own ((namesL n).map .str)) M := by
  have hlen : (Str.ofString "abcdefghijklmnopqrstuvwxyz").length ≤ 16777216 := by decide +kernel
  have h0 : lcGo (bName 4) dYes (el__law_names_0 (sem K)) [.val (.int n), .un, .un, .un, .un, .un] (rngL 0 16) [] M = .ok ((lets (n / 1536 % 26)).map .str) M := by
    have := lcGo_map (b := bName 4) (f := el__law_names_0 (sem K)) (ρ0 := [.val (.int n), .un, .un, .un, .un, .un]) (M := M) (fun d => match d with | .int k => .str ⟨#[97 + ((n / 1536 % 26 + 5 * k) % 26).toNat]⟩ | _ => .non) (rngL 0 16) (fun d hd => by
      obtain ⟨i, hi⟩ := List.getElem?_of_mem hd
      obtain ⟨hi1, rfl⟩ := rngL_get hi
      have m1 : mulOk 5 (i : Int) = true := mulOk_l (by decide) (by decide)
      have h3 := abc_at (i := (n / 1536 + 5 * (i : Int)) % 26) (by omega) (by omega)
      have h4 : (n / 1536 % 26 + 5 * (i : Int)) % 26 = (n / 1536 + 5 * (i : Int)) % 26 := by omega
      refine ⟨_, rfl, ?_⟩
      rw [Int.zero_add]
      simp only [h4]
      simp [el__law_names_0_eq, m1, h3, hlen]) (by rw [rngL_len, szL]; omega)
    rw [this]
    unfold lets rngL
    rw [List.map_map, List.map_map]
    congr 1
  generalize hL : lets (n / 1536 % 26) = L at h0
  have hLl : L.length = 16 := by rw [← hL]; unfold lets; rw [List.length_map, List.length_range]
  have hL1 : ∀ s ∈ L, s.length ≤ 1 := fun s hs => by
    rw [← hL] at hs
    unfold lets at hs
    obtain ⟨k, _, rfl⟩ := List.mem_map.mp hs
    exact Nat.le_refl 1
  have h1 : lcGo (bName 5) dYes (el__law_names_2 (sem K)) [.val (.int n), .val (.lst (L.map .str)), .un, .un, .un, .un] (L.map .str) [] M = .ok (L.map .str) M :=
    lcGo_mp D.str D.str L (fun x hx => ⟨_, rfl, by simp [el__law_names_2_eq]⟩) (by omega)
  have h2 : lcGo (bName 5) dYes (el__law_names_1 (sem K)) [.val (.int n), .val (.lst (L.map .str)), .un, .un, .un, .un] (L.map .str) [] M = .ok ((L.map wrd).map .str) M := by
    rw [List.map_map]
    refine lcGo_mp D.str (D.str ∘ wrd) L (fun x hx => ⟨_, rfl, ?_⟩) (by omega)
    have hx1 := hL1 x hx
    have e1 : (Str.ofString "n").length = 1 := rfl
    have e2 : (Str.ofString "or").length = 2 := rfl
    have a1 : addD M (.str "n") (.str x) = some (.val (.str ("n" ++ x))) := by
      show (if (Str.ofString "n").length + x.length ≤ sizeLine then _ else _) = _
      rw [szL, if_pos (by omega)]
    have a2 : addD M (.str ("n" ++ x)) (.str "or") = some (.val (.str ("n" ++ x ++ "or"))) := by
      show (if ("n" ++ x : Str).length + (Str.ofString "or").length ≤ sizeLine then _ else _) = _
      rw [szL, if_pos (by rw [Str.length_append]; omega)]
    simp [el__law_names_1_eq, a1, a2, wrd]
  have h3 : ∀ s1 s2 s3 : Slot, lcGo (bName 4) dYes (el__law_names_3 (sem K)) [.val (.int n), s1, s2, s3, .un, .un] (rngL 0 8) [] M = .ok (([("g" : Str), "gr", "gra", "grap", "graph", "graphi", "graphit", "graphite"].map D.str)) M := fun s1 s2 s3 => by kernel_rfl
  have h4 : ∀ s1 s2 s3 : Slot, lcGo (bName 4) dYes (el__law_names_4 (sem K)) [.val (.int n), s1, s2, s3, .un, .un] (rngL 0 8) [] M = .ok (([("s" : Str), "sa", "san", "sand", "sandw", "sandwi", "sandwic", "sandwich"].map D.str)) M := fun s1 s2 s3 => by kernel_rfl
  have h5 : atI ((poolsOf (n / 1536 % 26)).map fun l => D.lst (l.map .str)) (n % 4) = some (.lst ((pool n).map .str)) := by
    rw [atI_map, (pool_mem n).2]; rfl
  have h6 : ∀ s3 : Slot, lcGo (bName 4) dYes (el__law_names_5 (sem K)) [.val (.int n), .val (.lst (L.map .str)), .val (.lst ((pool n).map .str)), s3, .un, .un] (rngL 0 16) [] M = .ok ((namesL n).map .str) M := fun s3 => by
    have := lcGo_map (b := bName 4) (f := el__law_names_5 (sem K)) (ρ0 := [.val (.int n), .val (.lst (L.map .str)), .val (.lst ((pool n).map .str)), s3, .un, .un]) (M := M) (fun d => match d with | .int k => .str (nameAt n k) | _ => .non) (rngL 0 16) (fun d hd => by
      obtain ⟨i, hi⟩ := List.getElem?_of_mem hd
      obtain ⟨hi1, rfl⟩ := rngL_get hi
      have h3 : atI ((pool n).map D.str) (spotAt n (0 + (i : Int))) = some (.str (nameAt n (0 + (i : Int)))) := by
        rw [atI_map, (nameAt_mem n _).2]; rfl
      unfold spotAt at h3
      have m1 : ∀ x, mulOk 2 x = true := fun x => mulOk_l (by decide) (by decide)
      have m2 : mulOk (2 * (n / 48 % 8) + 1) (0 + (i : Int)) = true := mulOk_l (by omega) (by omega)
      refine ⟨_, rfl, ?_⟩
      rw [Int.zero_add] at h3 m2 ⊢
      simp [el__law_names_5_eq, m1, m2, h3]) (by rw [rngL_len, szL]; omega)
    rw [this]
    unfold namesL rngL
    rw [List.map_map, List.map_map]
    congr 1
  have h7 : (poolsOf (n / 1536 % 26)).map (fun l => D.lst (l.map .str)) = [.lst (L.map .str), .lst ((L.map wrd).map .str), .lst ([("g" : Str), "gr", "gra", "grap", "graph", "graphi", "graphit", "graphite", "s", "sa", "san", "sand", "sandw", "sandwi", "sandwic", "sandwich"].map D.str), .lst ([("modules" : Str), "defs", "letter", "ins", "iffy", "thence", "elsewhen", "timesup", "ass", "fromm", "dot", "tells", "stopped", "asas", "dodo", "inlet"].map D.str)] := by
    unfold poolsOf
    rw [hL]
    rfl
  rw [h7] at h5
  have r16 : rng1D [.int 16] = some (rngL 0 16) := rfl
  have r8 : rng1D [.int 8] = some (rngL 0 8) := rfl
  rw [e__law_names]
  generalize (L.map wrd).map D.str = L2 at *
  generalize L.map D.str = L1 at *
  generalize (pool n).map D.str = L3 at *
  generalize (namesL n).map D.str = L4 at *
  simp only [List.map_cons, List.map_nil] at h3 h4 h5
  simp [-rng1D_int, runF, m__law_names, startD, r16, r8, wipeD, h0, itemsD, h1, h2, h3, h4, addD, lstOf]
  simp [-rng1D_int, h5, r16, wipeD, h6]
end K46
namespace K46.Dr
open PySem L2 TP
set_option maxHeartbeats 2000000
theorem number_ok (K : Nat) (n : Int) (M : Store) : ∃ r : Int, sem (K + 1) f__law_number [.int n] M = .ok (.val (.int r)) M ∧ -(10 ^ 30) ≤ r ∧ r ≤ 10 ^ 30 := by
  rw [e__law_number]
  obtain ⟨a, ha, haa⟩ := atI_mem (xs := [(10 : Int) ^ 30, -(10 ^ 30), 1001, 0]) (i := n / 12 % 4) (by omega) (by show _ < (4 : Int); omega)
  obtain ⟨r, hr, hra⟩ := atI_mem (xs := [n / 12 % 5, n / 12 % 5 - 2, n / 12 % 100, a]) (i := n % 12 / 3) (by omega) (by show _ < (4 : Int); omega)
  have h1 := atI_map D.int [(10 : Int) ^ 30, -(10 ^ 30), 1001, 0] (n / 12 % 4)
  have h2 := atI_map D.int [n / 12 % 5, n / 12 % 5 - 2, n / 12 % 100, a] (n % 12 / 3)
  rw [haa] at h1
  rw [hra] at h2
  simp at h1 h2
  refine ⟨r, ?_, ?_⟩
  · simp [runF, m__law_number, startD, h1, h2]
  · simp only [List.mem_cons, List.not_mem_nil, or_false] at ha hr
    rcases hr with rfl | rfl | rfl | rfl
    · omega
    · omega
    · omega
    · rcases ha with rfl | rfl | rfl | rfl <;> omega
theorem goodStrs1 : ∀ (sc : List Str), (∀ x ∈ sc, okStr x = true) → goodL (sc.map .str) = true ∧ dpL (sc.map .str) = 0
  | [], _ => ⟨rfl, rfl⟩
  | s :: sc, h => by
    obtain ⟨h1, h2⟩ := goodStrs1 sc fun x hx => h x (List.mem_cons_of_mem _ hx)
    have h3 : goodD (.str s) = true := h s List.mem_cons_self
    have h4 : dpD (.str s) = 0 := rfl
    rw [List.map_cons, goodL, dpL, h1, h2, h3, h4]
    exact ⟨rfl, rfl⟩
theorem goodStrs {sc : List Str} (h : ∀ x ∈ sc, okStr x = true) : goodD (.lst (sc.map .str)) = true ∧ dpD (.lst (sc.map .str)) ≤ 190 := by
  obtain ⟨h1, h2⟩ := goodStrs1 sc h
  rw [goodD, dpD, h1, h2]
  exact ⟨rfl, by decide⟩
theorem leaf_ok (K : Nat) (at_ : D) (sc : List Str) (hsc : ∀ x ∈ sc, okStr x = true) (n : Int) (M : Store) (nm : Str → Prop) (ah : Str → Str → Nat → Prop) : ∃ e : Ex, sem (K + 2) f__law_leaf [at_, .lst (sc.map .str), .int n] M = .ok (.val e.toD) M ∧ Ex.Wf nm ah sc e ∧ e.dep = 0 ∧ e.cnt = 1 := by
  obtain ⟨r, hr, hr0, hr1⟩ := number_ok K (n / 4) M
  rw [e__law_leaf]
  cases sc with
  | nil =>
    refine ⟨.num r, ?_, by rw [Ex.Wf]; exact ⟨hr0, hr1⟩, by rw [Ex.dep], by rw [Ex.cnt]⟩
    have hne : ∀ M, neD M (.lst []) (.lst []) = some (.val (.bl false)) := fun M => rfl
    simp [runF, m__law_leaf, startD, hne, hr, Ex.toD]
  | cons s ss =>
    have hg := goodStrs hsc
    have hne : ∀ M, neD M (.lst ((s :: ss).map .str)) (.lst []) = some (.val (.bl true)) := fun M => by
      rw [neD_of M hg.1 (by decide +kernel) hg.2]
      rfl
    by_cases hn : 0 < n % 4
    · have hl : (0 : Int) < ((s :: ss).length : Int) := by simp
      obtain ⟨x, hx, hxa⟩ := atI_mem (xs := s :: ss) (i := n / 4 % ((s :: ss).length : Int)) (Int.emod_nonneg _ (by omega)) (Int.emod_lt_of_pos _ hl)
      have h2 := atI_map D.str (s :: ss) (n / 4 % ((s :: ss).length : Int))
      rw [hxa] at h2
      refine ⟨.use x, ?_, by rw [Ex.Wf]; exact hx, by rw [Ex.dep], by rw [Ex.cnt]⟩
      have hl' : 0 < (s :: ss).length := by simp
      generalize hL : s :: ss = L at *
      simp [runF, m__law_leaf, startD, hne, hn, hl', h2, Ex.toD]
    · refine ⟨.num r, ?_, by rw [Ex.Wf]; exact ⟨hr0, hr1⟩, by rw [Ex.dep], by rw [Ex.cnt]⟩
      generalize hL : s :: ss = L at *
      simp [runF, m__law_leaf, startD, hne, hn, hr, Ex.toD]
def CellsD (c : D) : Prop := ∃ ns : List Int, ns.length ≤ 63 ∧ (c = .fro (ns.map .int) ∨ c = .lst (ns.map .int))
theorem cell1 (K : Nat) {c : D} (hc : CellsD c) {j : Nat} {k : Int} {M : Store} (hj : M[j]? = some (.lst [.int k])) (h0 : -1 ≤ k) (h1 : k < 2 ^ 40) :
    ∃ r : Int, 0 ≤ r ∧ sem (K + 1) f__law_cell [c, .ref j] M = .ok (.val (.int r)) (M.set j (.lst [.int (k + 1)])) := by
  obtain ⟨ns, hl, rfl | rfl⟩ := hc
  · exact cell_fro ns j k M hl hj h0 h1
  · exact cell_ok ns j k M hl hj h0 h1
end K46.Dr
namespace K46.Dr
open PySem L2 TP
set_option maxHeartbeats 4000000
/-- a row of what is ahead -/
structure Ah where
  m : Str
  f : Str
  k : Nat
  q : Bool
def Ah.toD (r : Ah) : D := .tup [.str r.m, .str r.f, .int r.k, .bl r.q]
def AhOk (ah : List Ah) : Prop := ah.length ≤ 1000 ∧ ∀ r ∈ ah, okStr r.m = true ∧ okStr r.f = true ∧ r.k ≤ 5
def ahP (ah : List Ah) (m f : Str) (k : Nat) : Prop := ∃ r ∈ ah, r.m = m ∧ r.f = f ∧ r.k = k
def AtOk (M : Store) (a : Nat) (n : Int) (ah : List Ah) (q : Bool) : Prop := ∃ kvs : List (Key × D), M[a]? = some (.dK kvs) ∧ lookD kvs (.inr "names") = some (.lst ((namesL n).map .str)) ∧ lookD kvs (.inr "ahead") = some (.lst (ah.map Ah.toD)) ∧ lookD kvs (.inr "quiet") = some (.bl q)
theorem AtOk.set {M : Store} {a j : Nat} {n : Int} {ah : List Ah} {q : Bool} {o : MO} (h : AtOk M a n ah q) (hj : j ≠ a) : AtOk (M.set j o) a n ah q := by
  obtain ⟨kvs, h1, h2⟩ := h
  exact ⟨kvs, by rw [List.getElem?_set_ne hj]; exact h1, h2⟩
theorem at_names {M : Store} {a : Nat} {n : Int} {ah : List Ah} {q : Bool} (h : AtOk M a n ah q) : dgetD M (.ref a) (.str "names") = some (.val (.lst ((namesL n).map .str))) := by
  obtain ⟨kvs, h1, h2, h3, h4⟩ := h
  simp [dgetD, dGetO, h1, keyD, h2]
theorem at_ahead {M : Store} {a : Nat} {n : Int} {ah : List Ah} {q : Bool} (h : AtOk M a n ah q) : dgetD M (.ref a) (.str "ahead") = some (.val (.lst (ah.map Ah.toD))) := by
  obtain ⟨kvs, h1, h2, h3, h4⟩ := h
  simp [dgetD, dGetO, h1, keyD, h3]
theorem at_quiet {M : Store} {a : Nat} {n : Int} {ah : List Ah} {q : Bool} (h : AtOk M a n ah q) : dgetD M (.ref a) (.str "quiet") = some (.val (.bl q)) := by
  obtain ⟨kvs, h1, h2, h3, h4⟩ := h
  simp [dgetD, dGetO, h1, keyD, h4]
/-- what is drawn with d left, by K levels -/
def ExprOk (K d : Nat) : Prop := ∀ (cs : D) (j a : Nat) (c : Int) (M : Store) (n : Int) (ah : List Ah) (q : Bool) (sc : List Str) (dI : Int), dI = d → CellsD cs → j ≠ a → M[j]? = some (.lst [.int c]) → -1 ≤ c → c + 8 ^ d < 2 ^ 39 → AtOk M a n ah q → AhOk ah → (∀ x ∈ sc, x ∈ namesL n) → sc.length + 2 * d ≤ 100 →
  ∃ (e : Ex) (c' : Int), sem K f__law_expression [cs, .ref j, .ref a, .lst (sc.map .str), .int dI] M = .ok (.val e.toD) (M.set j (.lst [.int c'])) ∧ Ex.Wf (· ∈ namesL n) (ahP ah) sc e ∧ e.dep ≤ d ∧ e.cnt ≤ 6 ^ d ∧ c < c' ∧ c' ≤ c + 8 ^ d
def PartOk (f K d : Nat) : Prop := ∀ (cs : D) (j a : Nat) (c : Int) (M : Store) (n : Int) (ah : List Ah) (q : Bool) (sc : List Str) (m : Int) (dI : Int), dI = d + 2 → CellsD cs → j ≠ a → M[j]? = some (.lst [.int c]) → -1 ≤ c → c + 8 ^ (d + 2) < 2 ^ 39 + 1 → AtOk M a n ah q → AhOk ah → (∀ x ∈ sc, x ∈ namesL n) → sc.length + 2 * (d + 2) ≤ 100 →
  ∃ (e : Ex) (c' : Int), sem K f [cs, .ref j, .ref a, .lst (sc.map .str), .int dI, .int m] M = .ok (.val e.toD) (M.set j (.lst [.int c'])) ∧ Ex.Wf (· ∈ namesL n) (ahP ah) sc e ∧ e.dep ≤ d + 2 ∧ e.cnt ≤ 6 ^ (d + 2) ∧ c ≤ c' ∧ c' + 1 ≤ c + 8 ^ (d + 2)
theorem pow8 (d : Nat) : (8 : Int) ^ (d + 1) = 8 * 8 ^ d := by rw [Int.pow_succ, Int.mul_comm]
theorem pow6 (d : Nat) : (6 : Nat) ^ (d + 2) = 6 * 6 ^ (d + 1) ∧ 6 ^ (d + 1) = 6 * 6 ^ d ∧ 1 ≤ 6 ^ d := ⟨by rw [Nat.pow_succ, Nat.mul_comm], by rw [Nat.pow_succ, Nat.mul_comm], by have := @Nat.pow_le_pow_left 1 6 (by decide) d; rwa [Nat.one_pow] at this⟩
theorem pow8pos : ∀ d : Nat, (1 : Int) ≤ 8 ^ d
  | 0 => by decide
  | d + 1 => by rw [pow8]; have := pow8pos d; omega
theorem sign_at (n : Int) (q : Bool) : ∃ s ∈ signs, ∃ ch : Nat, atI (Str.ofString "+-*=</&").cps.toList (n % (if q = true then 5 else 7)) = some ch ∧ (⟨#[ch]⟩ : Str) = s ∧ okStr s = true := by
  have h0 : 0 ≤ n % (if q then 5 else 7) ∧ n % (if q then 5 else 7) < 7 := by cases q <;> simp <;> omega
  obtain ⟨s, hs, ha⟩ := atI_mem (xs := signs) (i := n % (if q then 5 else 7)) h0.1 h0.2
  have h1 : signs.all (fun s => decide ((⟨#[s.cps.toList.headD 0]⟩ : Str) = s) && okStr s) = true := by decide +kernel
  have h2 := List.all_eq_true.mp h1 s hs
  simp only [Bool.and_eq_true, decide_eq_true_eq] at h2
  refine ⟨s, hs, s.cps.toList.headD 0, ?_, h2.1, h2.2⟩
  have h3 : (Str.ofString "+-*=</&").cps.toList = signs.map fun s => s.cps.toList.headD 0 := by decide +kernel
  rw [h3, atI_map, ha]
  rfl
theorem op_ok {K d : Nat} (ih : ExprOk K (d + 1)) : PartOk f__law_op (K + 1) d := by
  intro cs j a c M n ah q sc m dI hd hcs hja hj h0 h1 hat hah hsc hl
  rw [e__law_op]
  have hp : (8 : Int) ^ (d + 2) = 8 * 8 ^ (d + 1) := pow8 (d + 1)
  have hp1 := pow8pos (d + 1)
  have h6 := pow6 d
  obtain ⟨s, hs, ch, hsa, hse, hso⟩ := sign_at m q
  obtain ⟨e1, c1, r1, w1, d1, n1, l1, u1⟩ := ih cs j a c M n ah q sc (dI - 1) (by omega) hcs hja hj h0 (by omega) hat hah hsc (by omega)
  obtain ⟨e2, c2, r2, w2, d2, n2, l2, u2⟩ := ih cs j a c1 (M.set j (.lst [.int c1])) n ah q sc (dI - 1) (by omega) hcs hja (get_set hj) (by omega) (by omega) (hat.set hja) hah hsc (by omega)
  rw [set_set] at r2
  have hi : intD M [.bl q] = some (.val (.int (if q = true then 1 else 0))) := by cases q <;> rfl
  have hx : atI [D.int 7, D.int 5] (if q = true then 1 else 0) = some (.int (if q = true then 5 else 7)) := by cases q <;> rfl
  have hpos : (0 : Int) < (if q = true then 5 else 7) := by cases q <;> decide
  have hlen : (Str.ofString "+-*=</&").length ≤ 16777216 := by decide +kernel
  generalize (if q = true then (5 : Int) else 7) = md at hx hpos hsa
  by_cases hstar : s = "*"
  · have he : ∀ M, eqD M (.str s) (.str "*") = some (.val (.bl true)) := fun M => by rw [eqD_str M hso (by decide +kernel), decide_eq_true hstar]
    refine ⟨.op s e1 (.num (m / 7 % 1000 - 3)), c1, ?_, ?_, ?_, by rw [Ex.cnt, Ex.cnt]; omega, by omega, by omega⟩
    · simp [runF, m__law_op, startD, at_quiet hat, hi, hx, hpos, hlen, hsa, hse, r1, he, Ex.toD]
    · rw [Ex.Wf, Ex.Wf]
      exact ⟨hs, w1, by omega, by omega⟩
    · rw [Ex.dep, Ex.dep]; omega
  · have he : ∀ M, eqD M (.str s) (.str "*") = some (.val (.bl false)) := fun M => by rw [eqD_str M hso (by decide +kernel), decide_eq_false hstar]
    refine ⟨.op s e1 e2, c2, ?_, ?_, ?_, by rw [Ex.cnt]; omega, by omega, by omega⟩
    · simp [runF, m__law_op, startD, at_quiet hat, hi, hx, hpos, hlen, hsa, hse, r1, r2, he, Ex.toD]
    · rw [Ex.Wf]
      exact ⟨hs, w1, w2⟩
    · rw [Ex.dep]; omega
/-- k of them, one behind the other -/
theorem draws {K d : Nat} (ih : ExprOk K (d + 1)) {el : FD} {b : D → EnvD → Option EnvD} {ρ0 : EnvD} {cs : D} {j a : Nat} {c : Int} {M : Store} {n : Int} {ah : List Ah} {q : Bool} {sc : List Str} {dI : Int} (hd : dI = d + 2) (hcs : CellsD cs) (hja : j ≠ a) (hj : M[j]? = some (.lst [.int c])) (h0 : -1 ≤ c) (h1 : c + 5 * 8 ^ (d + 1) < 2 ^ 39) (hat : AtOk M a n ah q) (hah : AhOk ah) (hsc : ∀ x ∈ sc, x ∈ namesL n) (hl : sc.length + 2 * (d + 2) ≤ 100)
    (hel : ∀ x N, ∃ ρ1, b x ρ0 = some ρ1 ∧ el ρ1 N = (sem K f__law_expression [cs, .ref j, .ref a, .lst (sc.map .str), .int (dI - 1)] N).map Slot.d) (k : Nat) (hk : k ≤ 5) :
    ∃ (es : List Ex) (c' : Int), lcGo b dYes el ρ0 (rngL 0 k) [] M = .ok (es.map Ex.toD) (M.set j (.lst [.int c'])) ∧ es.length = k ∧ (∀ e ∈ es, Ex.Wf (· ∈ namesL n) (ahP ah) sc e ∧ e.dep ≤ d + 1 ∧ e.cnt ≤ 6 ^ (d + 1)) ∧ c ≤ c' ∧ c' ≤ c + 5 * 8 ^ (d + 1) := by
  have hB := pow8pos (d + 1)
  obtain ⟨res, M', h, ⟨es, c', e1, e2, e3, e4, e5, e6⟩, hlen⟩ := lcGo_inv (b := b) (f := el) (ρ0 := ρ0)
    (fun i acc N => ∃ (es : List Ex) (c' : Int), acc = es.map Ex.toD ∧ es.length = i ∧ N = M.set j (.lst [.int c']) ∧ (∀ e ∈ es, Ex.Wf (· ∈ namesL n) (ahP ah) sc e ∧ e.dep ≤ d + 1 ∧ e.cnt ≤ 6 ^ (d + 1)) ∧ c ≤ c' ∧ c' ≤ c + i * 8 ^ (d + 1)) (rngL 0 k) (by rw [rngL_len, szL]; omega)
    (fun i x acc N hx ⟨es, c', e1, e2, e3, e4, e5, e6⟩ => by
      obtain ⟨hi, rfl⟩ := rngL_get hx
      subst e1 e3
      have hi5 : (i : Int) * 8 ^ (d + 1) ≤ 4 * 8 ^ (d + 1) := Int.mul_le_mul_of_nonneg_right (by omega) (by omega)
      obtain ⟨e, c2, r, w, dd, nn, l, u⟩ := ih cs j a c' (M.set j (.lst [.int c'])) n ah q sc (dI - 1) (by omega) hcs hja (get_set hj) (by omega) (by omega) (hat.set hja) hah hsc (by omega)
      rw [set_set] at r
      obtain ⟨ρ1, hb, he⟩ := hel (.int (0 + (i : Int))) (M.set j (.lst [.int c']))
      rw [r] at he
      refine ⟨ρ1, hb, e.toD, _, he, es ++ [e], c2, by simp, by simp [e2], rfl, ?_, by omega, ?_⟩
      · intro y hy
        rcases List.mem_append.mp hy with hy | hy
        · exact e4 y hy
        · rw [List.mem_singleton] at hy; subst hy; exact ⟨w, dd, nn⟩
      · have : ((i + 1 : Nat) : Int) * 8 ^ (d + 1) = (i : Int) * 8 ^ (d + 1) + 8 ^ (d + 1) := by
          rw [Int.natCast_add, Int.add_mul]; simp
        omega) k 0 [] M (by rw [rngL_len]; rfl) rfl ⟨[], c, rfl, rfl, (set_self hj).symm, by simp, by omega, by simp⟩
  rw [rngL_len] at e2 e6
  subst e1 e3
  have hk5 : (k : Int) * 8 ^ (d + 1) ≤ 5 * 8 ^ (d + 1) := Int.mul_le_mul_of_nonneg_right (by omega) (by omega)
  exact ⟨es, c', by simpa using h, e2, e4, e5, by omega⟩
theorem goodAh1 : ∀ (ah : List Ah), (∀ r ∈ ah, okStr r.m = true ∧ okStr r.f = true ∧ r.k ≤ 5) → goodL (ah.map Ah.toD) = true ∧ dpL (ah.map Ah.toD) ≤ 1
  | [], _ => ⟨rfl, by decide⟩
  | r :: ah, h => by
    obtain ⟨h1, h2⟩ := goodAh1 ah fun x hx => h x (List.mem_cons_of_mem _ hx)
    obtain ⟨h3, h4, _⟩ := h r List.mem_cons_self
    have h5 : goodD (.str r.m) = true := h3
    have h6 : goodD (.str r.f) = true := h4
    have h7 : goodD r.toD = true := by
      have e1 : goodD (.int r.k) = true := by rw [goodD]
      have e2 : goodD (.bl r.q) = true := by rw [goodD]
      have e3 : goodD (.tup [.str r.m, .str r.f, .int r.k, .bl r.q]) = goodL [.str r.m, .str r.f, .int r.k, .bl r.q] := by rw [goodD]
      rw [Ah.toD, e3, goodL, goodL, goodL, goodL, goodL, h5, h6, e1, e2]
      rfl
    have h8 : dpD r.toD = 1 := rfl
    rw [List.map_cons, goodL, dpL, h1, h7, h8]
    exact ⟨rfl, by omega⟩
theorem call_rows (K : Nat) (cs : D) (j a : Nat) (M : Store) (n : Int) (ah : List Ah) (q : Bool) (sc : List Str) (m dI : Int) (hat : AtOk M a n ah q) (hah : ah.length ≤ 1000) : lcGo (bName 11) (cd__law_call_0 (sem K)) (el__law_call_0 (sem K)) [.val cs, .val (.ref j), .val (.ref a), .val (.lst (sc.map .str)), .val (.int dI), .val (.int m), .un, .un, .un, .un, .un, .un, .un] (ah.map Ah.toD) [] M = .ok ((ah.filter fun r => r.q || !q).map Ah.toD) M := by
  have hq1 := at_quiet hat
  have := lcGo_fmap (b := bName 11) (c := cd__law_call_0 (sem K)) (f := el__law_call_0 (sem K)) (ρ0 := [.val cs, .val (.ref j), .val (.ref a), .val (.lst (sc.map .str)), .val (.int dI), .val (.int m), .un, .un, .un, .un, .un, .un, .un]) (M := M) Ah.toD (fun r => r.q || !q) Ah.toD ah [] (fun r hr => by
      refine ⟨_, rfl, ?_, fun _ => ?_⟩
      · cases hq : r.q <;> simp [cd__law_call_0_eq, Ah.toD, hq, hq1]
      · simp [el__law_call_0_eq]) (by rw [szL, List.length_nil]; omega)
  simpa using this
theorem eqv_cons (x : D) (xs : List D) : eqvD (.lst (x :: xs)) (.lst []) = false := rfl
theorem ah_ne (r0 : Ah) (rs : List Ah) (h : ∀ r ∈ r0 :: rs, okStr r.m = true ∧ okStr r.f = true ∧ r.k ≤ 5) (M : Store) : eqD M (.lst ((r0 :: rs).map Ah.toD)) (.lst []) = some (.val (.bl false)) := by
  have hg := goodAh1 _ h
  rw [eqD_of M (by rw [goodD]; exact hg.1) (by decide +kernel) (by rw [dpD]; omega)]
  rw [List.map_cons, eqv_cons]
theorem ee (M : Store) : eqD M (.lst []) (.lst []) = some (.val (.bl true)) := rfl
theorem call_nil (K : Nat) (cs : D) (j a : Nat) (M : Store) (n : Int) (ah : List Ah) (q : Bool) (sc : List Str) (m dI : Int) (hat : AtOk M a n ah q) (hah : ah.length ≤ 1000) (hs : (ah.filter fun r => r.q || !q) = []) : sem (K + 1) f__law_call [cs, .ref j, .ref a, .lst (sc.map .str), .int dI, .int m] M = sem K f__law_leaf [.ref a, .lst (sc.map .str), .int m] M := by
  have hf := call_rows K cs j a M n ah q sc m dI hat hah
  have h2 := at_ahead hat
  rw [hs] at hf
  rw [e__law_call]
  generalize hR : sem K f__law_leaf [.ref a, .lst (sc.map .str), .int m] M = R0
  simp only [List.map_nil] at hf
  simp [runF, m__law_call, startD, h2, itemsD, wipeD, hf, ee, hR]
  cases R0 <;> rfl
theorem call_cons (K : Nat) (cs : D) (j a : Nat) (M : Store) (n : Int) (ah : List Ah) (q : Bool) (sc : List Str) (m dI : Int) (hat : AtOk M a n ah q) (hah : ah.length ≤ 1000) (L : List D) (hs : (ah.filter fun r => r.q || !q).map Ah.toD = L) (hL : 0 < L.length) (he : ∀ M, eqD M (.lst L) (.lst []) = some (.val (.bl false)))
    (rm rf : Str) (rI : Int) (rk : Nat) (rq : Bool) (hr : atI L (m % (L.length : Int)) = some (.tup [.str rm, .str rf, .int rI, .bl rq])) (es : List Ex) (M' : Store) (hb : rng1D [.int rI] = some (rngL 0 rk)) (hes : lcGo (bName 12) dYes (el__law_call_1 (sem K)) [.val cs, .val (.ref j), .val (.ref a), .val (.lst (sc.map .str)), .val (.int dI), .val (.int m), .own L, .val (.str rm), .val (.str rf), .val (.int rI), .val (.bl rq), .un, .un] (rngL 0 rk) [] M = .ok (es.map Ex.toD) M') :
    sem (K + 1) f__law_call [cs, .ref j, .ref a, .lst (sc.map .str), .int dI, .int m] M = .ok (.val (Ex.call rm rf es).toD) M' := by
  have hf := call_rows K cs j a M n ah q sc m dI hat hah
  have h2 := at_ahead hat
  rw [hs] at hf
  rw [e__law_call]
  simp [-rng1D_int, runF, m__law_call, startD, h2, itemsD, wipeD, hf, he, hL, hr, bTup, bNames, hb, hes, tupleD, seqOf, lstOf, Ex.toD, Ex.toDs_eq]
theorem call_ok {K d : Nat} (ih : ExprOk (K + 2) (d + 1)) : PartOk f__law_call (K + 3) d := by
  intro cs j a c M n ah q sc m dI hd hcs hja hj h0 h1 hat hah hsc hl
  have hp : (8 : Int) ^ (d + 2) = 8 * 8 ^ (d + 1) := pow8 (d + 1)
  have hp1 := pow8pos (d + 1)
  have h6 := pow6 d
  cases hsom : ah.filter fun r => r.q || !q with
  | nil =>
    obtain ⟨e, r, w, dp, ct⟩ := leaf_ok K (.ref a) sc (fun x hx => namesL_ok (hsc x hx)) m M (· ∈ namesL n) (ahP ah)
    refine ⟨e, c, ?_, w, by omega, by omega, by omega, by omega⟩
    rw [set_self hj, call_nil (K + 2) cs j a M n ah q sc m dI hat hah.1 hsom, r]
  | cons r0 rs =>
    have hmem : ∀ r ∈ r0 :: rs, r ∈ ah := fun r hr => by
      rw [← hsom] at hr
      exact (List.mem_filter.mp hr).1
    have hl0 : (0 : Int) < ((r0 :: rs).length : Int) := by simp
    obtain ⟨r, hr, hra⟩ := atI_mem (xs := r0 :: rs) (i := m % ((r0 :: rs).length : Int)) (Int.emod_nonneg _ (by omega)) (Int.emod_lt_of_pos _ hl0)
    have h2 := atI_map Ah.toD (r0 :: rs) (m % ((r0 :: rs).length : Int))
    rw [hra, ← List.length_map (f := Ah.toD)] at h2
    have hrk := (hah.2 r (hmem r hr)).2.2
    obtain ⟨es, c', hes, hlen, hw, hc1, hc2⟩ := draws ih (el := el__law_call_1 (sem (K + 2))) (b := bName 12) (ρ0 := [.val cs, .val (.ref j), .val (.ref a), .val (.lst (sc.map .str)), .val (.int dI), .val (.int m), .own ((r0 :: rs).map Ah.toD), .val (.str r.m), .val (.str r.f), .val (.int r.k), .val (.bl r.q), .un, .un]) hd hcs hja hj h0 (by omega) hat hah hsc (by omega)
      (fun x N => ⟨_, rfl, by simp [el__law_call_1_eq]⟩) r.k hrk
    refine ⟨.call r.m r.f es, c', ?_, ?_, ?_, ?_, by omega, by omega⟩
    · have hb : rng1D [.int (r.k : Int)] = some (rngL 0 r.k) := by
        rw [rng1_ok (by omega) (by omega), Int.toNat_natCast]
      exact call_cons (K + 2) cs j a M n ah q sc m dI hat hah.1 ((r0 :: rs).map Ah.toD) (by rw [hsom]) (by simp) (ah_ne r0 rs fun r hr => hah.2 r (hmem r hr)) r.m r.f r.k r.k r.q h2 es _ hb hes
    · rw [Ex.Wf]
      exact ⟨⟨r, hmem r hr, rfl, rfl, hlen.symm⟩, Ex.Wfs_of fun e he => (hw e he).1⟩
    · rw [Ex.dep]
      have := Ex.deps_le (es := es) fun e he => (hw e he).2.1
      omega
    · rw [Ex.cnt]
      have := Ex.cnts_le (es := es) fun e he => (hw e he).2.2
      have h5 : es.length * 6 ^ (d + 1) ≤ 5 * 6 ^ (d + 1) := Nat.mul_le_mul_right _ (by omega)
      omega
end K46.Dr
namespace K46.Dr
open PySem L2 TP
set_option maxHeartbeats 4000000
theorem notIn2 (M : Store) (x a b : Str) : notInD M (.str x) (.tup [.str a, .str b]) = some (.val (.bl (!(decide (a = x) || decide (b = x))))) := by
  have h : notInD M (.str x) (.tup [.str a, .str b]) = some (.val (.bl (![D.str a, D.str b].any fun d => eqvD d (.str x)))) := rfl
  rw [h, List.any_cons, List.any_cons, List.any_nil, eqvD_str, eqvD_str, Bool.or_false]
theorem times_scope (Φ : Nat → Fn) (s0 s1 s2 s3 s4 s5 s8 s9 s10 s11 s13 : Slot) (L : List D) (i1 i2 : Int) (A B : Str) (hA : atI L i1 = some (.str A)) (hB : atI L i2 = some (.str B)) (sc : List Str) (M : Store) (hl : sc.length ≤ 100) :
    lcGo (bName 14) (cd__law_times_0 Φ) (el__law_times_0 Φ) [s0, s1, s2, s3, s4, s5, .val (.lst L), .val (.int i2), s8, s9, s10, s11, .val (.int i1), s13, .un] (sc.map .str) [] M = .ok ((sc.filter fun x => !(decide (A = x) || decide (B = x))).map .str) M := by
  have := lcGo_fmap (b := bName 14) (c := cd__law_times_0 Φ) (f := el__law_times_0 Φ) (ρ0 := [s0, s1, s2, s3, s4, s5, .val (.lst L), .val (.int i2), s8, s9, s10, s11, .val (.int i1), s13, .un]) (M := M) D.str (fun x => !(decide (A = x) || decide (B = x))) D.str sc []
    (fun x hx => by
      refine ⟨_, rfl, ?_, fun _ => ?_⟩
      · simp [-Bool.not_or, cd__law_times_0_eq, hA, hB, notIn2]
      · simp [el__law_times_0_eq]) (by rw [szL, List.length_nil]; omega)
  simpa [-Bool.not_or] using this
theorem filt_mem {sc : List Str} {p : Str → Bool} {q : Str → Prop} (h : ∀ x ∈ sc, q x) : ∀ x ∈ sc.filter p, q x := fun x hx => h x (List.mem_filter.mp hx).1
theorem times_ok {K d : Nat} (ih : ExprOk K (d + 1)) (ih0 : ExprOk K d) : PartOk f__law_times (K + 1) d := by
  intro cs j a c M n ah q sc m dI hd hcs hja hj h0 h1 hat hah hsc hl
  have hp : (8 : Int) ^ (d + 2) = 8 * 8 ^ (d + 1) := pow8 (d + 1)
  have hp2 : (8 : Int) ^ (d + 1) = 8 * 8 ^ d := pow8 d
  have hp1 := pow8pos d
  have h6 := pow6 d
  rw [e__law_times]
  have hA := namesL_at (n := n) (i := m / 7 % 5) (by omega) (by omega)
  have hB := namesL_at (n := n) (i := (m / 7 % 5 + 1 + m / 35 % 4) % 5) (by omega) (by omega)
  have mA := nameAt_names (n := n) (i := m / 7 % 5) (by omega) (by omega)
  have mB := nameAt_names (n := n) (i := (m / 7 % 5 + 1 + m / 35 % 4) % 5) (by omega) (by omega)
  have hAB : nameAt n (m / 7 % 5) ≠ nameAt n ((m / 7 % 5 + 1 + m / 35 % 4) % 5) := fun h => by
    have := nameAt_inj (by omega) (by omega) (by omega) (by omega) h
    omega
  generalize hi1 : m / 7 % 5 = i1 at *
  generalize hi2 : (i1 + 1 + m / 35 % 4) % 5 = i2 at *
  generalize hgA : nameAt n i1 = A at *
  generalize hgB : nameAt n i2 = B at *
  -- what its N is
  have many : ∃ (em : Ex) (cm : Int), (∀ (x0 x1 x3 x4 x5 x6 x7 x8 : Slot), (sIf (dAnd (dNot (dTru (dEF (dOp2 dgetD (dVarB 2) (dC (.str "quiet")))))) (dBo (dOp2 eqD (dEF (dOp2 modD (dEF (dOp2 fdivD (dVarB 5) (dC (.int 140)))) (dC (.int 3)))) (dC (.int 1))))) (sSeq (sSet 8 (dFE (dTup (dCons (dC (.str "op")) (dCons (dC (.str "&")) (dCons (dEF (dCall 5 (sem K f__law_expression) (dCons (dVar 0) (dCons (dVar 1) (dCons (dVar 2) (dCons (dVar 3) (dCons (dEF (dOp2 subD (dVarB 4) (dC (.int 2)))) dNil))))))) (dCons (dTup (dCons (dC (.str "num")) (dCons (dC (.int 4)) dNil))) dNil))))))) sNil) (sSeq (sIf (dAnd (dNot (dTru (dEF (dOp2 dgetD (dVarB 2) (dC (.str "quiet")))))) (dBo (dOp2 eqD (dEF (dOp2 modD (dEF (dOp2 fdivD (dVarB 5) (dC (.int 140)))) (dC (.int 12)))) (dC (.int 2))))) (sSeq (sSet 8 (dFE (dTup (dCons (dC (.str "num")) (dCons (dEF (dOp2 addD (dC (.int 1000)) (dEF (dOp2 modD (dEF (dOp2 fdivD (dVarB 5) (dC (.int 1680)))) (dC (.int 3)))))) dNil))))) sNil) sNil) sNil)) [.val cs, .val (.ref j), .val (.ref a), .val (.lst (sc.map .str)), .val (.int dI), .val (.int m), x0, x1, .val (.tup [.str "num", .int (m % 4)]), x3, x4, x5, x6, x7, x8] M = .next [.val cs, .val (.ref j), .val (.ref a), .val (.lst (sc.map .str)), .val (.int dI), .val (.int m), x0, x1, .val em.toD, x3, x4, x5, x6, x7, x8] (M.set j (.lst [.int cm]))) ∧ Ex.Wf (· ∈ namesL n) (ahP ah) sc em ∧ em.dep ≤ d + 1 ∧ em.cnt ≤ 6 ^ d + 2 ∧ c ≤ cm ∧ cm ≤ c + 8 ^ d := by
    have hq := at_quiet hat
    obtain ⟨e0, c0, r0, w0, d0, n0, l0, u0⟩ := ih0 cs j a c M n ah q sc (dI - 2) (by omega) hcs hja hj h0 (by omega) hat hah hsc (by omega)
    by_cases hq1 : q = false ∧ m / 140 % 3 = 1
    · refine ⟨.op "&" e0 (.num 4), c0, fun x0 x1 x3 x4 x5 x6 x7 x8 => ?_, ?_, by rw [Ex.dep, Ex.dep]; omega, by rw [Ex.cnt, Ex.cnt]; omega, by omega, by omega⟩
      · simp [hq, hq1.1, hq1.2, r0, Ex.toD]
      · rw [Ex.Wf, Ex.Wf]; exact ⟨by simp [signs], w0, by omega, by omega⟩
    · by_cases hq2 : q = false ∧ m / 140 % 12 = 2
      · refine ⟨.num (1000 + m / 1680 % 3), c, fun x0 x1 x3 x4 x5 x6 x7 x8 => ?_, ?_, by rw [Ex.dep]; omega, by rw [Ex.cnt]; omega, by omega, by omega⟩
        · have hq3 : ¬ m / 140 % 3 = 1 := fun h => hq1 ⟨hq2.1, h⟩
          rw [set_self hj]
          simp [hq, hq2.1, hq2.2, hq3, Ex.toD]
        · rw [Ex.Wf]; omega
      · refine ⟨.num (m % 4), c, fun x0 x1 x3 x4 x5 x6 x7 x8 => ?_, ?_, by rw [Ex.dep]; omega, by rw [Ex.cnt]; omega, by omega, by omega⟩
        · rw [set_self hj]
          cases hqq : q with
          | true => simp [hq, hqq, Ex.toD]
          | false =>
            have hq3 : ¬ m / 140 % 3 = 1 := fun h => hq1 ⟨hqq, h⟩
            have hq4 : ¬ m / 140 % 12 = 2 := fun h => hq2 ⟨hqq, h⟩
            simp [hq, hqq, hq3, hq4, Ex.toD]
        · rw [Ex.Wf]; omega
  obtain ⟨em, cm, hm, wm, dm, nm, lm, um⟩ := many
  obtain ⟨e1, c1, r1, w1, d1, n1, l1, u1⟩ := ih cs j a cm (M.set j (.lst [.int cm])) n ah q sc (dI - 1) (by omega) hcs hja (get_set hj) (by omega) (by omega) (hat.set hja) hah hsc (by omega)
  rw [set_set] at r1
  have hlf : (sc.filter fun x => !(decide (A = x) || decide (B = x))).length ≤ sc.length := List.length_filter_le _ _
  obtain ⟨e2, c2, r2, w2, d2, n2, l2, u2⟩ := ih cs j a c1 (M.set j (.lst [.int c1])) n ah q ((sc.filter fun x => !(decide (A = x) || decide (B = x))) ++ [A, B]) (dI - 1) (by omega) hcs hja (get_set hj) (by omega) (by omega) (hat.set hja) hah (by
    intro x hx
    rcases List.mem_append.mp hx with hx | hx
    · exact filt_mem hsc x hx
    · simp only [List.mem_cons, List.not_mem_nil, or_false] at hx
      rcases hx with rfl | rfl
      · exact mA
      · exact mB) (by rw [List.length_append, List.length_cons, List.length_cons, List.length_nil]; omega)
  rw [set_set] at r2
  rw [List.map_append] at r2
  refine ⟨.times em A B e1 e2, c2, ?_, ?_, ?_, by rw [Ex.cnt]; omega, by omega, by omega⟩
  · have hn := at_names hat
    have hsc2 := fun (s0 s1 s2 s3 s4 s5 s8 s9 s10 s11 s13 : Slot) (N : Store) => times_scope (sem K) s0 s1 s2 s3 s4 s5 s8 s9 s10 s11 s13 _ i1 i2 A B hA hB sc N (by omega)
    simp only [List.map_cons, List.map_nil] at r2
    unfold runF m__law_times
    simp [-sIf_eq, -Bool.not_or, startD, hn, hi1, hi2, bTup, bNames, hm, r1, itemsD, wipeD, hsc2, hA, hB, addD, lstOf, Ex.toD]
    rw [if_pos (by omega)]
    simp [-Bool.not_or, r2, hA, hB]
  · rw [Ex.Wf]
    refine ⟨mA, mB, hAB, wm, w1, Ex.Wf.mono (fun _ _ _ h => h) e2 _ _ (fun x hx => ?_) w2⟩
    rcases List.mem_append.mp hx with hx | hx
    · exact List.mem_cons_of_mem _ (List.mem_cons_of_mem _ (List.mem_filter.mp hx).1)
    · simp only [List.mem_cons, List.not_mem_nil, or_false] at hx
      rcases hx with rfl | rfl
      · exact List.mem_cons_self
      · exact List.mem_cons_of_mem _ List.mem_cons_self
  · rw [Ex.dep]; omega
theorem let_scope (Φ : Nat → Fn) (s0 s1 s2 s3 s4 s5 s6 s7 s9 s10 s12 : Slot) (A : Str) (hA : okStr A = true) (sc : List Str) (hsc : ∀ x ∈ sc, okStr x = true) (M : Store) (hl : sc.length ≤ 100) :
    lcGo (bName 11) (cd__law_expression_0 Φ) (el__law_expression_0 Φ) [s0, s1, s2, s3, s4, s5, s6, s7, .val (.str A), s9, s10, .un, s12] (sc.map .str) [] M = .ok ((sc.filter fun x => !decide (x = A)).map .str) M := by
  have := lcGo_fmap (b := bName 11) (c := cd__law_expression_0 Φ) (f := el__law_expression_0 Φ) (ρ0 := [s0, s1, s2, s3, s4, s5, s6, s7, .val (.str A), s9, s10, .un, s12]) (M := M) D.str (fun x => !decide (x = A)) D.str sc []
    (fun x hx => by
      refine ⟨_, rfl, ?_, fun _ => ?_⟩
      · simp [cd__law_expression_0_eq, neD_str M (hsc x hx) hA]
      · simp [el__law_expression_0_eq]) (by rw [szL, List.length_nil]; omega)
  simpa using this
theorem expr_low (K : Nat) (d : Nat) (hd2 : d < 2) : ExprOk (K + 3) d := by
  intro cs j a c M n ah q sc dI hd hcs hja hj h0 h1 hat hah hsc hl
  have hp : (1 : Int) ≤ 8 ^ d := pow8pos d
  have h6 := pow6 d
  obtain ⟨r, hr0, hr⟩ := cell1 (K + 1) hcs hj h0 (by omega)
  obtain ⟨e, re, w, dp, ct⟩ := leaf_ok K (.ref a) sc (fun x hx => namesL_ok (hsc x hx)) (r / 16) (M.set j (.lst [.int (c + 1)])) (· ∈ namesL n) (ahP ah)
  refine ⟨e, c + 1, ?_, w, by omega, by omega, by omega, by omega⟩
  rw [e__law_expression]
  have hdd : dI < 2 := by omega
  simp [runF, m__law_expression, startD, hr, hdd, re]
theorem expr_step {K d : Nat} (ihK : ExprOk (K + 3) (d + 1)) (ih : ExprOk (K + 2) (d + 1)) (ih0 : ExprOk (K + 2) d) : ExprOk (K + 4) (d + 2) := by
  intro cs j a c M n ah q sc dI hd hcs hja hj h0 h1 hat hah hsc hl
  have hp : (8 : Int) ^ (d + 2) = 8 * 8 ^ (d + 1) := pow8 (d + 1)
  have hp1 := pow8pos (d + 1)
  have h6 := pow6 d
  obtain ⟨r, hr0, hr⟩ := cell1 (K + 2) hcs hj h0 (by omega)
  have hj1 := get_set (b := .lst [.int (c + 1)]) hj
  have hat1 : AtOk (M.set j (.lst [.int (c + 1)])) a n ah q := hat.set hja
  have hdd : ¬ dI < 2 := by omega
  have hq := at_quiet hat1
  rw [e__law_expression]
  by_cases w1 : r % 16 < 3
  · obtain ⟨e, re, w, dp, ct⟩ := leaf_ok (K + 1) (.ref a) sc (fun x hx => namesL_ok (hsc x hx)) (r / 16) (M.set j (.lst [.int (c + 1)])) (· ∈ namesL n) (ahP ah)
    refine ⟨e, c + 1, ?_, w, by omega, by omega, by omega, by omega⟩
    simp [runF, m__law_expression, startD, hr, hdd, w1, re]
  by_cases w2 : r % 16 < 5
  · obtain ⟨e, c', re, w, dp, ct, l, u⟩ := call_ok ih cs j a (c + 1) _ n ah q sc (r / 16) dI hd hcs hja hj1 (by omega) (by omega) hat1 hah hsc hl
    rw [set_set] at re
    refine ⟨e, c', ?_, w, dp, ct, by omega, by omega⟩
    simp [runF, m__law_expression, startD, hr, hdd, w1, w2, re]
  by_cases w3 : r % 16 = 5
  · obtain ⟨e, c', re, w, dp, ct, l, u⟩ := times_ok ih ih0 cs j a (c + 1) _ n ah q sc (r / 16) dI hd hcs hja hj1 (by omega) (by omega) hat1 hah hsc hl
    rw [set_set] at re
    refine ⟨e, c', ?_, w, dp, ct, by omega, by omega⟩
    simp [runF, m__law_expression, startD, hr, hdd, w3, re]
  obtain ⟨e1, c1, r1, we1, d1, n1, l1, u1⟩ := ihK cs j a (c + 1) (M.set j (.lst [.int (c + 1)])) n ah q sc (dI - 1) (by omega) hcs hja hj1 (by omega) (by omega) hat1 hah hsc (by omega)
  rw [set_set] at r1
  by_cases w4 : r % 16 < 9
  · have hA := namesL_at (n := n) (i := r / 16 % 5) (by omega) (by omega)
    have mA := nameAt_names (n := n) (i := r / 16 % 5) (by omega) (by omega)
    have oA := namesL_ok mA
    have hn := at_names hat1
    generalize hgA : nameAt n (r / 16 % 5) = A at *
    have hlf : (sc.filter fun x => !decide (x = A)).length ≤ sc.length := List.length_filter_le _ _
    obtain ⟨e2, c2, r2, we2, d2, n2, l2, u2⟩ := ihK cs j a c1 (M.set j (.lst [.int c1])) n ah q ((sc.filter fun x => !decide (x = A)) ++ [A]) (dI - 1) (by omega) hcs hja (get_set hj) (by omega) (by omega) (hat.set hja) hah (by
      intro x hx
      rcases List.mem_append.mp hx with hx | hx
      · exact filt_mem hsc x hx
      · rw [List.mem_singleton] at hx; subst hx; exact mA) (by rw [List.length_append, List.length_cons, List.length_nil]; omega)
    rw [set_set] at r2
    rw [List.map_append] at r2
    simp only [List.map_cons, List.map_nil] at r2
    have hsc2 := fun (s0 s1 s2 s3 s4 s5 s6 s7 s9 s10 s12 : Slot) (N : Store) => let_scope (sem (K + 3)) s0 s1 s2 s3 s4 s5 s6 s7 s9 s10 s12 A oA sc (fun x hx => namesL_ok (hsc x hx)) N (by omega)
    refine ⟨.lt A e1 e2, c2, ?_, ?_, by rw [Ex.dep]; omega, by rw [Ex.cnt]; omega, by omega, by omega⟩
    · simp [runF, m__law_expression, startD, hr, hdd, w1, w2, w3, w4, hn, hA, r1, itemsD, wipeD, hsc2, addD, lstOf]
      rw [if_pos (by omega)]
      simp [r2, Ex.toD]
    · rw [Ex.Wf]
      refine ⟨mA, we1, Ex.Wf.mono (fun _ _ _ h => h) e2 _ _ (fun x hx => ?_) we2⟩
      rcases List.mem_append.mp hx with hx | hx
      · exact List.mem_cons_of_mem _ (List.mem_filter.mp hx).1
      · rw [List.mem_singleton] at hx; subst hx; exact List.mem_cons_self
  by_cases w5 : r % 16 = 9
  · obtain ⟨es, c', hes, hlen, hw, hc1, hc2⟩ := draws ihK (el := el__law_expression_1 (sem (K + 3))) (b := bName 12) (ρ0 := [.val cs, .val (.ref j), .val (.ref a), .val (.lst (sc.map .str)), .val (.int dI), .val (.int r), .val (.int (r % 16)), .val (.int (r / 16)), .un, .un, .un, .un, .un]) hd hcs hja hj1 (by omega) (by omega) hat1 hah hsc (by omega)
      (fun x N => ⟨_, rfl, by simp [el__law_expression_1_eq]⟩) 3 (by omega)
    match es, hlen with
    | [x, y, z], _ =>
      have hx := hw x (by simp)
      have hy := hw y (by simp)
      have hz := hw z (by simp)
      rw [set_set] at hes
      rw [w5] at hes
      have hb : rng1D [.int 3] = some (rngL 0 3) := rfl
      refine ⟨.ite x y z, c', ?_, by rw [Ex.Wf]; exact ⟨hx.1, hy.1, hz.1⟩, by rw [Ex.dep]; omega, by rw [Ex.cnt]; omega, by omega, by omega⟩
      simp [-rng1D_int, runF, m__law_expression, startD, hr, hdd, w5, hb, wipeD, hes, tupleD, seqOf, lstOf, addD, Ex.toD]
  obtain ⟨e2, c2, r2, we2, d2, n2, l2, u2⟩ := ihK cs j a c1 (M.set j (.lst [.int c1])) n ah q sc (dI - 1) (by omega) hcs hja (get_set hj) (by omega) (by omega) (hat.set hja) hah hsc (by omega)
  rw [set_set] at r2
  by_cases w6 : r % 16 < 12 ∧ q = false
  · refine ⟨.tell e1 e2, c2, ?_, by rw [Ex.Wf]; exact ⟨we1, we2⟩, by rw [Ex.dep]; omega, by rw [Ex.cnt]; omega, by omega, by omega⟩
    simp [runF, m__law_expression, startD, hr, hdd, w1, w2, w3, w4, w5, w6.1, hq, w6.2, r1, r2, Ex.toD]
  by_cases w7 : r % 16 = 12 ∧ q = false ∧ r / 16 % 4 = 1
  · refine ⟨.stop e1, c1, ?_, by rw [Ex.Wf]; exact we1, by rw [Ex.dep]; omega, by rw [Ex.cnt]; omega, by omega, by omega⟩
    simp [runF, m__law_expression, startD, hr, hdd, w7.1, hq, w7.2.1, w7.2.2, r1, Ex.toD]
  obtain ⟨e, c', re, w, dp, ct, l, u⟩ := op_ok ih cs j a (c + 1) _ n ah q sc (r / 16) dI hd hcs hja hj1 (by omega) (by omega) hat1 hah hsc hl
  rw [set_set] at re
  refine ⟨e, c', ?_, w, dp, ct, by omega, by omega⟩
  cases hqq : q with
  | true => simp [runF, m__law_expression, startD, hr, hdd, w1, w2, w3, w4, w5, hq, hqq, re]
  | false =>
    have w8 : ¬ r % 16 < 12 := fun h => w6 ⟨h, hqq⟩
    by_cases w9 : r % 16 = 12
    · have w10 : ¬ r / 16 % 4 = 1 := fun h => w7 ⟨w9, hqq, h⟩
      simp [runF, m__law_expression, startD, hr, hdd, w9, w10, hq, hqq, re]
    · simp [runF, m__law_expression, startD, hr, hdd, w1, w2, w3, w4, w5, w8, w9, hq, hqq, re]
theorem expr_ok : ∀ (d K : Nat), ExprOk (K + 2 * d + 3) d
  | 0, K => expr_low K 0 (by decide)
  | 1, K => expr_low (K + 2) 1 (by decide)
  | d + 2, K => by
    have h1 := expr_ok (d + 1) (K + 1)
    have h2 := expr_ok (d + 1) K
    have h3 := expr_ok d (K + 2)
    have e1 : K + 1 + 2 * (d + 1) + 3 = K + 2 * d + 3 + 3 := by omega
    have e2 : K + 2 * (d + 1) + 3 = K + 2 * d + 3 + 2 := by omega
    have e3 : K + 2 + 2 * d + 3 = K + 2 * d + 3 + 2 := by omega
    have e4 : K + 2 * (d + 2) + 3 = K + 2 * d + 3 + 4 := by omega
    rw [e1] at h1
    rw [e2] at h2
    rw [e3] at h3
    rw [e4]
    exact expr_step h1 h2 h3
end K46.Dr
namespace K46
open PySem L2 TP Dr
set_option maxHeartbeats 4000000
mutual
theorem wf_sg {nm : Str → Prop} {ah : Str → Str → Nat → Prop} : ∀ (e : Ex) (sc : List Str), Ex.Wf nm ah sc e → Sg e
  | .num n, sc, h => by rw [Sg]; trivial
  | .use x, sc, h => by rw [Sg]; trivial
  | .op s a b, sc, h => by rw [Ex.Wf] at h; rw [Sg]; exact ⟨h.1, wf_sg a _ h.2.1, wf_sg b _ h.2.2⟩
  | .lt x a b, sc, h => by rw [Ex.Wf] at h; rw [Sg]; exact ⟨wf_sg a _ h.2.1, wf_sg b _ h.2.2⟩
  | .ite a b c, sc, h => by rw [Ex.Wf] at h; rw [Sg]; exact ⟨wf_sg a _ h.1, wf_sg b _ h.2.1, wf_sg c _ h.2.2⟩
  | .times a i s b c, sc, h => by rw [Ex.Wf] at h; rw [Sg]; exact ⟨wf_sg a _ h.2.2.2.1, wf_sg b _ h.2.2.2.2.1, wf_sg c _ h.2.2.2.2.2⟩
  | .tell a b, sc, h => by rw [Ex.Wf] at h; rw [Sg]; exact ⟨wf_sg a _ h.1, wf_sg b _ h.2⟩
  | .stop a, sc, h => by rw [Ex.Wf] at h; rw [Sg]; exact wf_sg a _ h
  | .call m f as, sc, h => by rw [Ex.Wf] at h; rw [Sg]; exact wfs_sg as _ h.2
theorem wfs_sg {nm : Str → Prop} {ah : Str → Str → Nat → Prop} : ∀ (es : List Ex) (sc : List Str), Ex.Wfs nm ah sc es → Sgs es
  | [], _, _ => by rw [Sgs]; trivial
  | e :: es, sc, h => by rw [Ex.Wfs] at h; rw [Sgs]; exact ⟨wf_sg e _ h.1, wfs_sg es _ h.2⟩
end
/-- what is needed of an expression -/
structure Eok (e : Ex) : Prop where
  tx : TxOk e
  sg : Sg e
def AhL (ah : List Ah) : Prop := ∀ r ∈ ah, r.m.length ≤ 12 ∧ r.f.length ≤ 12
theorem signs_len : ∀ s ∈ signs, s.length ≤ 12 := by
  have h : signs.all (fun s => decide (s.length ≤ 12)) = true := by decide +kernel
  intro s hs
  exact of_decide_eq_true (List.all_eq_true.mp h s hs)
theorem wf_ok {n : Int} {ah : List Ah} (ha : AhL ah) {e : Ex} {sc : List Str} (hs : ∀ x ∈ sc, x ∈ namesL n) (h : Ex.Wf (· ∈ namesL n) (ahP ah) sc e) : Eok e :=
  ⟨Ex.Wf.al (fun x hx => (namesL_of hx).2) (fun m f k ⟨r, hr, e1, e2, _⟩ => by subst e1 e2; exact ha r hr) signs_len (fun n h1 h2 => by omega) e sc (fun x hx => (namesL_of (hs x hx)).2) h, wf_sg e sc h⟩
theorem exprS (K d : Nat) (hd : 1 ≤ d ∧ d ≤ 3) {cs : D} {j a : Nat} {c : Int} {M : Store} {n : Int} {ah : List Ah} {q : Bool} {sc : List Str} {dI : Int} (hdI : dI = d) (hcs : CellsD cs) (hja : j ≠ a) (hj : M[j]? = some (.lst [.int c])) (h0 : -1 ≤ c) (h1 : c + 512 < 2 ^ 39) (hat : AtOk M a n ah q) (hah : AhOk ah) (hal : AhL ah) (hsc : ∀ x ∈ sc, x ∈ namesL n) (hl : sc.length ≤ 50) :
    ∃ (e : Ex) (c' : Int), sem (K + 9) f__law_expression [cs, .ref j, .ref a, .lst (sc.map .str), .int dI] M = .ok (.val e.toD) (M.set j (.lst [.int c'])) ∧ Eok e ∧ e.dep ≤ 3 ∧ e.cnt ≤ 216 ∧ c < c' ∧ c' ≤ c + 512 := by
  have hp : (8 : Int) ^ d ≤ 512 ∧ (6 : Nat) ^ d ≤ 216 := by
    rcases (by omega : d = 1 ∨ d = 2 ∨ d = 3) with rfl | rfl | rfl <;> decide
  have h := expr_ok d (K + (6 - 2 * d))
  rw [show K + (6 - 2 * d) + 2 * d + 3 = K + 9 by omega] at h
  obtain ⟨e, c', r, w, dp, ct, l, u⟩ := h cs j a c M n ah q sc dI hdI hcs hja hj h0 (by omega) hat hah hsc (by omega)
  exact ⟨e, c', r, wf_ok hal hsc w, by omega, by omega, l, by omega⟩
theorem sign_at2 (i : Int) (h0 : 0 ≤ i) (h1 : i < 7) : ∃ s ∈ signs, ∃ ch : Nat, atI (Str.ofString "+-*/&=<").cps.toList i = some ch ∧ (⟨#[ch]⟩ : Str) = s := by
  obtain ⟨ch, hc, ha⟩ := atI_mem (xs := (Str.ofString "+-*/&=<").cps.toList) (i := i) h0 (by show i < (7 : Int); exact h1)
  have h2 : (Str.ofString "+-*/&=<").cps.toList.all (fun ch => decide ((⟨#[ch]⟩ : Str) ∈ signs)) = true := by decide +kernel
  exact ⟨⟨#[ch]⟩, of_decide_eq_true (List.all_eq_true.mp h2 ch hc), ch, ha, rfl⟩
theorem eok_op {s : Str} {a b : Ex} (hs : s ∈ signs) (ha : Eok a) (hb : Eok b) : Eok (.op s a b) :=
  ⟨by have h1 := ha.tx; have h2 := hb.tx; unfold TxOk at *; rw [Ex.Al]; exact ⟨signs_len s hs, h1, h2⟩, by rw [Sg]; exact ⟨hs, ha.sg, hb.sg⟩⟩
theorem eok_lt {x : Str} {a b : Ex} (hx : x.length ≤ 12) (ha : Eok a) (hb : Eok b) : Eok (.lt x a b) :=
  ⟨by have h1 := ha.tx; have h2 := hb.tx; unfold TxOk at *; rw [Ex.Al]; exact ⟨hx, h1, h2⟩, by rw [Sg]; exact ⟨ha.sg, hb.sg⟩⟩
theorem eok_ite {a b c : Ex} (ha : Eok a) (hb : Eok b) (hc : Eok c) : Eok (.ite a b c) :=
  ⟨by have h1 := ha.tx; have h2 := hb.tx; have h3 := hc.tx; unfold TxOk at *; rw [Ex.Al]; exact ⟨h1, h2, h3⟩, by rw [Sg]; exact ⟨ha.sg, hb.sg, hc.sg⟩⟩
theorem eok_times {i s : Str} {a b c : Ex} (hi : i.length ≤ 12) (hs : s.length ≤ 12) (ha : Eok a) (hb : Eok b) (hc : Eok c) : Eok (.times a i s b c) :=
  ⟨by have h1 := ha.tx; have h2 := hb.tx; have h3 := hc.tx; unfold TxOk at *; rw [Ex.Al]; exact ⟨hi, hs, h1, h2, h3⟩, by rw [Sg]; exact ⟨ha.sg, hb.sg, hc.sg⟩⟩
theorem eok_tell {a b : Ex} (ha : Eok a) (hb : Eok b) : Eok (.tell a b) :=
  ⟨by have h1 := ha.tx; have h2 := hb.tx; unfold TxOk at *; rw [Ex.Al]; exact ⟨h1, h2⟩, by rw [Sg]; exact ⟨ha.sg, hb.sg⟩⟩
theorem eok_stop {a : Ex} (ha : Eok a) : Eok (.stop a) :=
  ⟨by have h1 := ha.tx; unfold TxOk at *; rw [Ex.Al]; exact h1, by rw [Sg]; exact ha.sg⟩
theorem eok_num {v : Int} (h : v.natAbs < 10 ^ 31) : Eok (.num v) := ⟨by unfold TxOk; rw [Ex.Al]; exact h, by rw [Sg]; trivial⟩
theorem eok_use {x : Str} (h : x.length ≤ 12) : Eok (.use x) := ⟨by unfold TxOk; rw [Ex.Al]; exact h, by rw [Sg]; trivial⟩
def SidedOk (L d : Nat) : Prop := ∀ (cs : D) (j a : Nat) (c : Int) (M : Store) (n : Int) (ah : List Ah) (q : Bool) (sc : List Str) (dI : Int), dI = d → CellsD cs → j ≠ a → M[j]? = some (.lst [.int c]) → -1 ≤ c → c + 1024 * 2 ^ d < 2 ^ 38 → AtOk M a n ah q → AhOk ah → AhL ah → (∀ x ∈ sc, x ∈ namesL n) → sc.length ≤ 50 →
  ∃ (e : Ex) (c' : Int), sem L f__law_sided [cs, .ref j, .ref a, .lst (sc.map .str), .int dI] M = .ok (.val e.toD) (M.set j (.lst [.int c'])) ∧ Eok e ∧ e.dep ≤ d + 3 ∧ e.cnt + 1 ≤ 217 * 2 ^ d ∧ c < c' ∧ c' + 1 ≤ c + 1024 * 2 ^ d
theorem p2 (d : Nat) : (1 : Int) ≤ 2 ^ d ∧ (1 : Nat) ≤ 2 ^ d ∧ (2 : Int) ^ (d + 1) = 2 * 2 ^ d ∧ (2 : Nat) ^ (d + 1) = 2 * 2 ^ d := by
  have h : (1 : Nat) ≤ 2 ^ d := Nat.one_le_two_pow
  refine ⟨?_, h, by rw [Int.pow_succ, Int.mul_comm], by rw [Nat.pow_succ, Nat.mul_comm]⟩
  have : ((2 ^ d : Nat) : Int) = (2 : Int) ^ d := by push_cast; rfl
  omega
/-- at its ends -/
theorem sided_end (K : Nat) {cs : D} {j a : Nat} {c : Int} {M : Store} {n : Int} {ah : List Ah} {q : Bool} {sc : List Str} {dI : Int} {v : Int} (hv : sem (K + 9) f__law_cell [cs, .ref j] M = .ok (.val (.int v)) (M.set j (.lst [.int (c + 1)]))) (hend : dI < 1 ∨ v % 8 = 0) (hcs : CellsD cs) (hja : j ≠ a) (hj : M[j]? = some (.lst [.int c])) (h0 : -1 ≤ c) (h1 : c + 1024 < 2 ^ 39) (hat : AtOk M a n ah q) (hah : AhOk ah) (hal : AhL ah) (hsc : ∀ x ∈ sc, x ∈ namesL n) (hl : sc.length ≤ 50) :
    ∃ (e : Ex) (c' : Int), sem (K + 10) f__law_sided [cs, .ref j, .ref a, .lst (sc.map .str), .int dI] M = .ok (.val e.toD) (M.set j (.lst [.int c'])) ∧ Eok e ∧ e.dep ≤ 3 ∧ e.cnt ≤ 216 ∧ c < c' ∧ c' + 1 ≤ c + 1024 := by
  obtain ⟨d', hd'⟩ : ∃ d' : Nat, 1 + v / 8 % 3 = (d' : Int) := ⟨(1 + v / 8 % 3).toNat, by omega⟩
  obtain ⟨e, c', r, ok, dp, ct, l, u⟩ := exprS K d' (by omega) (dI := 1 + v / 8 % 3) hd' hcs hja (get_set (b := .lst [.int (c + 1)]) hj) (by omega) (by omega) (hat.set hja) hah hal hsc hl
  rw [set_set] at r
  refine ⟨e, c', ?_, ok, dp, ct, by omega, by omega⟩
  rw [e__law_sided]
  generalize e.toD = ED at *
  generalize sc.map D.str = SD at *
  rcases Int.lt_or_le dI 1 with hd | hd
  · simp [runF, m__law_sided, startD, hv, hd, r]
  · have hz : v % 8 = 0 := by omega
    have hd2 : ¬ dI < 1 := by omega
    simp [runF, m__law_sided, startD, hv, hd2, hz, r]
theorem sided_step (K d : Nat) (ih : SidedOk (K + 10 + d) d) : SidedOk (K + 11 + d) (d + 1) := by
  intro cs j a c M n ah q sc dI hd hcs hja hj h0 h1 hat hah hal hsc hl
  obtain ⟨p1, p2', p3, p4⟩ := p2 d
  rw [p3] at h1 ⊢
  rw [p4]
  obtain ⟨v, hv0, hv⟩ := cell1 (K + d + 9) hcs hj h0 (by omega)
  by_cases hz : v % 8 = 0
  · obtain ⟨e, c', r, ok, dp, ct, l, u⟩ := sided_end (K + d + 1) hv (.inr hz) hcs hja hj h0 (by omega) hat hah hal hsc hl (dI := dI)
    exact ⟨e, c', by rw [show K + 11 + d = K + d + 1 + 10 by omega]; exact r, ok, by omega, by omega, l, by omega⟩
  · obtain ⟨e1, c1, r1, ok1, dp1, ct1, l1, u1⟩ := ih cs j a (c + 1) (M.set j (.lst [.int (c + 1)])) n ah q sc (dI - 1) (by omega) hcs hja (get_set hj) (by omega) (by omega) (hat.set hja) hah hal hsc hl
    rw [set_set] at r1
    obtain ⟨e2, c2, r2, ok2, dp2, ct2, l2, u2⟩ := ih cs j a c1 (M.set j (.lst [.int c1])) n ah q sc (dI - 1) (by omega) hcs hja (get_set hj) (by omega) (by omega) (hat.set hja) hah hal hsc hl
    rw [set_set] at r2
    obtain ⟨s, hs, ch, hsa, hse⟩ := sign_at2 (v / 8 % 7) (by omega) (by omega)
    refine ⟨.op s e1 e2, c2, ?_, eok_op hs ok1 ok2, by rw [Ex.dep]; omega, by rw [Ex.cnt]; omega, by omega, by omega⟩
    have hlen : (Str.ofString "+-*/&=<").length ≤ 16777216 := by decide +kernel
    have hd2 : ¬ dI < 1 := by omega
    have hb : rng1D [.int 2] = some [.int 0, .int 1] := rfl
    rw [show K + 11 + d = K + d + 10 + 1 by omega, e__law_sided, Ex.toD]
    rw [show K + 10 + d = K + d + 10 by omega] at r1 r2
    rw [show K + d + 9 + 1 = K + d + 10 by omega] at hv
    generalize e1.toD = ED1 at *
    generalize e2.toD = ED2 at *
    generalize sc.map D.str = SD at *
    simp [-rng1D_int, runF, m__law_sided, startD, hv, hd2, hz, hb, wipeD, lcGo, bName, el__law_sided_0_eq, r1, r2, bLst, bNames, hlen, hsa, hse]
theorem sided_ok (K : Nat) : ∀ d : Nat, SidedOk (K + 10 + d) d
  | 0 => by
    intro cs j a c M n ah q sc dI hd hcs hja hj h0 h1 hat hah hal hsc hl
    obtain ⟨v, hv0, hv⟩ := cell1 (K + 8) hcs hj h0 (by omega)
    obtain ⟨e, c', r, ok, dp, ct, l, u⟩ := sided_end K hv (.inl (by omega)) hcs hja hj h0 (by omega) hat hah hal hsc hl (dI := dI)
    exact ⟨e, c', r, ok, by omega, by omega, l, by omega⟩
  | d + 1 => by
    have := sided_step K d (sided_ok K d)
    rwa [show K + 11 + d = K + 10 + (d + 1) by omega] at this
end K46
namespace K46
open PySem L2 TP Dr
set_option maxHeartbeats 4000000
theorem leafE (K : Nat) (at_ : D) {n : Int} {sc : List Str} (hsc : ∀ x ∈ sc, x ∈ namesL n) (v : Int) (M : Store) : ∃ e : Ex, sem (K + 2) f__law_leaf [at_, .lst (sc.map .str), .int v] M = .ok (.val e.toD) M ∧ Eok e ∧ e.dep = 0 ∧ e.cnt = 1 := by
  obtain ⟨e, r, w, dp, ct⟩ := leaf_ok K at_ sc (fun x hx => namesL_ok (hsc x hx)) v M (· ∈ namesL n) (ahP [])
  exact ⟨e, r, wf_ok (ah := []) (fun r hr => absurd hr List.not_mem_nil) hsc w, dp, ct⟩
/-- the eleven -/
def elev (s A B : Str) (e l : Ex) : List Ex := [.op s e l, .op s l e, .lt A e l, .lt A l e, .ite e l l, .ite l l e, .tell l e, .tell e l, .stop e, .times (.num 1) A B e l, .times e B A l l]
theorem elev_ok {s A B : Str} {e l : Ex} (hs : s ∈ signs) (hA : A.length ≤ 12) (hB : B.length ≤ 12) (he : Eok e) (hl : Eok l) (dl : l.dep = 0) (cl : l.cnt = 1) : ∀ x ∈ elev s A B e l, Eok x ∧ x.dep ≤ e.dep + 1 ∧ x.cnt ≤ e.cnt + 3 := by
  intro x hx
  have h1 : Eok (.num 1) := eok_num (by decide)
  simp only [elev, List.mem_cons, List.not_mem_nil, or_false] at hx
  rcases hx with rfl | rfl | rfl | rfl | rfl | rfl | rfl | rfl | rfl | rfl | rfl
  · exact ⟨eok_op hs he hl, by rw [Ex.dep]; omega, by rw [Ex.cnt]; omega⟩
  · exact ⟨eok_op hs hl he, by rw [Ex.dep]; omega, by rw [Ex.cnt]; omega⟩
  · exact ⟨eok_lt hA he hl, by rw [Ex.dep]; omega, by rw [Ex.cnt]; omega⟩
  · exact ⟨eok_lt hA hl he, by rw [Ex.dep]; omega, by rw [Ex.cnt]; omega⟩
  · exact ⟨eok_ite he hl hl, by rw [Ex.dep]; omega, by rw [Ex.cnt]; omega⟩
  · exact ⟨eok_ite hl hl he, by rw [Ex.dep]; omega, by rw [Ex.cnt]; omega⟩
  · exact ⟨eok_tell hl he, by rw [Ex.dep]; omega, by rw [Ex.cnt]; omega⟩
  · exact ⟨eok_tell he hl, by rw [Ex.dep]; omega, by rw [Ex.cnt]; omega⟩
  · exact ⟨eok_stop he, by rw [Ex.dep]; omega, by rw [Ex.cnt]; omega⟩
  · exact ⟨eok_times hA hB h1 he hl, by rw [Ex.dep, Ex.dep]; omega, by rw [Ex.cnt, Ex.cnt]; omega⟩
  · exact ⟨eok_times hB hA he hl hl, by rw [Ex.dep]; omega, by rw [Ex.cnt]; omega⟩
theorem chain_turn (Φ : Nat → Fn) (cs at_ SD ED LD ND XD : D) (j : Nat) (s4 s6 s7 s8 s9 s10 s11 : Slot) (N N1 : Store) (v : Int) (s A B : Str) (ch : Nat) (es : List D)
    (hv : Φ f__law_cell [cs, .ref j] N = .ok (.val (.int v)) N1) (hl : Φ f__law_leaf [at_, SD, .int (v / 77)] N1 = .ok (.val LD) N1) (hsa : atI (Str.ofString "+-*/&=<").cps.toList (v / 11 % 7) = some ch) (hse : (⟨#[ch]⟩ : Str) = s)
    (hn : dgetD N1 at_ (.str "names") = some (.val (.lst es))) (hA : atI es (v / 77 % 4) = some (.str A)) (hB : atI es 4 = some (.str B))
    (hx : atI [.tup [.str "op", .str s, ED, LD], .tup [.str "op", .str s, LD, ED], .tup [.str "let", .str A, ED, LD], .tup [.str "let", .str A, LD, ED], .tup [.str "if", ED, LD, LD], .tup [.str "if", LD, LD, ED], .tup [.str "tell", LD, ED], .tup [.str "tell", ED, LD], .tup [.str "stop", ED], .tup [.str "times", .tup [.str "num", .int 1], .str A, .str B, ED, LD], .tup [.str "times", ED, .str B, .str A, LD, LD]] (v % 11) = some XD) :
    ∃ t7 t8 t9 t10 t11, lp__law_chain_0 Φ [.val cs, .val (.ref j), .val at_, .val SD, s4, .val ED, s6, s7, s8, s9, s10, s11] N = .next [.val cs, .val (.ref j), .val at_, .val SD, s4, .val XD, s6, t7, t8, t9, t10, t11] N1 := by
  have hlen : (Str.ofString "+-*/&=<").length ≤ 16777216 := by decide +kernel
  refine ⟨.val (.int v), .own [.tup [.str "op", .str s, ED, LD], .tup [.str "op", .str s, LD, ED], .tup [.str "let", .str A, ED, LD], .tup [.str "let", .str A, LD, ED], .tup [.str "if", ED, LD, LD], .tup [.str "if", LD, LD, ED], .tup [.str "tell", LD, ED], .tup [.str "tell", ED, LD], .tup [.str "stop", ED], .tup [.str "times", .tup [.str "num", .int 1], .str A, .str B, ED, LD]], .val LD, .val (.str s), .val (.str A), ?_⟩
  rw [lp__law_chain_0_eq]
  simp [hv, hl, hlen, hsa, hse, hn, hA, hB, addD, lstOf, hx]
theorem chain_ok (K : Nat) {cs : D} {j a : Nat} {c : Int} {M : Store} {n : Int} {ah : List Ah} {q : Bool} {sc : List Str} {mI : Int} {m : Nat} (hm : mI = m) (hm2 : m ≤ 29) (hcs : CellsD cs) (hja : j ≠ a) (hj : M[j]? = some (.lst [.int c])) (h0 : -1 ≤ c) (h1 : c + 1024 < 2 ^ 38) (hat : AtOk M a n ah q) (hsc : ∀ x ∈ sc, x ∈ namesL n) :
    ∃ (e : Ex) (c' : Int), sem (K + 3) f__law_chain [cs, .ref j, .ref a, .lst (sc.map .str), .int mI] M = .ok (.val e.toD) (M.set j (.lst [.int c'])) ∧ Eok e ∧ e.dep ≤ 29 ∧ e.cnt ≤ 100 ∧ c < c' ∧ c' ≤ c + 1024 := by
  obtain ⟨v0, hv00, hv0⟩ := cell1 (K + 1) hcs hj h0 (by omega)
  obtain ⟨e0, r0, ok0, dp0, ct0⟩ := leafE K (.ref a) hsc v0 (M.set j (.lst [.int (c + 1)]))
  obtain ⟨ρ', M', h, e, c', s6, s7, s8, s9, s10, s11, rfl, rfl, oke, dpe, cte, l, u⟩ := forGo_all (b := bName 6) (body := lp__law_chain_0 (sem (K + 2)))
    (fun i ρ N => ∃ (e : Ex) (c' : Int) (s6 s7 s8 s9 s10 s11 : Slot), ρ = [.val cs, .val (.ref j), .val (.ref a), .val (.lst (sc.map .str)), .val (.int mI), .val e.toD, s6, s7, s8, s9, s10, s11] ∧ N = M.set j (.lst [.int c']) ∧ Eok e ∧ e.dep ≤ i ∧ e.cnt ≤ 1 + 3 * i ∧ c + 1 ≤ c' ∧ c' ≤ c + 1 + i)
    (rngL 0 m) (ρ := [.val cs, .val (.ref j), .val (.ref a), .val (.lst (sc.map .str)), .val (.int mI), .val e0.toD, .un, .un, .un, .un, .un, .un]) (M := M.set j (.lst [.int (c + 1)]))
    ⟨e0, c + 1, .un, .un, .un, .un, .un, .un, rfl, rfl, ok0, by omega, by omega, by omega, by omega⟩
    (fun i d ρ N hd ⟨e, c', s6, s7, s8, s9, s10, s11, e1, e2, oke, dpe, cte, l, u⟩ => by
      subst e1 e2
      obtain ⟨hi, rfl⟩ := rngL_get hd
      obtain ⟨v, hv0', hv⟩ := cell1 (K + 1) hcs (get_set (b := .lst [.int c']) hj) (by omega) (by omega)
      rw [set_set] at hv
      obtain ⟨le, rl, okl, dpl, ctl⟩ := leafE K (.ref a) hsc (v / 77) (M.set j (.lst [.int (c' + 1)]))
      obtain ⟨s, hs, ch, hsa, hse⟩ := sign_at2 (v / 11 % 7) (by omega) (by omega)
      have hA := namesL_at (n := n) (i := v / 77 % 4) (by omega) (by omega)
      have hB := namesL_at (n := n) (i := 4) (by omega) (by omega)
      have lA := nameAt_len n (v / 77 % 4)
      have lB := nameAt_len n 4
      generalize nameAt n (v / 77 % 4) = A at *
      generalize nameAt n 4 = B at *
      have hn := at_names (hat.set (o := .lst [.int (c' + 1)]) hja)
      obtain ⟨x, hx, hxa⟩ := atI_mem (xs := elev s A B e le) (i := v % 11) (by omega) (by show v % 11 < (11 : Int); omega)
      obtain ⟨okx, dpx, ctx⟩ := elev_ok hs lA lB oke okl dpl ctl x hx
      have hx2 := atI_map Ex.toD (elev s A B e le) (v % 11)
      rw [hxa] at hx2
      simp only [elev, List.map_cons, List.map_nil, Ex.toD, Option.map_some] at hx2
      obtain ⟨t7, t8, t9, t10, t11, ht⟩ := chain_turn (sem (K + 2)) cs (.ref a) (.lst (sc.map .str)) e.toD le.toD .non x.toD j (.val (.int mI)) (.val (.int (0 + (i : Int)))) s7 s8 s9 s10 s11 _ _ v s A B ch _ hv rl hsa hse hn hA hB hx2
      exact ⟨_, rfl, _, _, ht, x, c' + 1, _, _, _, _, _, _, rfl, rfl, okx, by omega, by omega, by omega, by omega⟩)
  rw [rngL_len] at dpe cte u
  refine ⟨e, c', ?_, oke, by omega, by omega, by omega, by omega⟩
  have hb : rng1D [.int mI] = some (rngL 0 m) := by rw [hm, rng1_ok (by omega) (by omega), Int.toNat_natCast]
  rw [e__law_chain]
  generalize e0.toD = ED0 at *
  generalize e.toD = ED at *
  generalize sc.map D.str = SD at *
  simp [-rng1D_int, runF, m__law_chain, startD, hv0, r0, hb, h]
end K46
namespace K46
open PySem L2 TP Dr
set_option maxHeartbeats 4000000
theorem enumL_get {ds : List D} {i : Nat} {x : D} (h : (enumL ds)[i]? = some x) : ∃ d, ds[i]? = some d ∧ x = .tup [.int (i : Nat), d] := by
  unfold enumL at h
  rw [List.getElem?_map] at h
  cases hr : (List.range ds.length)[i]? with
  | none => rw [hr] at h; cases h
  | some k =>
    rw [hr] at h
    obtain ⟨hk, hk2⟩ := List.getElem?_eq_some_iff.mp hr
    rw [List.length_range] at hk
    rw [List.getElem_range] at hk2
    subst hk2
    cases h
    refine ⟨ds[i], List.getElem?_eq_getElem hk, ?_⟩
    show D.tup [.int (i : Nat), ds.getD i .non] = _
    rw [List.getD_eq_getElem?_getD, List.getElem?_eq_getElem hk]
    rfl
theorem enumL_len (ds : List D) : (enumL ds).length = ds.length := by unfold enumL; rw [List.length_map, List.length_range]
theorem slTo {N : Store} {xs : List D} (k : Nat) (hk : k ≤ xs.length) : slD N (.lst xs) none (some (k : Int)) = some (.own (xs.take k)) := by
  have e1 : HT.sIx xs.length 0 none = 0 := rfl
  have e2 : HT.sIx xs.length xs.length (some (k : Int)) = k := by rw [HT.sIx_nat]; omega
  simp [slD, seqOf, lstOf, cutD, e1, e2]
theorem slFrom {N : Store} {xs : List D} (k : Nat) (hk : k ≤ xs.length) : slD N (.lst xs) (some (k : Int)) none = some (.own (xs.drop k)) := by
  have e1 : HT.sIx xs.length 0 (some (k : Int)) = k := by rw [HT.sIx_nat]; omega
  have e2 : HT.sIx xs.length xs.length none = xs.length := rfl
  simp only [slD, seqOf, lstOf, cutD, e1, e2]
  rw [List.take_of_length_le (by rw [List.length_drop]; omega)]
theorem full_in (K : Nat) {n : Int} (hn0 : 0 ≤ n) (s2 s3 s4 : Slot) {iI : Int} (hi : iI.natAbs ≤ 10) (h3 : s3 = .val (.int iI)) (s6 s7 s8 : Slot) (M : Store) :
    ∃ (rs : List Row) (t6 t7 t8 : Slot), forGo (bTup [6, 7]) (lp__law_full_0 (sem K)) (enumL (((namesL n).map D.str).drop 4)) [.val (.int n), .val (.lst ((namesL n).map .str)), s2, s3, s4, .own [], s6, s7, s8] M
      = .next [.val (.int n), .val (.lst ((namesL n).map .str)), s2, s3, s4, .own (rs.map Row.toD), t6, t7, t8] M ∧ rs.length ≤ 12 ∧ ∀ r ∈ rs, RowTx r := by
  have hl16 := namesL_len n
  obtain ⟨ρ', M', h, rs, t6, t7, t8, rfl, rfl, hl, hr⟩ := forGo_all (b := bTup [6, 7]) (body := lp__law_full_0 (sem K))
    (fun i ρ N => ∃ (rs : List Row) (t6 t7 t8 : Slot), ρ = [.val (.int n), .val (.lst ((namesL n).map .str)), s2, s3, s4, .own (rs.map Row.toD), t6, t7, t8] ∧ N = M ∧ rs.length = i ∧ ∀ r ∈ rs, RowTx r)
    (enumL (((namesL n).map D.str).drop 4)) (ρ := [.val (.int n), .val (.lst ((namesL n).map .str)), s2, s3, s4, .own [], s6, s7, s8]) (M := M) ⟨[], s6, s7, s8, rfl, rfl, rfl, fun _ h => absurd h List.not_mem_nil⟩
    (fun i d ρ N hd ⟨rs, t6, t7, t8, e1, e2, hl, hr⟩ => by
      subst e1 e2 h3
      have hi12 : i < 12 := by
        have := (List.getElem?_eq_some_iff.mp hd).1
        rw [enumL_len, List.length_drop, List.length_map, hl16] at this
        omega
      obtain ⟨d', hd', rfl⟩ := enumL_get hd
      have hd2 : d' ∈ ((namesL n).map D.str).drop 4 := List.mem_of_getElem? hd'
      obtain ⟨f, hf, rfl⟩ := List.mem_map.mp (List.mem_of_mem_drop hd2)
      obtain ⟨s, hs, ch, hsa, hse⟩ : ∃ s ∈ signs, ∃ ch : Nat, atI (Str.ofString "+-*").cps.toList (n / 7 % 3) = some ch ∧ (⟨#[ch]⟩ : Str) = s := by
        obtain ⟨ch, hc, ha⟩ := atI_mem (xs := (Str.ofString "+-*").cps.toList) (i := n / 7 % 3) (by omega) (by show n / 7 % 3 < (3 : Int); omega)
        have h2 : (Str.ofString "+-*").cps.toList.all (fun ch => decide ((⟨#[ch]⟩ : Str) ∈ signs)) = true := by decide +kernel
        exact ⟨⟨#[ch]⟩, of_decide_eq_true (List.all_eq_true.mp h2 ch hc), ch, ha, rfl⟩
      have hu := namesL_at (n := n) (i := (n + (i : Int)) % 5) (by omega) (by omega)
      have lu := nameAt_len n ((n + (i : Int)) % 5)
      obtain ⟨u, hu'⟩ : ∃ u, nameAt n ((n + (i : Int)) % 5) = u := ⟨_, rfl⟩
      rw [hu'] at hu lu
      obtain ⟨ps, hps⟩ : ∃ ps, (namesL n).take 5 = ps := ⟨_, rfl⟩
      have hsl : ∀ N, slD N (.lst ((namesL n).map D.str)) none (some 5) = some (.own (ps.map D.str)) := fun N => by
        rw [← hps, List.map_take]; exact slTo 5 (by rw [List.length_map]; omega)
      have m1 : mulOk 12 iI = true := mulOk_l (by decide) (by decide)
      have hlen : (Str.ofString "+-*").length ≤ 16777216 := by decide +kernel
      obtain ⟨vI, hvI⟩ : ∃ v : Int, (n + 12 * iI + (i : Int)) % 100 = v := ⟨_, rfl⟩
      have hvb : vI.natAbs < 10 ^ 31 := by omega
      have hrl : rs.length < 16777216 := by omega
      refine ⟨_, by simp only [bTup, bNames]; rfl, ?_⟩
      refine ⟨_, _, ?_, rs ++ [⟨f, ps, .op s (.use u) (.num vI)⟩], .val (.int (i : Nat)), .val (.str f), .val (Ex.op s (.use u) (.num vI)).toD, rfl, rfl, by simp [hl], fun r hr' => ?_⟩
      · rw [lp__law_full_0_eq]
        obtain ⟨iN, hiN⟩ : ∃ v : Int, (i : Int) = v := ⟨_, rfl⟩
        rw [hiN] at hu hvI ⊢
        generalize (namesL n).map D.str = L at *
        have hrl2 : (rs.map Row.toD).length < 16777216 := by rw [List.length_map]; exact hrl
        rw [List.map_append]
        simp only [List.map_cons, List.map_nil, Row.toD, Ex.toD]
        generalize rs.map Row.toD = RD at *
        simp [hlen, hsa, hse, hu, m1, hvI, hsl, hrl2, tupleD, seqOf, lstOf]
      · rcases List.mem_append.mp hr' with hr' | hr'
        · exact hr r hr'
        · rw [List.mem_singleton] at hr'
          subst hr'
          exact ⟨(namesL_of hf).2, fun y hy => by rw [← hps] at hy; exact (namesL_of (List.mem_of_mem_take hy)).2, by rw [← hps, List.length_take]; omega, (eok_op hs (eok_use lu) (eok_num hvb)).tx, (eok_op hs (eok_use lu) (eok_num hvb)).sg, by rw [Ex.dep, Ex.dep, Ex.dep]; omega, by rw [Ex.cnt, Ex.cnt, Ex.cnt]; omega⟩)
  rw [enumL_len, List.length_drop, List.length_map, hl16] at hl
  exact ⟨rs, t6, t7, t8, h, by omega, hr⟩
theorem full_ok (K : Nat) {n : Int} (hn0 : 0 ≤ n) (M : Store) : ∃ P : Pr, sem (K + 2) f__law_full [.int n] M = .ok (.val (pgD P)) M ∧ PrTx P := by
  have hl16 := namesL_len n
  have hnm := names_ok K n M
  have h8 : ((namesL n).map D.str).take 8 = ((namesL n).take 8).map D.str := by rw [List.map_take]
  obtain ⟨ρ', M', h, P, t3, t4, t5, t6, t7, t8, rfl, rfl, hl, hP⟩ := forGo_all (b := bTup [3, 4]) (body := lp__law_full_1 (sem (K + 1)))
    (fun i ρ N => ∃ (P : Pr) (t3 t4 t5 t6 t7 t8 : Slot), ρ = [.val (.int n), .val (.lst ((namesL n).map .str)), .own (P.map rmD), t3, t4, t5, t6, t7, t8] ∧ N = M ∧ P.length = i ∧ ∀ q ∈ P, q.1.length ≤ 12 ∧ q.2.length ≤ 12 ∧ ∀ r ∈ q.2, RowTx r)
    (enumL (((namesL n).take 8).map D.str)) (ρ := [.val (.int n), .val (.lst ((namesL n).map .str)), .own [], .un, .un, .un, .un, .un, .un]) (M := M) ⟨[], .un, .un, .un, .un, .un, .un, rfl, rfl, rfl, fun _ h => absurd h List.not_mem_nil⟩
    (fun i d ρ N hd ⟨P, t3, t4, t5, t6, t7, t8, e1, e2, hl, hP⟩ => by
      subst e1 e2
      have hi8 : i < 8 := by
        have := (List.getElem?_eq_some_iff.mp hd).1
        rw [enumL_len, List.length_map, List.length_take] at this
        omega
      obtain ⟨d', hd', rfl⟩ := enumL_get hd
      obtain ⟨m, hm, rfl⟩ := List.mem_map.mp (List.mem_of_getElem? hd')
      have hm2 := namesL_of (List.mem_of_mem_take hm)
      obtain ⟨rs, u6, u7, u8, hrs, hrl, hr⟩ := full_in (K + 1) hn0 (.own (P.map rmD)) (.val (.int (i : Nat))) (.val (.str m)) (iI := (i : Nat)) (by omega) rfl t6 t7 t8 N
      have hsl : ∀ N, slD N (.lst ((namesL n).map D.str)) (some 4) none = some (.own (((namesL n).map D.str).drop 4)) := fun N => slFrom 4 (by rw [List.length_map]; omega)
      refine ⟨_, by simp only [bTup, bNames]; rfl, _, _, ?_, P ++ [(m, rs)], .val (.int (i : Nat)), .val (.str m), .own (rs.map Row.toD), u6, u7, u8, rfl, rfl, by simp [hl], fun q hq => ?_⟩
      · rw [lp__law_full_1_eq]
        have hPl : (P.map rmD).length < 16777216 := by rw [List.length_map]; omega
        obtain ⟨iN, hiN⟩ : ∃ v : Int, ((i : Nat) : Int) = v := ⟨_, rfl⟩
        rw [hiN] at hrs ⊢
        rw [List.map_append]
        simp only [List.map_cons, List.map_nil, rmD]
        generalize ((namesL n).map D.str).drop 4 = L4 at *
        generalize (namesL n).map D.str = L at *
        generalize rs.map Row.toD = RD at *
        generalize hPD : P.map (fun m => D.tup [D.str m.fst, D.tup (List.map Row.toD m.snd)]) = PD at *
        have hPD2 : P.map rmD = PD := hPD
        rw [hPD2] at hrs hPl ⊢
        simp [hsl, hrs, hPl, tupleD, seqOf, lstOf]
      · rcases List.mem_append.mp hq with hq | hq
        · exact hP q hq
        · rw [List.mem_singleton] at hq
          subst hq
          exact ⟨hm2.2, hrl, hr⟩)
  rw [enumL_len, List.length_map, List.length_take, hl16] at hl
  refine ⟨P, ?_, ⟨fun q hq => (hP q hq).1, fun q hq => (hP q hq).2, by omega⟩⟩
  have hsl : ∀ N, slD N (.lst ((namesL n).map D.str)) none (some 8) = some (.own (((namesL n).take 8).map D.str)) := fun N => by
    rw [← h8]; exact slTo 8 (by rw [List.length_map]; omega)
  rw [e__law_full]
  generalize ((namesL n).take 8).map D.str = L8 at *
  generalize (namesL n).map D.str = L at *
  unfold pgD
  generalize P.map rmD = PD at *
  simp [runF, m__law_full, startD, hnm, hsl, h, tupleD, seqOf, lstOf]
end K46
namespace K46
open PySem L2 TP Dr
set_option maxHeartbeats 4000000
def parL (n more : Int) (k : Nat) : List Str := (List.range k).map fun i => nameAt n ((more + 3 * (i : Nat)) % 5)
theorem parL_mem (n more : Int) {k : Nat} {x : Str} (h : x ∈ parL n more k) : x ∈ namesL n := by
  unfold parL at h
  obtain ⟨i, _, rfl⟩ := List.mem_map.mp h
  exact nameAt_names (by omega) (by omega)
theorem params_go (Φ : Nat → Fn) (n more : Int) (s0 s1 s2 s3 s4 s5 s7 s8 s9 s11 s12 s13 s14 : Slot) (k : Nat) (hk : k ≤ 5) (M : Store) :
    lcGo (bName 15) dYes (el__law_sided_program_0 Φ) [s0, s1, s2, s3, s4, s5, .val (.lst ((namesL n).map .str)), s7, s8, s9, .val (.int more), s11, s12, s13, s14, .un] (rngL 0 k) [] M = .ok ((parL n more k).map .str) M := by
  rw [lcGo_map (fun d => match d with | .int i => .str (nameAt n ((more + 3 * i) % 5)) | _ => .non) _ (fun d hd => ?_) (by rw [rngL_len, szL]; omega)]
  · unfold parL rngL
    rw [List.map_map, List.map_map]
    congr 1
    apply List.map_congr_left
    intro i _
    show D.str (nameAt n ((more + 3 * (0 + (i : Int))) % 5)) = D.str (nameAt n ((more + 3 * (i : Int)) % 5))
    rw [Int.zero_add]
  · obtain ⟨i, hi⟩ := List.getElem?_of_mem hd
    obtain ⟨hi1, rfl⟩ := rngL_get hi
    have m1 : ∀ x, mulOk 3 x = true := fun x => mulOk_l (by decide) (by decide)
    have h3 := namesL_at (n := n) (i := (more + 3 * (0 + (i : Int))) % 5) (by omega) (by omega)
    refine ⟨_, rfl, ?_⟩
    rw [Int.zero_add] at h3 ⊢
    simp [el__law_sided_program_0_eq, m1, h3]
theorem at_new (M : Store) (n : Int) (ah : List Ah) (q : Bool) : AtOk (M ++ [.dK (mergeD ["names", "ahead", "quiet"] [.lst ((namesL n).map .str), .lst (ah.map Ah.toD), .bl q])]) M.length n ah q := by
  refine ⟨_, at_end M _, ?_, ?_, ?_⟩ <;> rfl
def spotN (more jI : Int) : Int := (more / 300 % 3 + 5 + 3 * jI) % 16
structure AhG (r : Ah) : Prop where
  om : okStr r.m = true
  of : okStr r.f = true
  k : r.k ≤ 5
  lm : r.m.length ≤ 12
  lf : r.f.length ≤ 12
theorem ahg {ah : List Ah} (hl : ah.length ≤ 1000) (h : ∀ r ∈ ah, AhG r) : AhOk ah ∧ AhL ah := ⟨⟨hl, fun r hr => ⟨(h r hr).om, (h r hr).of, (h r hr).k⟩⟩, fun r hr => ⟨(h r hr).lm, (h r hr).lf⟩⟩
/-- one function's body -/
theorem body_ok (K : Nat) {cs : D} (hcs : CellsD cs) {j a : Nat} {c : Int} {M : Store} (hja : j ≠ a) (hj : M[j]? = some (.lst [.int c])) (h0 : -1 ≤ c) (h1 : c + 20000 < 2 ^ 37) {n : Int} {ah : List Ah} (hat : AtOk M a n ah false) (hah : AhOk ah) (hal : AhL ah) {ps : List Str} (hps : ∀ x ∈ ps, x ∈ namesL n) (hpl : ps.length ≤ 5) (more : Int) :
    ∃ (e : Ex) (c' : Int), Eok e ∧ e.dep ≤ 30 ∧ e.cnt ≤ 1900 ∧ c < c' ∧ c' ≤ c + 9000 ∧
      (more / 900 % 4 = 0 → sem (K + 13) f__law_chain [cs, .ref j, .ref a, .lst (ps.map .str), .int (12 + more / 3600 % 18)] M = .ok (.val e.toD) (M.set j (.lst [.int c']))) ∧
      (¬ more / 900 % 4 = 0 → sem (K + 13) f__law_sided [cs, .ref j, .ref a, .lst (ps.map .str), .int (if more / 60 % 5 < 3 then more / 60 % 5 else 3)] M = .ok (.val e.toD) (M.set j (.lst [.int c']))) := by
  by_cases hz : more / 900 % 4 = 0
  · obtain ⟨m, hm⟩ : ∃ m : Nat, 12 + more / 3600 % 18 = (m : Int) := ⟨(12 + more / 3600 % 18).toNat, by omega⟩
    obtain ⟨e, c', r, ok, dp, ct, l, u⟩ := chain_ok (K + 10) hm (by omega) hcs hja hj h0 (by omega) hat hps
    exact ⟨e, c', ok, by omega, by omega, l, by omega, fun _ => r, fun h => absurd hz h⟩
  · obtain ⟨d, hd⟩ : ∃ d : Nat, (if more / 60 % 5 < 3 then more / 60 % 5 else 3) = (d : Int) := ⟨(if more / 60 % 5 < 3 then more / 60 % 5 else 3).toNat, by split <;> omega⟩
    have hd3 : d ≤ 3 := by split at hd <;> omega
    have h2 : (2 : Int) ^ d ≤ 8 ∧ (2 : Nat) ^ d ≤ 8 := by
      rcases (by omega : d = 0 ∨ d = 1 ∨ d = 2 ∨ d = 3) with rfl | rfl | rfl | rfl <;> decide
    have h := sided_ok (K + 3 - d) d
    rw [show K + 3 - d + 10 + d = K + 13 by omega] at h
    obtain ⟨e, c', r, ok, dp, ct, l, u⟩ := h cs j a c M n ah false ps _ hd hcs hja hj h0 (by omega) hat hah hal hps (by omega)
    exact ⟨e, c', ok, by omega, by omega, l, by omega, fun h => absurd h hz, fun _ => r⟩
theorem row_ok (K : Nat) {cs : D} (hcs : CellsD cs) {j : Nat} {c : Int} {M : Store} (hj : M[j]? = some (.lst [.int c])) (h0 : -1 ≤ c) (h1 : c + 30000 < 2 ^ 37) (n : Int) {ah : List Ah} (hah : ∀ r ∈ ah, AhG r) (hal : ah.length < 900) (sn : Slot) (mods room : List D) (hrl : room.length < 1000) (kI jI : Int) (hk0 : 0 ≤ kI) (hk1 : kI < 16) (s10 s11 s12 s13 s14 s15 : Slot) :
    ∃ (r : Row) (a : Ah) (c' : Int) (X : MO) (t10 t11 t12 t13 t14 t15 : Slot), lp__law_sided_program_0 (sem (K + 13)) [.val cs, .val (.ref j), sn, .val (.lst (ah.map Ah.toD)), .own mods, .val (.int kI), .val (.lst ((namesL n).map .str)), .val (.lst ((namesL (n / 7)).map .str)), .own room, .val (.int jI), s10, s11, s12, s13, s14, s15] M
      = .next [.val cs, .val (.ref j), sn, .val (.lst ((ah ++ [a]).map Ah.toD)), .own mods, .val (.int kI), .val (.lst ((namesL n).map .str)), .val (.lst ((namesL (n / 7)).map .str)), .own (room ++ [r.toD]), .val (.int jI), t10, t11, t12, t13, t14, t15] (M.set j (.lst [.int c']) ++ [X])
      ∧ RowTx r ∧ AhG a ∧ c < c' ∧ c' ≤ c + 10000 := by
  have hjl : j < M.length := (List.getElem?_eq_some_iff.mp hj).1
  obtain ⟨hao, hal2⟩ := ahg (by omega) hah
  obtain ⟨more, hm0, hm⟩ := cell1 (K + 12) hcs hj h0 (by omega)
  obtain ⟨k, hk⟩ : ∃ k : Nat, (k : Int) = more / 5 % 6 := ⟨(more / 5 % 6).toNat, by omega⟩
  have hk5 : k ≤ 5 := by omega
  have hpl : (parL n more k).length = k := by unfold parL; rw [List.length_map, List.length_range]
  have hpm : ∀ x ∈ parL n more k, x ∈ namesL n := fun x hx => parL_mem n more hx
  have hp := fun s0 s1 s2 s3 s4 s5 s7 s8 s9 s11 s12 s13 s14 N => params_go (sem (K + 13)) n more s0 s1 s2 s3 s4 s5 s7 s8 s9 s11 s12 s13 s14 k hk5 N
  obtain ⟨X, hX⟩ : ∃ X : MO, X = .dK (mergeD ["names", "ahead", "quiet"] [.lst ((namesL n).map .str), .lst (ah.map Ah.toD), .bl false]) := ⟨_, rfl⟩
  have hat : AtOk (M.set j (.lst [.int (c + 1)]) ++ [X]) M.length n ah false := by
    have := at_new (M.set j (.lst [.int (c + 1)])) n ah false
    rw [List.length_set, ← hX] at this
    exact this
  have hj1 : (M.set j (.lst [.int (c + 1)]) ++ [X])[j]? = some (.lst [.int (c + 1)]) := get_app (get_set hj)
  generalize parL n more k = ps at *
  obtain ⟨e, c', ok, dp, ct, l, u, r1, r2⟩ := body_ok K hcs (a := M.length) (by omega) hj1 (by omega) (by omega) hat hao hal2 hpm (by omega) more
  rw [set_app (by rw [List.length_set]; exact hjl), set_set] at r1 r2
  have hA := namesL_at (n := n / 7) (i := spotN more jI) (by unfold spotN; omega) (by unfold spotN; omega)
  have hB := namesL_at (n := n / 7) (i := kI) hk0 hk1
  have hA1 := nameAt_ok (n / 7) (spotN more jI)
  have hA2 := nameAt_len (n / 7) (spotN more jI)
  have hB1 := nameAt_ok (n / 7) kI
  have hB2 := nameAt_len (n / 7) kI
  have hb : rng1D [.int (more / 5 % 6)] = some (rngL 0 k) := by rw [← hk, rng1_ok (by omega) (by omega), Int.toNat_natCast]
  have m1 : ∀ x, mulOk 3 x = true := fun x => mulOk_l (by decide) (by decide)
  have hmin : ∀ N x, min2D N [.int 3, .int x] = some (.val (.int (if x < 3 then x else 3))) := fun N x => rfl
  obtain ⟨A, hAe⟩ : ∃ A, nameAt (n / 7) (spotN more jI) = A := ⟨_, rfl⟩
  obtain ⟨B, hBe⟩ : ∃ B, nameAt (n / 7) kI = B := ⟨_, rfl⟩
  rw [hAe] at hA hA1 hA2
  rw [hBe] at hB hB1 hB2
  refine ⟨⟨A, ps, e⟩, ⟨B, A, k, false⟩, c', X, .val (.int more), .val (.lst (ps.map .str)), .val (.ref M.length), .val (.str A), .val e.toD, s15, ?_, ⟨hA2, fun y hy => (namesL_of (hpm y hy)).2, by show ps.length ≤ 10; omega, ok.tx, ok.sg, dp, ct⟩, ⟨hB1, hA1, hk5, hB2, hA2⟩, by omega, by omega⟩
  have hr2 : room.length < 16777216 := by omega
  have ha2 : (ah.map Ah.toD).length + 1 ≤ 16777216 := by rw [List.length_map]; omega
  have hpl2 : (ps.map D.str).length = k := by rw [List.length_map]; exact hpl
  rw [lp__law_sided_program_0_eq, List.map_append]
  simp only [List.map_cons, List.map_nil, Ah.toD, Row.toD]
  unfold spotN at hA
  generalize hAD : ah.map Ah.toD = AD at *
  generalize e.toD = ED at *
  obtain ⟨kN, hkN⟩ : ∃ v : Int, (k : Int) = v := ⟨_, rfl⟩
  have hlen : ∀ N, lenD N [.lst (ps.map .str)] = some (.val (.int kN)) := fun N => by rw [lenD_lst, hpl2, hkN]
  rw [hkN]
  generalize ps.map D.str = PD at *
  generalize (namesL n).map D.str = L1 at *
  generalize (namesL (n / 7)).map D.str = L2 at *
  by_cases hz : more / 900 % 4 = 0
  · have r := r1 hz
    simp [-rng1D_int, -lenD_lst, hm, hb, wipeD, hp, dVals, ← hX, hz, r, m1, hA, hB, hr2, ha2, hlen, tupleD, seqOf, lstOf, addD]
  · have r := r2 hz
    simp [-rng1D_int, -lenD_lst, hm, hb, wipeD, hp, dVals, ← hX, hz, hmin, r, m1, hA, hB, hr2, ha2, hlen, tupleD, seqOf, lstOf, addD]
end K46
namespace K46
open PySem L2 TP Dr
set_option maxHeartbeats 4000000
theorem room_ok (K : Nat) {cs : D} (hcs : CellsD cs) {j : Nat} {c : Int} {M : Store} (hj : M[j]? = some (.lst [.int c])) (h0 : -1 ≤ c) (h1 : c + 100000 < 2 ^ 37) (n : Int) {ah : List Ah} (hah : ∀ r ∈ ah, AhG r) (hal : ah.length < 800) (sn : Slot) (mods : List D) (kI : Int) (hk0 : 0 ≤ kI) (hk1 : kI < 16) (cnt : Nat) (hcnt : cnt ≤ 3) (s9 s10 s11 s12 s13 s14 s15 : Slot) :
    ∃ (rs : List Row) (ah' : List Ah) (c' : Int) (X : Store) (t9 t10 t11 t12 t13 t14 t15 : Slot), forGo (bName 9) (lp__law_sided_program_0 (sem (K + 13))) (rngL 0 cnt) [.val cs, .val (.ref j), sn, .val (.lst (ah.map Ah.toD)), .own mods, .val (.int kI), .val (.lst ((namesL n).map .str)), .val (.lst ((namesL (n / 7)).map .str)), .own [], s9, s10, s11, s12, s13, s14, s15] M
      = .next [.val cs, .val (.ref j), sn, .val (.lst (ah'.map Ah.toD)), .own mods, .val (.int kI), .val (.lst ((namesL n).map .str)), .val (.lst ((namesL (n / 7)).map .str)), .own (rs.map Row.toD), t9, t10, t11, t12, t13, t14, t15] (M.set j (.lst [.int c']) ++ X)
      ∧ rs.length = cnt ∧ (∀ r ∈ rs, RowTx r) ∧ (∀ r ∈ ah', AhG r) ∧ ah'.length ≤ ah.length + 3 ∧ c ≤ c' ∧ c' ≤ c + 30000 := by
  have hjl : j < M.length := (List.getElem?_eq_some_iff.mp hj).1
  obtain ⟨ρ', M', e, rs, ah', c', X, t9, t10, t11, t12, t13, t14, t15, rfl, rfl, hl, hr, ha, hal', hc, hc'⟩ := forGo_all (b := bName 9) (body := lp__law_sided_program_0 (sem (K + 13)))
    (fun i ρ N => ∃ (rs : List Row) (ah' : List Ah) (c' : Int) (X : Store) (t9 t10 t11 t12 t13 t14 t15 : Slot), ρ = [.val cs, .val (.ref j), sn, .val (.lst (ah'.map Ah.toD)), .own mods, .val (.int kI), .val (.lst ((namesL n).map .str)), .val (.lst ((namesL (n / 7)).map .str)), .own (rs.map Row.toD), t9, t10, t11, t12, t13, t14, t15] ∧ N = M.set j (.lst [.int c']) ++ X
      ∧ rs.length = i ∧ (∀ r ∈ rs, RowTx r) ∧ (∀ r ∈ ah', AhG r) ∧ ah'.length = ah.length + i ∧ c ≤ c' ∧ c' ≤ c + 10000 * i)
    (rngL 0 cnt) (ρ := [.val cs, .val (.ref j), sn, .val (.lst (ah.map Ah.toD)), .own mods, .val (.int kI), .val (.lst ((namesL n).map .str)), .val (.lst ((namesL (n / 7)).map .str)), .own [], s9, s10, s11, s12, s13, s14, s15]) (M := M)
    ⟨[], ah, c, [], s9, s10, s11, s12, s13, s14, s15, rfl, by rw [set_self hj, List.append_nil], rfl, fun _ h => absurd h List.not_mem_nil, hah, rfl, by omega, by omega⟩
    (fun i d ρ N hd ⟨rs, ah', c', X, t9, t10, t11, t12, t13, t14, t15, e1, e2, hl, hr, ha, hal', hc, hc'⟩ => by
      subst e1 e2
      obtain ⟨hi, rfl⟩ := rngL_get hd
      have hj2 : (M.set j (.lst [.int c']) ++ X)[j]? = some (.lst [.int c']) := get_app (get_set hj)
      obtain ⟨r, a, c2, Y, u10, u11, u12, u13, u14, u15, re, ok, ag, hcl, hcu⟩ := row_ok K hcs hj2 (by omega) (by omega) n ha (by omega) sn mods (rs.map Row.toD) (by rw [List.length_map]; omega) kI (0 + (i : Int)) hk0 hk1 t10 t11 t12 t13 t14 t15
      refine ⟨_, rfl, _, _, re, rs ++ [r], ah' ++ [a], c2, X ++ [Y], _, _, _, _, _, _, _, by simp only [List.map_append, List.map_cons, List.map_nil]; rfl, ?_, by rw [List.length_append, hl]; rfl, ?_, ?_, by rw [List.length_append, hal']; simp; omega, by omega, by push_cast; omega⟩
      · rw [set_app (by rw [List.length_set]; exact hjl), set_set, List.append_assoc]
      · intro x hx
        rcases List.mem_append.mp hx with hx | hx
        · exact hr x hx
        · rw [List.mem_singleton] at hx; subst hx; exact ok
      · intro x hx
        rcases List.mem_append.mp hx with hx | hx
        · exact ha x hx
        · rw [List.mem_singleton] at hx; subst hx; exact ag)
  rw [rngL_len] at hl hal' hc'
  exact ⟨rs, ah', c', X, t9, t10, t11, t12, t13, t14, t15, e, hl, hr, ha, by omega, hc, by omega⟩
theorem program_ok (K : Nat) {cs : D} (hcs : CellsD cs) {j : Nat} {c : Int} {M : Store} (hj : M[j]? = some (.lst [.int c])) (h0 : -1 ≤ c) (h1 : c + 1000000 < 2 ^ 37) :
    ∃ (P : Pr) (c' : Int) (X : Store), sem (K + 14) f__law_sided_program [cs, .ref j] M = .ok (.val (pgD P)) (M.set j (.lst [.int c']) ++ X) ∧ PrTx P ∧ c ≤ c' ∧ c' ≤ c + 100000 := by
  have hjl : j < M.length := (List.getElem?_eq_some_iff.mp hj).1
  obtain ⟨n, hn0, hn⟩ := cell1 (K + 12) hcs hj h0 (by omega)
  obtain ⟨cnt, hcnt⟩ : ∃ k : Nat, (k : Int) = n / 384 % 4 := ⟨(n / 384 % 4).toNat, by omega⟩
  have hc3 : cnt ≤ 3 := by omega
  have hj1 := get_set (b := .lst [.int (c + 1)]) hj
  obtain ⟨ρ', M', e, P, ah, c', X, s5, s8, s9, s10, s11, s12, s13, s14, s15, rfl, rfl, hl, hP, ha, hal, hc, hc'⟩ := forGo_all (b := bName 5) (body := lp__law_sided_program_1 (sem (K + 13)))
    (fun i ρ N => ∃ (P : Pr) (ah : List Ah) (c' : Int) (X : Store) (s5 s8 s9 s10 s11 s12 s13 s14 s15 : Slot), ρ = [.val cs, .val (.ref j), .val (.int n), .val (.lst (ah.map Ah.toD)), .own (P.map rmD), s5, .val (.lst ((namesL n).map .str)), .val (.lst ((namesL (n / 7)).map .str)), s8, s9, s10, s11, s12, s13, s14, s15] ∧ N = M.set j (.lst [.int c']) ++ X
      ∧ P.length = i ∧ (∀ q ∈ P, q.1.length ≤ 12 ∧ q.2.length ≤ 12 ∧ ∀ r ∈ q.2, RowTx r) ∧ (∀ r ∈ ah, AhG r) ∧ ah.length ≤ 3 * i ∧ c + 1 ≤ c' ∧ c' ≤ c + 1 + 30001 * i)
    (rngL 0 cnt) (ρ := [.val cs, .val (.ref j), .val (.int n), .val (.lst []), .own [], .un, .val (.lst ((namesL n).map .str)), .val (.lst ((namesL (n / 7)).map .str)), .un, .un, .un, .un, .un, .un, .un, .un]) (M := M.set j (.lst [.int (c + 1)]))
    ⟨[], [], c + 1, [], .un, .un, .un, .un, .un, .un, .un, .un, .un, rfl, by rw [List.append_nil], rfl, fun _ h => absurd h List.not_mem_nil, fun _ h => absurd h List.not_mem_nil, by simp, by omega, by omega⟩
    (fun i d ρ N hd ⟨P, ah, c', X, s5, s8, s9, s10, s11, s12, s13, s14, s15, e1, e2, hl, hP, ha, hal, hc, hc'⟩ => by
      subst e1 e2
      obtain ⟨hi, rfl⟩ := rngL_get hd
      have hj2 : (M.set j (.lst [.int c']) ++ X)[j]? = some (.lst [.int c']) := get_app (get_set hj)
      obtain ⟨v, hv0, hv⟩ := cell1 (K + 12) hcs hj2 (by omega) (by omega)
      rw [set_app (by rw [List.length_set]; exact hjl), set_set] at hv
      have hj3 : (M.set j (.lst [.int (c' + 1)]) ++ X)[j]? = some (.lst [.int (c' + 1)]) := get_app (get_set hj)
      obtain ⟨cn, hcn⟩ : ∃ k : Nat, (k : Int) = v / 5 % 4 := ⟨(v / 5 % 4).toNat, by omega⟩
      obtain ⟨rs, ah', c2, Y, t9, t10, t11, t12, t13, t14, t15, re, hrl, hr, ha', hal', hc2, hc3⟩ := room_ok K hcs hj3 (by omega) (by omega) n ha (by omega) (.val (.int n)) (P.map rmD) (0 + (i : Int)) (by omega) (by omega) cn (by omega) s9 s10 s11 s12 s13 s14 s15
      rw [set_app (by rw [List.length_set]; exact hjl), set_set, List.append_assoc] at re
      have hB := namesL_at (n := n / 7) (i := 0 + (i : Int)) (by omega) (by omega)
      have hB2 := nameAt_len (n / 7) (0 + (i : Int))
      obtain ⟨B, hBe⟩ : ∃ B, nameAt (n / 7) (0 + (i : Int)) = B := ⟨_, rfl⟩
      rw [hBe] at hB hB2
      have hb : rng1D [.int (v / 5 % 4)] = some (rngL 0 cn) := by rw [← hcn, rng1_ok (by omega) (by omega), Int.toNat_natCast]
      refine ⟨_, rfl, [.val cs, .val (.ref j), .val (.int n), .val (.lst (ah'.map Ah.toD)), .own ((P ++ [(B, rs)]).map rmD), .val (.int (0 + (i : Int))), .val (.lst ((namesL n).map .str)), .val (.lst ((namesL (n / 7)).map .str)), .own (rs.map Row.toD), t9, t10, t11, t12, t13, t14, t15], M.set j (.lst [.int c2]) ++ (X ++ Y), ?_, P ++ [(B, rs)], ah', c2, X ++ Y, _, _, _, _, _, _, _, _, _, rfl, rfl, by rw [List.length_append, hl]; rfl, ?_, ha', by omega, by omega, by push_cast; omega⟩
      · rw [lp__law_sided_program_1_eq, List.map_append]
        simp only [List.map_cons, List.map_nil, rmD]
        have hPl : (P.map rmD).length < 16777216 := by rw [List.length_map]; omega
        generalize hPD : P.map (fun m => D.tup [D.str m.fst, D.tup (List.map Row.toD m.snd)]) = PD at *
        have hPD2 : P.map rmD = PD := hPD
        rw [hPD2] at re hPl
        obtain ⟨iN, hiN⟩ : ∃ v : Int, (0 + (i : Int)) = v := ⟨_, rfl⟩
        rw [hiN] at re hB ⊢
        generalize ah.map Ah.toD = AD at *
        generalize ah'.map Ah.toD = AD' at *
        generalize rs.map Row.toD = RD at *
        generalize (namesL n).map D.str = L1 at *
        generalize (namesL (n / 7)).map D.str = L2 at *
        rw [hPD2]
        simp [-rng1D_int, -List.append_assoc, hv, hb, re, hB, hPl, tupleD, seqOf, lstOf]
      · intro q hq
        rcases List.mem_append.mp hq with hq | hq
        · exact hP q hq
        · rw [List.mem_singleton] at hq; subst hq; exact ⟨hB2, by show rs.length ≤ 12; omega, hr⟩)
  rw [rngL_len] at hl hal hc'
  have hb : rng1D [.int (n / 384 % 4)] = some (rngL 0 cnt) := by rw [← hcnt, rng1_ok (by omega) (by omega), Int.toNat_natCast]
  refine ⟨P, c', X, ?_, ⟨fun q hq => (hP q hq).1, fun q hq => (hP q hq).2, by omega⟩, by omega, by omega⟩
  have hn1 := names_ok (K + 12) n
  have hn2 := names_ok (K + 12) (n / 7)
  rw [e__law_sided_program]
  unfold pgD
  generalize P.map rmD = PD at *
  generalize (namesL n).map D.str = L1 at *
  generalize (namesL (n / 7)).map D.str = L2 at *
  simp [-rng1D_int, runF, m__law_sided_program, startD, hn, hn1, hn2, bTup, bNames, hb, e, tupleD, seqOf, lstOf]
end K46
namespace K46
open PySem L2 TP Dr
set_option maxHeartbeats 4000000
theorem ne_ss (N : Store) (a : Str) : neD N (.str a) (.str a) = some (.val (.bl false)) := by
  show some (Slot.val (.bl (!decide (a = a)))) = _
  simp
theorem turn0 {P : Pr} (ok : PrTx P) (s0 s1 s2 s4 s5 s6 s7 s8 s9 : Slot) (M : Store) : ∃ X, lp_law_0 (sem 109) [s0, s1, s2, .val (pgD P), s4, s5, s6, s7, s8, s9] M = .next [s0, s1, s2, .val (pgD P), s4, s5, s6, s7, s8, s9] (M ++ X) := by
  have h1 := textof_ok 15 ok M
  obtain ⟨X, h2⟩ := ltextof_ok 15 ok M
  refine ⟨X, ?_⟩
  rw [lp_law_0_eq]
  generalize pgD P = PG at *
  simp [-List.append_assoc, h1, h2, ne_ss]
theorem turn1 {m : Str} (hm : m.length ≤ 12) {r : Row} (ok : RowTx r) (s0 s1 s2 s3 s4 s6 s7 s8 : Slot) (M : Store) : ∃ X, lp_law_1 (sem 109) [s0, s1, s2, s3, s4, .val (.str m), s6, s7, s8, .val r.b.toD] M = .next [s0, s1, s2, s3, s4, .val (.str m), s6, s7, s8, .val r.b.toD] (M ++ X) := by
  have h1 := text_ok 30 r.b 16 hm ok.dep ok.tx ok.sg (by have := ok.cnt; omega) M
  obtain ⟨X, h2⟩ := ltext_ok 30 r.b 46 hm ok.dep ok.tx ok.sg (by have := ok.cnt; omega) M
  refine ⟨X, ?_⟩
  rw [lp_law_1_eq]
  generalize r.b.toD = BD at *
  simp [-List.append_assoc, h1, h2, ne_ss]
theorem turn2 {m : Str} (hm : m.length ≤ 12) (s0 s1 s2 s3 s4 s6 : Slot) : ∀ (rs : List Row) (s7 s8 s9 : Slot) (M : Store), (∀ r ∈ rs, RowTx r) → ∃ X t7 t8 t9, forGo (bTup [7, 8, 9]) (lp_law_1 (sem 109)) (rs.map Row.toD) [s0, s1, s2, s3, s4, .val (.str m), s6, s7, s8, s9] M = .next [s0, s1, s2, s3, s4, .val (.str m), s6, t7, t8, t9] (M ++ X)
  | [], s7, s8, s9, M, _ => ⟨[], s7, s8, s9, by simp [forGo]⟩
  | r :: rs, s7, s8, s9, M, h => by
    obtain ⟨X, h1⟩ := turn1 hm (h r List.mem_cons_self) s0 s1 s2 s3 s4 s6 (.val (.str r.f)) (.val (.tup (r.ps.map .str))) M
    obtain ⟨X2, t7, t8, t9, h2⟩ := turn2 hm s0 s1 s2 s3 s4 s6 rs (.val (.str r.f)) (.val (.tup (r.ps.map .str))) (.val r.b.toD) (M ++ X) (fun y hy => h y (List.mem_cons_of_mem _ hy))
    refine ⟨X ++ X2, t7, t8, t9, ?_⟩
    rw [← List.append_assoc, List.map_cons]
    unfold forGo
    rw [Row.toD]
    simp only [bTup, bNames]
    generalize r.b.toD = BD at *
    generalize r.ps.map D.str = PS at *
    generalize rs.map Row.toD = RD at *
    simp [-List.append_assoc, h1, h2]
theorem turn3 (s0 s1 s2 s3 s4 : Slot) : ∀ (P : Pr) (s5 s6 s7 s8 s9 : Slot) (M : Store), (∀ q ∈ P, q.1.length ≤ 12 ∧ ∀ r ∈ q.2, RowTx r) → ∃ X t5 t6 t7 t8 t9, forGo (bTup [5, 6]) (lp_law_2 (sem 109)) (P.map rmD) [s0, s1, s2, s3, s4, s5, s6, s7, s8, s9] M = .next [s0, s1, s2, s3, s4, t5, t6, t7, t8, t9] (M ++ X)
  | [], s5, s6, s7, s8, s9, M, _ => ⟨[], s5, s6, s7, s8, s9, by simp [forGo]⟩
  | (m, rs) :: P, s5, s6, s7, s8, s9, M, h => by
    obtain ⟨hm, hr⟩ := h (m, rs) List.mem_cons_self
    obtain ⟨X, t7, t8, t9, h1⟩ := turn2 hm s0 s1 s2 s3 s4 (.val (.tup (rs.map Row.toD))) rs s7 s8 s9 M hr
    obtain ⟨X2, u5, u6, u7, u8, u9, h2⟩ := turn3 s0 s1 s2 s3 s4 P (.val (.str m)) (.val (.tup (rs.map Row.toD))) t7 t8 t9 (M ++ X) (fun y hy => h y (List.mem_cons_of_mem _ hy))
    refine ⟨X ++ X2, u5, u6, u7, u8, u9, ?_⟩
    rw [← List.append_assoc, List.map_cons]
    unfold forGo
    simp only [rmD, bTup, bNames]
    generalize rs.map Row.toD = RD at *
    generalize P.map rmD = PD at *
    have h3 : lp_law_2 (sem 109) [s0, s1, s2, s3, s4, .val (.str m), .val (.tup RD), s7, s8, s9] M = .next [s0, s1, s2, s3, s4, .val (.str m), .val (.tup RD), t7, t8, t9] (M ++ X) := by
      rw [lp_law_2_eq]
      simp [-List.append_assoc, itemsD, h1]
    simp [-List.append_assoc, h3, h2]
theorem prog (kI : Int) {cs : D} (hcs : CellsD cs) (c : Int) (Y : Store) (h0 : -1 ≤ c) (h1 : c < 100000000) : ∃ (P : Pr) (c' : Int) (X : Store), PrTx P ∧ c ≤ c' ∧ c' ≤ c + 200000 ∧ ∀ s1' s3 s4 s5 s6 s7 s8 s9 : Slot, s1' = .val (.ref 0) →
    (sSet 3 (dFE (dEF (dIf (dBo (dOp2 (cmpD fun i j => decide (j < i)) (dVarB 2) (dC (.int 0)))) (dCall 2 (sem 109 f__law_sided_program) (dCons (dVar 0) (dCons (dVar 1) dNil))) (dCall 1 (sem 109 f__law_full) (dCons (dEF (dCall 2 (sem 109 f__law_cell) (dCons (dVar 0) (dCons (dVar 1) dNil)))) dNil)))))) [.val cs, s1', .val (.int kI), s3, s4, s5, s6, s7, s8, s9] (.lst [.int c] :: Y) = .next [.val cs, s1', .val (.int kI), .val (pgD P), s4, s5, s6, s7, s8, s9] (.lst [.int c'] :: X) := by
  by_cases hk : 0 < kI
  · obtain ⟨P, c', X, h, ok, l, u⟩ := program_ok 95 hcs (j := 0) (c := c) (M := .lst [.int c] :: Y) rfl h0 (by omega)
    refine ⟨P, c', Y ++ X, ok, l, by omega, fun s1' s3 s4 s5 s6 s7 s8 s9 hs => ?_⟩
    subst hs
    have h' : sem 109 f__law_sided_program [cs, .ref 0] (.lst [.int c] :: Y) = .ok (.val (pgD P)) (.lst [.int c'] :: (Y ++ X)) := h
    generalize pgD P = PG at *
    simp [hk, h']
  · obtain ⟨n, hn0, hn⟩ := cell1 108 hcs (j := 0) (k := c) (M := .lst [.int c] :: Y) rfl h0 (by omega)
    obtain ⟨P, h, ok⟩ := full_ok 107 hn0 (.lst [.int (c + 1)] :: Y)
    refine ⟨P, c + 1, Y, ok, by omega, by omega, fun s1' s3 s4 s5 s6 s7 s8 s9 hs => ?_⟩
    subst hs
    have hn' : sem 109 f__law_cell [cs, .ref 0] (.lst [.int c] :: Y) = .ok (.val (.int n)) (.lst [.int (c + 1)] :: Y) := hn
    generalize pgD P = PG at *
    simp [hk, hn', h]
theorem law_turn (kI : Int) {cs : D} (hcs : CellsD cs) (c : Int) (Y : Store) (h0 : -1 ≤ c) (h1 : c < 100000000) (s3 s4 s5 s6 s7 s8 s9 : Slot) : ∃ (c' : Int) (X : Store) (t3 t4 t5 t6 t7 t8 t9 : Slot), lp_law_3 (sem 109) [.val cs, .val (.ref 0), .val (.int kI), s3, s4, s5, s6, s7, s8, s9] (.lst [.int c] :: Y) = .next [.val cs, .val (.ref 0), .val (.int kI), t3, t4, t5, t6, t7, t8, t9] (.lst [.int c'] :: X) ∧ c ≤ c' ∧ c' ≤ c + 200000 := by
  obtain ⟨P, c', X, ok, l, u, hp⟩ := prog kI hcs c Y h0 h1
  obtain ⟨X1, h2⟩ := turn0 ok (.val cs) (.val (.ref 0)) (.val (.int kI)) (.val (.int 0)) s5 s6 s7 s8 s9 (.lst [.int c'] :: X)
  obtain ⟨X2, h3⟩ := turn0 ok (.val cs) (.val (.ref 0)) (.val (.int kI)) (.val (.int 1)) s5 s6 s7 s8 s9 (.lst [.int c'] :: (X ++ X1))
  obtain ⟨X3, t5, t6, t7, t8, t9, h4⟩ := turn3 (.val cs) (.val (.ref 0)) (.val (.int kI)) (.val (pgD P)) (.val (.int 1)) P s5 s6 s7 s8 s9 (.lst [.int c'] :: (X ++ X1 ++ X2)) (fun q hq => ⟨ok.md q hq, (ok.rw_ q hq).2⟩)
  have hb : rng1D [.int 2] = some [.int 0, .int 1] := rfl
  have hi : itemsD (pgD P) = some (P.map rmD) := rfl
  have hp' := hp (.val (.ref 0)) s3 s4 s5 s6 s7 s8 s9 rfl
  refine ⟨c', X ++ X1 ++ X2 ++ X3, .val (pgD P), .val (.int 1), t5, t6, t7, t8, t9, ?_, l, u⟩
  rw [lp_law_3_eq]
  rw [List.cons_append] at h2 h3 h4
  rw [sSeq_eq, hp']
  generalize pgD P = PG at *
  generalize P.map rmD = PD at *
  simp [-rng1D_int, -List.append_assoc, hb, forGo, bName, h2, h3, hi, h4]
theorem law_true (ns : List Int) (hns : ns.length ≤ 63) : ∃ M, sem 110 f_law [.fro (ns.map D.int)] [] = .ok (.val (.bl true)) M := by
  have hcs : CellsD (.fro (ns.map D.int)) := ⟨ns, hns, .inl rfl⟩
  obtain ⟨cnt, hcnt, hc4⟩ : ∃ k : Nat, (k : Int) = 3 + (if (ns.length : Int) < 4 then (ns.length : Int) else 4) ∧ k ≤ 7 := ⟨3 + min 4 ns.length, by split <;> omega, by omega⟩
  have key := forGo_all (b := bName 2) (body := lp_law_3 (sem 109)) (fun i ρ N => ∃ (c : Int) (X : Store) (s2 s3 s4 s5 s6 s7 s8 s9 : Slot), ρ = [.val (.fro (ns.map D.int)), .val (.ref 0), s2, s3, s4, s5, s6, s7, s8, s9] ∧ N = .lst [.int c] :: X ∧ 0 ≤ c ∧ c ≤ 200000 * i) (rngL 0 cnt)
    (ρ := [.val (.fro (ns.map D.int)), .val (.ref 0), .un, .un, .un, .un, .un, .un, .un, .un]) (M := [.lst [.int 0]]) ⟨0, [], .un, .un, .un, .un, .un, .un, .un, .un, rfl, rfl, by omega, by omega⟩
    (fun i d ρ N hd ⟨c, X, s2, s3, s4, s5, s6, s7, s8, s9, e1, e2, h0, h1⟩ => by
      subst e1 e2
      obtain ⟨hi, rfl⟩ := rngL_get hd
      obtain ⟨c', X', t3, t4, t5, t6, t7, t8, t9, h, hc1, hc2⟩ := law_turn (0 + (i : Int)) hcs c X (by omega) (by omega) s3 s4 s5 s6 s7 s8 s9
      exact ⟨_, rfl, _, _, h, c', X', _, _, _, _, _, _, _, _, rfl, rfl, by omega, by push_cast; omega⟩)
  obtain ⟨ρ', M', e, c, X, s2, s3, s4, s5, s6, s7, s8, s9, e1, e2, _⟩ := key
  subst e1 e2
  refine ⟨.lst [.int c] :: X, ?_⟩
  have hb : rng1D [.int (3 + (if (ns.length : Int) < 4 then (ns.length : Int) else 4))] = some (rngL 0 cnt) := by
    rw [← hcnt, rng1_ok (by omega) (by omega), Int.toNat_natCast]
  have hmin : ∀ N, min2D N [.int 4, .int (ns.length : Int)] = some (.val (.int (if (ns.length : Int) < 4 then (ns.length : Int) else 4))) := fun N => rfl
  have hlen : ∀ N, lenD N [.fro (ns.map D.int)] = some (.val (.int (ns.length : Int))) := fun N => by
    show some (Slot.val (D.int (List.map D.int ns).length)) = _; rw [List.length_map]
  have hf : sem 109 f_text_of [.tup []] (.lst [.int c] :: X) = .ok (.val (.str (Txt.join "\n" []))) (.lst [.int c] :: X) := textof_ok 15 (P := []) ⟨fun _ h => absurd h List.not_mem_nil, fun _ h => absurd h List.not_mem_nil, by decide⟩ _
  have he : ∀ N, eqD N (.str (Txt.join "\n" [])) (.str "") = some (.val (.bl true)) := fun N => rfl
  rw [e_law]
  generalize (if (ns.length : Int) < 4 then (ns.length : Int) else 4) = mn at *
  generalize (ns.length : Int) = nl at *
  generalize ns.map D.int = ND at *
  simp [-rng1D_int, -lenD_fro, runF, m_law, startD, hlen, hmin, hb, e, hf, he]
end K46
open PySem PySem.W PyProof.Rows
set_option maxRecDepth 100000 in
set_option maxHeartbeats 0 in
theorem PySem.Challenge.cw_turnpaper_k46_programs_written_holds : PySem.Challenge.rw_turnpaper_k46_programs_written.Holds := by
  w_on; o_law; k_head; (case hw => w_witness2)
  k_fill
  refine TP.g_walk (l := PySem.Challenge.rw_turnpaper_k46_programs_written) (n := 63) (k := 110) (x := "_law_script") (CX := fun _ => L2.CX0) (sp := fun w => TP.spD _ TP.W0 1 (K46.sem 110 K46.f_law)) rfl (by decide) rfl ⟨rfl, by decide, by decide⟩ (fun w h Y => PySem.W.kIn_of Y) ?F (fun _ H a ns hl hO hS => TP.law_sp hS (K46.law_true ns hl)) (fun _ _ _ _ _ h => h)
  case F =>
    intro w mg fa h KX G hmg
    refine' K46.law_fin 110 KX G hmg ?a0 ?l0 ?c0 ?k0 ?a1 ?l1 ?c1 ?k1 ?a2 ?l2 ?c2 ?k2 ?a3 ?l3 ?c3 ?k3 ?a4 ?l4 ?c4 ?k4 ?a5 ?l5 ?c5 ?k5 ?a6 ?l6 ?c6 ?k6 ?a7 ?l7 ?c7 ?k7 ?a8 ?l8 ?c8 ?k8 ?a9 ?l9 ?c9 ?k9 ?a10 ?l10 ?c10 ?k10 ?a11 ?l11 ?c11 ?k11 ?a12 ?l12 ?c12 ?k12 ?a13 ?l13 ?c13 ?k13 ?a14 ?l14 ?c14 ?k14 ?a15 ?l15 ?c15 ?k15 ?a16 ?l16 ?c16 ?k16 ?a17 ?l17 ?c17 ?k17 ?a18 ?l18 ?c18 ?k18 ?a19 ?l19 ?c19 ?k19 ?a20 ?l20 ?c20 ?k20 ?a21 ?l21 ?c21 ?k21 ?a22 ?l22 ?c22 ?k22 ?a23 ?l23 ?c23 ?k23 ?z_int ?z_str ?z_len ?z_range ?z_tuple ?z_isinstance ?z_zip ?z_enumerate ?z_min ?g_LEVELS ?u_LEVELS ?v_LEVELS ?y_LEVELS ?g_LEAST ?g_FREE ?u_FREE ?v_FREE ?g_HIGHEST
    (case a0 => k_is)
    (case l0 => k_is)
    (case c0 => k_is)
    (case k0 => k_is)
    (case a1 => k_is)
    (case l1 => k_is)
    (case c1 => k_is)
    (case k1 => k_is)
    (case a2 => k_is)
    (case l2 => k_is)
    (case c2 => k_is)
    (case k2 => k_is)
    (case a3 => k_is)
    (case l3 => k_is)
    (case c3 => k_is)
    (case k3 => k_is)
    (case a4 => k_is)
    (case l4 => k_is)
    (case c4 => k_is)
    (case k4 => k_is)
    (case a5 => k_is)
    (case l5 => k_is)
    (case c5 => k_is)
    (case k5 => k_is)
    (case a6 => k_is)
    (case l6 => k_is)
    (case c6 => k_is)
    (case k6 => k_is)
    (case a7 => k_is)
    (case l7 => k_is)
    (case c7 => k_is)
    (case k7 => k_is)
    (case a8 => k_is)
    (case l8 => k_is)
    (case c8 => k_is)
    (case k8 => k_is)
    (case a9 => k_is)
    (case l9 => k_is)
    (case c9 => k_is)
    (case k9 => k_is)
    (case a10 => k_is)
    (case l10 => k_is)
    (case c10 => k_is)
    (case k10 => k_is)
    (case a11 => k_is)
    (case l11 => k_is)
    (case c11 => k_is)
    (case k11 => k_is)
    (case a12 => k_is)
    (case l12 => k_is)
    (case c12 => k_is)
    (case k12 => k_is)
    (case a13 => k_is)
    (case l13 => k_is)
    (case c13 => k_is)
    (case k13 => k_is)
    (case a14 => k_is)
    (case l14 => k_is)
    (case c14 => k_is)
    (case k14 => k_is)
    (case a15 => k_is)
    (case l15 => k_is)
    (case c15 => k_is)
    (case k15 => k_is)
    (case a16 => k_is)
    (case l16 => k_is)
    (case c16 => k_is)
    (case k16 => k_is)
    (case a17 => k_is)
    (case l17 => k_is)
    (case c17 => k_is)
    (case k17 => k_is)
    (case a18 => k_is)
    (case l18 => k_is)
    (case c18 => k_is)
    (case k18 => k_is)
    (case a19 => k_is)
    (case l19 => k_is)
    (case c19 => k_is)
    (case k19 => k_is)
    (case a20 => k_is)
    (case l20 => k_is)
    (case c20 => k_is)
    (case k20 => k_is)
    (case a21 => k_is)
    (case l21 => k_is)
    (case c21 => k_is)
    (case k21 => k_is)
    (case a22 => k_is)
    (case l22 => k_is)
    (case c22 => k_is)
    (case k22 => k_is)
    (case a23 => k_is)
    (case l23 => k_is)
    (case c23 => k_is)
    (case k23 => k_is)
    (case z_int => k_is)
    (case z_str => k_is)
    (case z_len => k_is)
    (case z_range => k_is)
    (case z_tuple => k_is)
    (case z_isinstance => k_is)
    (case z_zip => k_is)
    (case z_enumerate => k_is)
    (case z_min => k_is)
    (case g_LEVELS => k_is)
    (case u_LEVELS => k_is)
    (case v_LEVELS => first | rfl | kernel_rfl)
    (case y_LEVELS => repeat (first | exact True.intro | refine ⟨⟨_, _, rfl, rfl⟩, ?_⟩))
    (case g_LEAST => k_is)
    (case g_FREE => k_is)
    (case u_FREE => k_is)
    (case v_FREE => first | rfl | kernel_rfl)
    (case g_HIGHEST => k_is)
