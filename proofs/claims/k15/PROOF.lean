import PyProof.Rows.All
import Wide.All
import OpenK.AllK
import Wide.FinOn
import HandS.ForMost
import HandS.Wide
import HandS.TupAny
import HandS.Style
import HandS.IsInst
import HandS.Flow
import HandS.Deep
import HandS.Text
import HandS.Zip
import HandS.Rev
import HandS.More
import PyProof.ReprRoads
import KE.KDictZip
import KE.GoesZip
import KE.GoesMore
import KE.GoesEnum
import HandS.TryOnly
import KE.KRevIter
import HandS.Conv
import PyProof.TableCode
import PyProof.ReprLen
import PySem.Challenge.RW_turnpaper_k15_calls_of_calls
set_option Elab.async false
set_option linter.all false
set_option maxRecDepth 100000
/-! TPa: plain data, the store, worlds. -/
namespace TP
open PySem L2

/-- plain data; ref k: the k-th thing of the store -/
inductive D where
  | non | bl (b : Bool) | int (i : Int) | str (x : Str) | tup (xs : List D) | lst (xs : List D) | fro (xs : List D) | kt (xs : List D) | ref (k : Nat)
  deriving Inhabited

/-- a thing of the store, which may be changed -/
inductive MO where
  | lst (xs : List D)
  | dK (kvs : List (Key × D))
  | dT (kvs : List (List Key × D))
  | ins (c : Str) (fs : List (Str × D))
abbrev Store := List MO

section
variable (K : PySem.W.Frag) (A : List Addr) (G : Hp)
mutual
inductive Rep : V → D → Prop
  | non : Rep .non .non
  | bl (b : Bool) : Rep (.bl b) (.bl b)
  | int (i : Int) : Rep (.int i) (.int i)
  | str (x : Str) : Rep (.str x) (.str x)
  | tup {a : Addr} {vs : List V} {ds : List D} : G a = some (.tup vs) → RepL vs ds → Rep (.ref a) (.tup ds)
  | kt {a : Addr} {vs : List V} {ds : List D} : SqT K G a vs → RepL vs ds → Rep (.ref a) (.kt ds)
  | lst {a : Addr} {vs : List V} {ds : List D} : G a = some (.lst vs) → RepL vs ds → Rep (.ref a) (.lst ds)
  | fro {a : Addr} {vs : List V} {ds : List D} : SqL K G a vs → RepL vs ds → Rep (.ref a) (.fro ds)
  | ref {a : Addr} {k : Nat} : A[k]? = some a → Rep (.ref a) (.ref k)
inductive RepL : List V → List D → Prop
  | nil : RepL [] []
  | cons {v : V} {vs : List V} {d : D} {ds : List D} : Rep v d → RepL vs ds → RepL (v :: vs) (d :: ds)
end
end

theorem sqT_mono {K : PySem.W.Frag} {G G' : Hp} {a : Addr} {xs : List V} (e : Same G G') (h : SqT K G a xs) : SqT K G' a xs := by
  rcases h with (h | ⟨o, h⟩) | h
  · exact .inl (.inl (e _ _ h))
  · exact .inl (.inr ⟨o, e _ _ h⟩)
  · exact .inr h

section
variable {K : PySem.W.Frag} {A A' : List Addr} {G G' : Hp}
theorem pre_get {α : Type} {l l' : List α} (h : l <+: l') {k : Nat} {a : α} (e : l[k]? = some a) : l'[k]? = some a := by
  obtain ⟨t, rfl⟩ := h
  rw [List.getElem?_append_left (List.getElem?_eq_some_iff.mp e).1]
  exact e
mutual
theorem Rep.mono (hA : A <+: A') (hG : Same G G') : ∀ (d : D) (v : V), Rep K A G v d → Rep K A' G' v d
  | .non, _, h => by cases h; exact .non
  | .bl b, _, h => by cases h; exact .bl b
  | .int i, _, h => by cases h; exact .int i
  | .str x, _, h => by cases h; exact .str x
  | .tup ds, _, h => by
    cases h with
    | tup hs hr => exact .tup (hG _ _ hs) (RepL.mono hA hG ds _ hr)
  | .kt ds, _, h => by
    cases h with
    | kt hs hr => exact .kt (sqT_mono hG hs) (RepL.mono hA hG ds _ hr)
  | .lst ds, _, h => by
    cases h with
    | lst hs hr => exact .lst (hG _ _ hs) (RepL.mono hA hG ds _ hr)
  | .fro ds, _, h => by
    cases h with
    | fro hs hr => exact .fro (hG.seq hs) (RepL.mono hA hG ds _ hr)
  | .ref k, _, h => by
    cases h with
    | ref e => exact .ref (pre_get hA e)
theorem RepL.mono (hA : A <+: A') (hG : Same G G') : ∀ (ds : List D) (vs : List V), RepL K A G vs ds → RepL K A' G' vs ds
  | [], _, h => by cases h; exact .nil
  | d :: ds, _, h => by
    cases h with
    | cons h1 h2 => exact .cons (Rep.mono hA hG d _ h1) (RepL.mono hA hG ds _ h2)
end

theorem RepL.length : ∀ {vs : List V} {ds : List D}, RepL K A G vs ds → vs.length = ds.length
  | [], [], _ => rfl
  | _ :: vs, _ :: ds, h => by
    cases h with
    | cons _ h2 => rw [List.length_cons, List.length_cons, RepL.length h2]
theorem RepL.get : ∀ {vs : List V} {ds : List D} {i : Nat} {d : D}, RepL K A G vs ds → ds[i]? = some d → ∃ v, vs[i]? = some v ∧ Rep K A G v d
  | [], [], _, _, _, e => by simp at e
  | _ :: _, _ :: _, 0, _, h, e => by
    cases h with
    | cons h1 _ => simp at e; subst e; exact ⟨_, rfl, h1⟩
  | _ :: _, _ :: _, i + 1, _, h, e => by
    cases h with
    | cons _ h2 =>
      obtain ⟨v, a, b⟩ := RepL.get (i := i) h2 (by simpa using e)
      exact ⟨v, by simpa using a, b⟩
theorem RepL.get' : ∀ {vs : List V} {ds : List D} {i : Nat} {v : V}, RepL K A G vs ds → vs[i]? = some v → ∃ d, ds[i]? = some d ∧ Rep K A G v d
  | [], [], _, _, _, e => by simp at e
  | _ :: _, _ :: _, 0, _, h, e => by
    cases h with
    | cons h1 _ => simp at e; subst e; exact ⟨_, rfl, h1⟩
  | _ :: _, _ :: _, i + 1, _, h, e => by
    cases h with
    | cons _ h2 =>
      obtain ⟨v, a, b⟩ := RepL.get' (i := i) h2 (by simpa using e)
      exact ⟨v, by simpa using a, b⟩
theorem RepL.append : ∀ {vs ws : List V} {ds es : List D}, RepL K A G vs ds → RepL K A G ws es → RepL K A G (vs ++ ws) (ds ++ es)
  | [], _, [], _, _, s => s
  | _ :: vs, _, _ :: ds, _, .cons r t, s => .cons r (RepL.append t s)
theorem RepL.take : ∀ {vs : List V} {ds : List D} (n : Nat), RepL K A G vs ds → RepL K A G (vs.take n) (ds.take n)
  | _, _, 0, _ => .nil
  | [], [], _ + 1, _ => .nil
  | _ :: _, _ :: _, n + 1, .cons r t => .cons r (RepL.take n t)
theorem RepL.drop : ∀ {vs : List V} {ds : List D} (n : Nat), RepL K A G vs ds → RepL K A G (vs.drop n) (ds.drop n)
  | _, _, 0, r => r
  | [], [], _ + 1, _ => .nil
  | _ :: _, _ :: _, n + 1, .cons _ t => RepL.drop n t
theorem RepL.set {v : V} {d : D} (r : Rep K A G v d) : ∀ {vs : List V} {ds : List D} (i : Nat), RepL K A G vs ds → RepL K A G (vs.set i v) (ds.set i d)
  | [], [], _, _ => .nil
  | _ :: _, _ :: _, 0, .cons _ t => .cons r t
  | _ :: _, _ :: _, i + 1, .cons q t => .cons q (RepL.set r i t)
theorem RepL.dropLast {vs : List V} {ds : List D} (h : RepL K A G vs ds) : RepL K A G vs.dropLast ds.dropLast := by
  rw [List.dropLast_eq_take, List.dropLast_eq_take, h.length]
  exact h.take _
theorem RepL.one {v : V} {d : D} (h : Rep K A G v d) : RepL K A G [v] [d] := .cons h .nil
theorem RepL.reverse : ∀ {vs : List V} {ds : List D}, RepL K A G vs ds → RepL K A G vs.reverse ds.reverse
  | [], [], _ => .nil
  | _ :: vs, _ :: ds, .cons r t => by
    rw [List.reverse_cons, List.reverse_cons]
    exact (RepL.reverse t).append (.one r)
theorem RepL.nil_iff {vs : List V} {ds : List D} (h : RepL K A G vs ds) : vs = [] ↔ ds = [] := by
  cases h <;> simp
end

/-- a world: the addresses of the store's things, the frozen heap, the store, the heap -/
structure Wd where
  A : List Addr
  G : Hp
  M : Store
  H : Hp

/-- values of a dict, pairwise -/
inductive RepKV {κ : Type} (R : V → D → Prop) : List (κ × V) → List (κ × D) → Prop
  | nil : RepKV R [] []
  | cons {k : κ} {v : V} {d : D} {vs : List (κ × V)} {ds : List (κ × D)} : R v d → RepKV R vs ds → RepKV R ((k, v) :: vs) ((k, d) :: ds)
theorem RepKV.imp {κ : Type} {R R' : V → D → Prop} (f : ∀ v d, R v d → R' v d) : ∀ {vs : List (κ × V)} {ds : List (κ × D)}, RepKV R vs ds → RepKV R' vs ds
  | _, _, .nil => .nil
  | _, _, .cons r t => .cons (f _ _ r) (RepKV.imp f t)

/-- where a class of the text stands -/
def clsAt (K : PySem.W.Frag) (c : Str) : Addr := match PySem.W.nsIn K mainGlobals c with
  | some (some (.ref a)) => a
  | _ => 0
/-- plain instances: their fields are no names of the class -/
def InsOk (K : PySem.W.Frag) (c : Str) (fs : List (Str × D)) : Prop := Cls K (clsAt K c) ∧ ∀ x ∈ fs, NoAttr K (clsAt K c) x.1
section
variable (K : PySem.W.Frag)
/-- what stands at the address of a thing of the store -/
def MoR (w : Wd) (a : Addr) : MO → Prop
  | .lst ds => ∃ vs, w.H a = some (.lst vs) ∧ RepL K w.A w.G vs ds
  | .dK kvs => ∃ vs, w.H a = some (.dK vs) ∧ RepKV (Rep K w.A w.G) vs kvs
  | .dT kvs => ∃ vs, w.H a = some (.dT vs) ∧ RepKV (Rep K w.A w.G) vs kvs
  | .ins c fs => InsOk K c fs ∧ ∃ vs dx, w.H a = some (.ins (clsAt K c) dx vs) ∧ RepKV (Rep K w.A w.G) vs fs
structure Wd.Ok (w : Wd) : Prop where
  sub : Same w.G w.H
  nd : w.A.Nodup
  len : w.A.length = w.M.length
  out : ∀ a ∈ w.A, w.G a = none
  mos : ∀ (k : Nat) (o : MO), w.M[k]? = some o → ∃ a, w.A[k]? = some a ∧ MoR K w a o
/-- from one world to a later one: what is frozen stays, the store's addresses stay, what is owned by someone (neither frozen nor of the store) stays -/
structure Step (w w' : Wd) : Prop where
  ok : w'.Ok K
  pre : w.A <+: w'.A
  fro : Same w.G w'.G
  keep : ∀ p o, w.H p = some o → w.G p = none → p ∉ w.A → w'.H p = some o ∧ (w'.G p = none ∨ ∃ xs, o = .tup xs) ∧ p ∉ w'.A
end
section
variable {K : PySem.W.Frag} {w w1 w2 : Wd}
theorem Step.refl (h : w.Ok K) : Step K w w := ⟨h, List.prefix_refl _, Same.refl _, fun _ _ a b c => ⟨a, .inl b, c⟩⟩
theorem Step.trans (a : Step K w w1) (b : Step K w1 w2) : Step K w w2 :=
  ⟨b.ok, a.pre.trans b.pre, a.fro.trans b.fro, fun p o h1 h2 h3 => by
    obtain ⟨x, y, z⟩ := a.keep p o h1 h2 h3
    cases q : w1.G p with
    | none => exact b.keep p o x q z
    | some u =>
      have e1 := a.ok.sub _ _ q
      rw [x] at e1; cases e1
      have e2 := b.fro _ _ q
      refine ⟨b.ok.sub _ _ e2, .inr (y.elim (fun y => by rw [q] at y; cases y) id), fun hm => ?_⟩
      rw [b.ok.out _ hm] at e2; cases e2⟩
theorem Step.keepN (s : Step K w w1) (p : Addr) (o : HO) (h1 : w.H p = some o) (h2 : w.G p = none) (h3 : p ∉ w.A) (hn : ∀ xs, o ≠ .tup xs := by intro _ h; cases h) : w1.H p = some o ∧ w1.G p = none ∧ p ∉ w1.A :=
  let ⟨a, b, c⟩ := s.keep p o h1 h2 h3
  ⟨a, b.elim id fun ⟨xs, e⟩ => absurd e (hn xs), c⟩
theorem Step.rep (s : Step K w w1) {v : V} {d : D} (h : Rep K w.A w.G v d) : Rep K w1.A w1.G v d := Rep.mono s.pre s.fro d v h
theorem Step.repL (s : Step K w w1) {vs : List V} {ds : List D} (h : RepL K w.A w.G vs ds) : RepL K w1.A w1.G vs ds := RepL.mono s.pre s.fro ds vs h

/-- a new thing, frozen at once -/
theorem Wd.Ok.fresh (h : w.Ok K) {p : Addr} (hp : w.H p = none) (o : HO) : Step K w ⟨w.A, upd w.G p o, w.M, upd w.H p o⟩ := by
  have hG : w.G p = none := h.sub.free hp
  have sG : Same w.G (upd w.G p o) := fun b u e => by rw [upd_ne (ne_of_none e hG)]; exact e
  have npA : p ∉ w.A := fun hm => by
    obtain ⟨k, hk, e⟩ := List.mem_iff_getElem.mp hm
    have hk' : k < w.M.length := by rw [← h.len]; exact hk
    obtain ⟨a, ea, r⟩ := h.mos k w.M[k] (List.getElem?_eq_getElem hk')
    have e2 : a = p := by
      rw [List.getElem?_eq_getElem hk] at ea
      exact (Option.some.inj ea).symm.trans e
    subst e2
    cases q : w.M[k] with
    | lst ds => rw [q] at r; obtain ⟨_, z, _⟩ := r; rw [hp] at z; cases z
    | dK ds => rw [q] at r; obtain ⟨_, z, _⟩ := r; rw [hp] at z; cases z
    | dT ds => rw [q] at r; obtain ⟨_, z, _⟩ := r; rw [hp] at z; cases z
    | ins c fs => rw [q] at r; obtain ⟨_, _, _, z, _⟩ := r; rw [hp] at z; cases z
  refine ⟨⟨fun b u e => ?_, h.nd, h.len, fun a ha => ?_, fun k m e => ?_⟩, List.prefix_refl _, sG, fun q u h1 h2 h3 => ⟨?_, ?_, h3⟩⟩
  · show upd w.H p o b = some u
    by_cases hb : b = p
    · subst hb
      have e' : upd w.G b o b = some u := e
      rw [upd_same] at e' ⊢; exact e'
    · have e' : upd w.G p o b = some u := e
      rw [upd_ne hb] at e' ⊢; exact h.sub b u e'
  · show upd w.G p o a = none
    rw [upd_ne (fun z : a = p => npA (z ▸ ha))]
    exact h.out a ha
  · obtain ⟨a, ea, r⟩ := h.mos k m e
    refine ⟨a, ea, ?_⟩
    have rr : ∀ v d, Rep K w.A w.G v d → Rep K w.A (upd w.G p o) v d := fun v d => Rep.mono (List.prefix_refl _) sG d v
    cases m with
    | lst ds =>
      obtain ⟨vs, z, q⟩ := r
      exact ⟨vs, by show upd w.H p o a = _; rw [upd_ne (ne_of_none z hp)]; exact z, RepL.mono (List.prefix_refl _) sG _ _ q⟩
    | dK ds =>
      obtain ⟨vs, z, q⟩ := r
      exact ⟨vs, by show upd w.H p o a = _; rw [upd_ne (ne_of_none z hp)]; exact z, q.imp rr⟩
    | dT ds =>
      obtain ⟨vs, z, q⟩ := r
      exact ⟨vs, by show upd w.H p o a = _; rw [upd_ne (ne_of_none z hp)]; exact z, q.imp rr⟩
    | ins c fs =>
      obtain ⟨io, vs, dx, z, q⟩ := r
      exact ⟨io, vs, dx, by show upd w.H p o a = _; rw [upd_ne (ne_of_none z hp)]; exact z, q.imp rr⟩
  · show upd w.H p o q = some u
    rw [upd_ne (ne_of_none h1 hp)]; exact h1
  · refine .inl ?_
    show upd w.G p o q = none
    rw [upd_ne (ne_of_none h1 hp)]; exact h2
end
end TP
/-! TPb: slots, answers, the readings of expressions and statements. -/
namespace TP
open PySem L2

/-- a name's value: none known; plain data; a list that nobody else has -/
inductive Slot where
  | un | val (d : D) | own (ds : List D)
  deriving Inhabited
abbrev EnvD := List Slot
def Slot.d : Slot → D
  | .un => .non
  | .val d => d
  | .own ds => .lst ds

inductive R (α : Type) where
  | ok (a : α) (M : Store) | exc (c : Nat) (d : D) (M : Store) | bad
def R.bind {α β : Type} (r : R α) (f : α → Store → R β) : R β := match r with
  | .ok a M => f a M
  | .exc c d M => .exc c d M
  | .bad => .bad
def R.map {α β : Type} (f : α → β) (r : R α) : R β := match r with
  | .ok a M => .ok (f a) M
  | .exc c d M => .exc c d M
  | .bad => .bad
def R.of {α : Type} (o : Option α) (M : Store) : R α := match o with
  | some a => .ok a M
  | none => .bad

abbrev Wish := Nat → D → Wd → Prop

section
variable (K : PySem.W.Frag) (E : Wish)
def After {α : Type} (w : Wd) (r : R α) (P : α → Wd → Prop) : Prop := match r with
  | .ok a M => ∀ w', Step K w w' → w'.M = M → P a w'
  | .exc c d M => ∀ w', Step K w w' → w'.M = M → E c d w'
  | .bad => False
/-- the names' values -/
structure SR (w : Wd) (ρ : EnvD) (σ : St) : Prop where
  len : ρ.length = σ.length
  val : ∀ (i : Nat) (d : D), ρ[i]? = some (.val d) → ∃ v, σ[i]? = some (some v) ∧ Rep K w.A w.G v d
  own : ∀ (i : Nat) (ds : List D), ρ[i]? = some (.own ds) → ∃ p vs, σ[i]? = some (some (.ref p)) ∧ w.H p = some (.lst vs) ∧ w.G p = none ∧ p ∉ w.A ∧ RepL K w.A w.G vs ds
  dis : ∀ (i j : Nat) (ds es : List D) (p : Addr), ρ[i]? = some (.own ds) → ρ[j]? = some (.own es) → σ[i]? = some (some (.ref p)) → σ[j]? = some (some (.ref p)) → i = j
/-- what may be read -/
def RepB (w : Wd) (v : V) (d : D) : Prop := Rep K w.A w.G v d ∨ ∃ p vs ds, v = .ref p ∧ d = .lst ds ∧ w.H p = some (.lst vs) ∧ w.G p = none ∧ p ∉ w.A ∧ RepL K w.A w.G vs ds
/-- an expression's value: plain data, or a new list of one's own -/
def RepX (w w' : Wd) (v : V) : Slot → Prop
  | .un => False
  | .val d => Rep K w'.A w'.G v d
  | .own ds => ∃ p vs, v = .ref p ∧ w.H p = none ∧ w'.H p = some (.lst vs) ∧ w'.G p = none ∧ p ∉ w'.A ∧ RepL K w'.A w'.G vs ds
abbrev FE := EnvD → Store → R Slot
abbrev FD := EnvD → Store → R D
abbrev FL := EnvD → Store → R (List D)
abbrev FB := EnvD → Store → R Bool
def tE (f : FE) : TE := fun σ H Q => ∃ ρ w, w.H = H ∧ w.Ok K ∧ SR K w ρ σ ∧ After K E w (f ρ w.M) fun s w' => ∀ v, RepX K w w' v s → Q v w'.H
def tF (f : FD) : TE := fun σ H Q => ∃ ρ w, w.H = H ∧ w.Ok K ∧ SR K w ρ σ ∧ After K E w (f ρ w.M) fun d w' => ∀ v, Rep K w'.A w'.G v d → Q v w'.H
def tR (f : FD) : TE := fun σ H Q => ∃ ρ w, w.H = H ∧ w.Ok K ∧ SR K w ρ σ ∧ After K E w (f ρ w.M) fun d w' => ∀ v, RepB K w' v d → Q v w'.H
def tAF (f : FL) : TA := fun σ H Q => ∃ ρ w, w.H = H ∧ w.Ok K ∧ SR K w ρ σ ∧ After K E w (f ρ w.M) fun ds w' => ∀ vs, RepL K w'.A w'.G vs ds → Q vs w'.H
inductive RepBL (w : Wd) : List V → List D → Prop
  | nil : RepBL w [] []
  | cons {v : V} {vs : List V} {d : D} {ds : List D} : RepB K w v d → RepBL w vs ds → RepBL w (v :: vs) (d :: ds)
def tAR (f : FL) : TA := fun σ H Q => ∃ ρ w, w.H = H ∧ w.Ok K ∧ SR K w ρ σ ∧ After K E w (f ρ w.M) fun ds w' => ∀ vs, RepBL K w' vs ds → Q vs w'.H
def tT (f : FB) : TT := fun σ H Q => ∃ ρ w, w.H = H ∧ w.Ok K ∧ SR K w ρ σ ∧ After K E w (f ρ w.M) fun b w' => Q b w'.H
end

section
variable {K : PySem.W.Frag} {E : Wish}
theorem After.bind {α β : Type} {w : Wd} {r : R α} {f : α → Store → R β} {P : β → Wd → Prop} (h : After K E w (r.bind f) P) : After K E w r fun a w' => After K E w' (f a w'.M) P := by
  cases r with
  | bad => exact h
  | exc c d M => exact h
  | ok a M =>
    intro w1 s1 e1
    have h' : After K E w (f a M) P := h
    rw [e1]
    cases q : f a M with
    | bad => rw [q] at h'; exact h'
    | exc c d M2 => rw [q] at h'; exact fun w2 s2 e2 => h' w2 (s1.trans s2) e2
    | ok b M2 => rw [q] at h'; exact fun w2 s2 e2 => h' w2 (s1.trans s2) e2
theorem After.imp {α : Type} {w : Wd} {r : R α} {P P' : α → Wd → Prop} (h : After K E w r P) (f : ∀ a w', Step K w w' → P a w' → P' a w') : After K E w r P' := by
  cases r with
  | bad => exact h
  | exc c d M => exact h
  | ok a M => exact fun w1 s1 e1 => f a w1 s1 (h w1 s1 e1)
theorem After.map {α β : Type} {w : Wd} {r : R α} {g : α → β} {P : β → Wd → Prop} (h : After K E w (r.map g) P) : After K E w r fun a w' => P (g a) w' := by
  cases r with
  | bad => exact h
  | exc c d M => exact h
  | ok a M => exact h
theorem After.of {α : Type} {w w' : Wd} {o : Option α} {P : α → Wd → Prop} (h : After K E w (R.of o w.M) P) (hs : Step K w w') (hM : w'.M = w.M) : ∃ a, o = some a ∧ P a w' := by
  cases o with
  | none => exact h.elim
  | some a => exact ⟨a, rfl, h w' hs hM⟩
/-- from an earlier world -/
theorem After.later {α : Type} {w w1 : Wd} {r : R α} {P : α → Wd → Prop} (h : After K E w r P) (s : Step K w w1) : After K E w1 r P := by
  cases r with
  | bad => exact h
  | exc c d M => exact fun w2 s2 e2 => h w2 (s.trans s2) e2
  | ok a M => exact fun w2 s2 e2 => h w2 (s.trans s2) e2
theorem SR.step {w w' : Wd} {ρ : EnvD} {σ : St} (h : SR K w ρ σ) (s : Step K w w') : SR K w' ρ σ :=
  ⟨h.len, fun i d e => let ⟨v, a, b⟩ := h.val i d e; ⟨v, a, s.rep b⟩,
   fun i ds e => let ⟨p, vs, a, b, c, d, f⟩ := h.own i ds e; let ⟨b', c', d'⟩ := s.keepN p _ b c d; ⟨p, vs, a, b', c', d', s.repL f⟩, h.dis⟩
theorem RepB.step {w w' : Wd} {v : V} {d : D} (h : RepB K w v d) (s : Step K w w') : RepB K w' v d := by
  rcases h with h | ⟨p, vs, ds, e1, e2, b, c, d, f⟩
  · exact .inl (s.rep h)
  · obtain ⟨b', c', d'⟩ := s.keepN p _ b c d
    exact .inr ⟨p, vs, ds, e1, e2, b', c', d', s.repL f⟩
theorem RepBL.step {w w' : Wd} (s : Step K w w') : ∀ {vs : List V} {ds : List D}, RepBL K w vs ds → RepBL K w' vs ds
  | _, _, .nil => .nil
  | _, _, .cons r t => .cons (r.step s) (RepBL.step s t)
theorem RepBL.of {w : Wd} : ∀ {vs : List V} {ds : List D}, RepL K w.A w.G vs ds → RepBL K w vs ds
  | [], [], _ => .nil
  | _ :: _, _ :: _, .cons r t => .cons (.inl r) (RepBL.of t)
/-- a list of one's own is frozen -/
theorem Wd.Ok.freeze {w : Wd} (h : w.Ok K) {p : Addr} {o : HO} (hp : w.H p = some o) (hG : w.G p = none) (hA : p ∉ w.A) : (⟨w.A, upd w.G p o, w.M, w.H⟩ : Wd).Ok K := by
  have sG : Same w.G (upd w.G p o) := fun b u e => by rw [upd_ne (ne_of_none e hG)]; exact e
  have rr : ∀ v d, Rep K w.A w.G v d → Rep K w.A (upd w.G p o) v d := fun v d => Rep.mono (List.prefix_refl _) sG d v
  refine ⟨fun b u e => ?_, h.nd, h.len, fun a ha => ?_, fun k m e => ?_⟩
  · have e' : upd w.G p o b = some u := e
    by_cases hb : b = p
    · subst hb
      rw [upd_same] at e'
      exact hp.trans e'
    · rw [upd_ne hb] at e'; exact h.sub b u e'
  · show upd w.G p o a = none
    rw [upd_ne (fun z : a = p => hA (z ▸ ha))]
    exact h.out a ha
  · obtain ⟨a, ea, r⟩ := h.mos k m e
    refine ⟨a, ea, ?_⟩
    cases m with
    | lst ds => obtain ⟨vs, z, q⟩ := r; exact ⟨vs, z, RepL.mono (List.prefix_refl _) sG _ _ q⟩
    | dK ds => obtain ⟨vs, z, q⟩ := r; exact ⟨vs, z, q.imp rr⟩
    | dT ds => obtain ⟨vs, z, q⟩ := r; exact ⟨vs, z, q.imp rr⟩
    | ins c fs => obtain ⟨io, vs, dx, z, q⟩ := r; exact ⟨io, vs, dx, z, q.imp rr⟩
theorem upd_fro {G : Hp} {p : Addr} {o : HO} (h : G p = none) : Same G (upd G p o) := fun b u e => by rw [upd_ne (ne_of_none e h)]; exact e
/-- a value of an expression, frozen -/
theorem RepX.freeze {w w' : Wd} {v : V} {s : Slot} (st : Step K w w') (h : RepX K w w' v s) : ∃ G', Step K w ⟨w'.A, G', w'.M, w'.H⟩ ∧ Rep K w'.A G' v s.d := by
  cases s with
  | un => exact h.elim
  | val d => exact ⟨w'.G, st, h⟩
  | own ds =>
    obtain ⟨p, vs, rfl, h0, hH, hG, hA, r⟩ := h
    refine ⟨upd w'.G p (.lst vs), ⟨st.ok.freeze hH hG hA, st.pre, st.fro.trans (upd_fro hG), fun q o h1 h2 h3 => ?_⟩, .lst upd_same (RepL.mono (List.prefix_refl _) (upd_fro hG) _ _ r)⟩
    obtain ⟨a, b, c⟩ := st.keep q o h1 h2 h3
    exact ⟨a, b.imp (fun b => by show upd w'.G p (.lst vs) q = none; rw [upd_ne (ne_of_none h1 h0)]; exact b) id, c⟩
theorem RepX.b {w w' : Wd} {v : V} {s : Slot} (h : RepX K w w' v s) : RepB K w' v s.d := by
  cases s with
  | un => exact h.elim
  | val d => exact .inl h
  | own ds => obtain ⟨p, vs, e, _, hH, hG, hA, r⟩ := h; exact .inr ⟨p, vs, ds, e, rfl, hH, hG, hA, r⟩

/-- what is free now was free -/
theorem Wd.Ok.some_at {w : Wd} (h : w.Ok K) {p : Addr} (hp : p ∈ w.A) : ∃ o, w.H p = some o := by
  obtain ⟨k, hk, e⟩ := List.mem_iff_getElem.mp hp
  have hk' : k < w.M.length := by rw [← h.len]; exact hk
  obtain ⟨a, ea, r⟩ := h.mos k w.M[k] (List.getElem?_eq_getElem hk')
  have e2 : a = p := by
    rw [List.getElem?_eq_getElem hk] at ea
    exact (Option.some.inj ea).symm.trans e
  subst e2
  cases q : w.M[k] with
  | lst ds => rw [q] at r; obtain ⟨_, z, _⟩ := r; exact ⟨_, z⟩
  | dK ds => rw [q] at r; obtain ⟨_, z, _⟩ := r; exact ⟨_, z⟩
  | dT ds => rw [q] at r; obtain ⟨_, z, _⟩ := r; exact ⟨_, z⟩
  | ins c fs => rw [q] at r; obtain ⟨_, _, _, z, _⟩ := r; exact ⟨_, z⟩
theorem Step.free {w w' : Wd} (s : Step K w w') {p : Addr} (h : w'.H p = none) : w.H p = none := by
  cases q : w.H p with
  | none => rfl
  | some o =>
    exfalso
    cases qG : w.G p with
    | some u =>
      have := s.ok.sub p u (s.fro p u qG)
      rw [h] at this; cases this
    | none =>
      by_cases hA : p ∈ w.A
      · obtain ⟨o', z⟩ := s.ok.some_at (s.pre.subset hA)
        rw [h] at z; cases z
      · have := (s.keep p o q qG hA).1
        rw [h] at this; cases this
theorem RepX.back {w w1 w2 : Wd} {v : V} {s : Slot} (st : Step K w w1) (h : RepX K w1 w2 v s) : RepX K w w2 v s := by
  cases s with
  | un => exact h
  | val d => exact h
  | own ds => obtain ⟨p, vs, e, h0, r⟩ := h; exact ⟨p, vs, e, st.free h0, r⟩

/-! ### weaker readings -/
section
variable {X : Cx} {e : Expr}
theorem PE.wk {t t' : TE} (h : PE X e t) (f : ∀ σ H Q, t' σ H Q → t σ H Q) : PE X e t' := ⟨fun pins s σ H Q I q => h.run pins s σ H Q I (f σ H Q q)⟩
theorem PT.wk {t t' : TT} (h : PT X e t) (f : ∀ σ H Q, t' σ H Q → t σ H Q) : PT X e t' := ⟨fun pins s σ H Q I q => h.run pins s σ H Q I (f σ H Q q)⟩
theorem PW.wk {t t' : TT} (h : PW X e t) (f : ∀ σ H Q, t' σ H Q → t σ H Q) : PW X e t' := ⟨fun wh pins s σ H Q I q => h.run wh pins s σ H Q I (f σ H Q q)⟩
theorem PA.wk {es : List Expr} {t t' : TA} (h : PA X es t) (f : ∀ σ H Q, t' σ H Q → t σ H Q) : PA X es t' := ⟨fun pos pins s σ H Q I q => h.run pos pins s σ H Q I (f σ H Q q)⟩
theorem PSs.wk {sts : List Stmt} {t t' : TS} (h : PSs X sts t) (f : ∀ D σ H, t' D σ H → t D σ H) : PSs X sts t' := ⟨fun pins s σ H D I q => h.run pins s σ H D I (f D σ H q)⟩
theorem PS.wk {st : Stmt} {t t' : TS} (h : PS X st t) (f : ∀ D σ H, t' D σ H → t D σ H) : PS X st t' := ⟨fun pins s σ H D I q => h.run pins s σ H D I (f D σ H q)⟩
def dEF (f : FE) : FD := fun ρ M => (f ρ M).map Slot.d
def dFE (f : FD) : FE := fun ρ M => (f ρ M).map Slot.val
/-- frozen -/
theorem c_EF {f : FE} (h : PE X e (tE K E f)) : PE X e (tF K E (dEF f)) := PE.wk h fun σ H Q ⟨ρ, w, e1, ok, sr, a⟩ => ⟨ρ, w, e1, ok, sr, by
  have a2 := a.map
  cases q : f ρ w.M with
  | bad => rw [q] at a2; exact a2
  | exc c d M => rw [q] at a2; exact a2
  | ok s M =>
    rw [q] at a2
    intro w' st eM v r
    obtain ⟨G', st', r'⟩ := r.freeze st
    exact a2 _ st' eM v r'⟩
theorem c_EB {f : FE} (h : PE X e (tE K E f)) : PE X e (tR K E (dEF f)) := PE.wk h fun σ H Q ⟨ρ, w, e1, ok, sr, a⟩ => ⟨ρ, w, e1, ok, sr, a.map.imp fun s w' _ z v r => z v r.b⟩
theorem c_FE {f : FD} (h : PE X e (tF K E f)) : PE X e (tE K E (dFE f)) := PE.wk h fun σ H Q ⟨ρ, w, e1, ok, sr, a⟩ => ⟨ρ, w, e1, ok, sr, a.map⟩
theorem c_FB {f : FD} (h : PE X e (tF K E f)) : PE X e (tR K E f) := PE.wk h fun σ H Q ⟨ρ, w, e1, ok, sr, a⟩ => ⟨ρ, w, e1, ok, sr, a.imp fun s w' _ z v r => z v (.inl r)⟩
/-! ### names, constants -/
def dVar (i : Nat) : FD := fun ρ M => match ρ[i]? with
  | some (.val d) => .ok d M
  | _ => .bad
def dVarB (i : Nat) : FD := fun ρ M => match ρ[i]? with
  | some (.val d) => .ok d M
  | some (.own ds) => .ok (.lst ds) M
  | _ => .bad
def dC (d : D) : FD := fun _ M => .ok d M
theorem x_var {i : Nat} (h : PE X e (tVar i)) : PE X e (tF K E (dVar i)) := PE.wk h fun σ H Q ⟨ρ, w, e1, ok, sr, a⟩ => by
  subst e1
  unfold dVar at a
  split at a
  · rename_i d e2
    obtain ⟨v, h1, h2⟩ := sr.val i d e2
    exact ⟨v, h1, a w (Step.refl ok) rfl v h2⟩
  · exact a.elim
theorem x_varB {i : Nat} (h : PE X e (tVar i)) : PE X e (tR K E (dVarB i)) := PE.wk h fun σ H Q ⟨ρ, w, e1, ok, sr, a⟩ => by
  subst e1
  unfold dVarB at a
  split at a
  · rename_i d e2
    obtain ⟨v, h1, h2⟩ := sr.val i d e2
    exact ⟨v, h1, a w (Step.refl ok) rfl v (.inl h2)⟩
  · rename_i ds e2
    obtain ⟨p, vs, h1, h2, h3, h4, h5⟩ := sr.own i ds e2
    exact ⟨_, h1, a w (Step.refl ok) rfl _ (.inr ⟨p, vs, ds, rfl, rfl, h2, h3, h4, h5⟩)⟩
  · exact a.elim
theorem x_c {v : V} {d : D} (h : PE X e (tC v)) (r : ∀ A G, Rep K A G v d) : PE X e (tF K E (dC d)) := PE.wk h fun σ H Q ⟨ρ, w, e1, ok, sr, a⟩ => by
  subst e1
  exact a w (Step.refl ok) rfl v (r _ _)
end
end
end TP
/-! TPc: expressions. -/
namespace TP
open PySem L2
/-! ### views -/
/-- a list that may be changed or read -/
def lstOf (M : Store) : D → Option (List D)
  | .lst ds => some ds
  | .ref k => match M[k]? with
    | some (.lst ds) => some ds
    | _ => none
  | _ => none
/-- a list that may be read -/
def seqOf (M : Store) : D → Option (List D)
  | .fro ds => some ds
  | x => lstOf M x
section
variable {K : PySem.W.Frag} {E : Wish}
theorem lstOf_ref {M : Store} {k : Nat} {ds : List D} (h : lstOf M (.ref k) = some ds) : M[k]? = some (.lst ds) := by
  unfold lstOf at h
  simp only at h
  split at h
  · rename_i es e2
    cases h
    exact e2
  · cases h
theorem lst_at {w : Wd} (ok : w.Ok K) {v : V} {x : D} {ds : List D} (r : RepB K w v x) (h : lstOf w.M x = some ds) : ∃ p vs, v = .ref p ∧ w.H p = some (.lst vs) ∧ RepL K w.A w.G vs ds := by
  rcases r with r | ⟨p, vs, es, rfl, rfl, h1, _, _, h4⟩
  · cases r with
    | lst e rl => cases h; exact ⟨_, _, rfl, ok.sub _ _ e, rl⟩
    | @ref a k e =>
      obtain ⟨a', e3, vs, h1, h2⟩ := ok.mos k _ (lstOf_ref h)
      rw [e] at e3
      cases e3
      exact ⟨_, vs, rfl, h1, h2⟩
    | _ => cases h
  · cases h; exact ⟨p, vs, rfl, h1, h4⟩
theorem seq_at {w : Wd} (ok : w.Ok K) {v : V} {x : D} {ds : List D} (r : RepB K w v x) (h : seqOf w.M x = some ds) : ∃ p vs, v = .ref p ∧ SqL K w.H p vs ∧ RepL K w.A w.G vs ds := by
  by_cases hf : ∃ es, x = .fro es
  · obtain ⟨es, rfl⟩ := hf
    rcases r with r | ⟨p, vs, es', rfl, e, _⟩
    · cases r with
      | fro hs rl => cases h; exact ⟨_, _, rfl, ok.sub.seq hs, rl⟩
    · cases e
  · have h' : lstOf w.M x = some ds := by
      cases x <;> first | exact h | exact absurd ⟨_, rfl⟩ hf
    obtain ⟨p, vs, e, h1, h2⟩ := lst_at ok r h'
    exact ⟨p, vs, e, .inl (.inl h1), h2⟩
theorem tup_at {w : Wd} (ok : w.Ok K) {v : V} {ds : List D} (r : RepB K w v (.tup ds)) : ∃ p vs, v = .ref p ∧ SqT K w.H p vs ∧ RepL K w.A w.G vs ds := by
  rcases r with r | ⟨p, vs, es', rfl, e, _⟩
  · cases r with
    | tup hs rl => exact ⟨_, _, rfl, .inl (.inl (ok.sub _ _ hs)), rl⟩
  · cases e
theorem tupH_at {w : Wd} (ok : w.Ok K) {v : V} {ds : List D} (r : RepB K w v (.tup ds)) : ∃ p vs, v = .ref p ∧ w.H p = some (.tup vs) ∧ RepL K w.A w.G vs ds := by
  rcases r with r | ⟨p, vs, es', rfl, e, _⟩
  · cases r with
    | tup hs rl => exact ⟨_, _, rfl, ok.sub _ _ hs, rl⟩
  · cases e
theorem kt_at {w : Wd} (ok : w.Ok K) {v : V} {ds : List D} (r : RepB K w v (.kt ds)) : ∃ p vs, v = .ref p ∧ SqT K w.H p vs ∧ RepL K w.A w.G vs ds := by
  rcases r with r | ⟨p, vs, es', rfl, e, _⟩
  · cases r with
    | kt hs rl => exact ⟨_, _, rfl, sqT_mono ok.sub hs, rl⟩
  · cases e
theorem int_at {w : Wd} {v : V} {i : Int} (r : RepB K w v (.int i)) : v = .int i := by
  rcases r with r | ⟨p, vs, es', rfl, e, _⟩
  · cases r; rfl
  · cases e
theorem bl_at {w : Wd} {v : V} {i : Bool} (r : RepB K w v (.bl i)) : v = .bl i := by
  rcases r with r | ⟨p, vs, es', rfl, e, _⟩
  · cases r; rfl
  · cases e
theorem str_at {w : Wd} {v : V} {i : Str} (r : RepB K w v (.str i)) : v = .str i := by
  rcases r with r | ⟨p, vs, es', rfl, e, _⟩
  · cases r; rfl
  · cases e
theorem non_at {w : Wd} {v : V} (r : RepB K w v .non) : v = .non := by
  rcases r with r | ⟨p, vs, es', rfl, e, _⟩
  · cases r; rfl
  · cases e
/-! ### what a built-in thing does, by plain data -/
def Prim1 (K : PySem.W.Frag) (r : V → Hp → VK → Prop) (g : Store → D → Option Slot) : Prop := ∀ (w : Wd) (vx : V) (x : D) (s : Slot) (Q : VK), w.Ok K → RepB K w vx x → g w.M x = some s →
  (∀ v w', Step K w w' → w'.M = w.M → RepX K w w' v s → Q v w'.H) → r vx w.H Q
def Prim2 (K : PySem.W.Frag) (r : R2) (g : Store → D → D → Option Slot) : Prop := ∀ (w : Wd) (vx vy : V) (x y : D) (s : Slot) (Q : VK), w.Ok K → RepB K w vx x → RepB K w vy y → g w.M x y = some s →
  (∀ v w', Step K w w' → w'.M = w.M → RepX K w w' v s → Q v w'.H) → r vx vy w.H Q
def PrimN (K : PySem.W.Frag) (r : List V → Hp → VK → Prop) (g : Store → List D → Option Slot) : Prop := ∀ (w : Wd) (vs : List V) (ds : List D) (s : Slot) (Q : VK), w.Ok K → RepBL K w vs ds → g w.M ds = some s →
  (∀ v w', Step K w w' → w'.M = w.M → RepX K w w' v s → Q v w'.H) → r vs w.H Q
def PrimM (K : PySem.W.Frag) (r : V → List V → Hp → VK → Prop) (g : Store → D → List D → Option Slot) : Prop := ∀ (w : Wd) (vx : V) (x : D) (vs : List V) (ds : List D) (s : Slot) (Q : VK), w.Ok K → RepB K w vx x → RepBL K w vs ds → g w.M x ds = some s →
  (∀ v w', Step K w w' → w'.M = w.M → RepX K w w' v s → Q v w'.H) → r vx vs w.H Q
def dOp1 (g : Store → D → Option Slot) (fa : FD) : FE := fun ρ M => (fa ρ M).bind fun x M => R.of (g M x) M
def dOp2 (g : Store → D → D → Option Slot) (fa fb : FD) : FE := fun ρ M => (fa ρ M).bind fun x M => (fb ρ M).bind fun y M => R.of (g M x y) M
def dPr (g : Store → List D → Option Slot) (fs : FL) : FE := fun ρ M => (fs ρ M).bind fun ds M => R.of (g M ds) M
section
variable {X : Cx} {e : Expr}
theorem fin_of {w w2 : Wd} {o : Option Slot} {Q : VK} (s : Step K w w2) (a : After K E w2 (R.of o w2.M) fun s w' => ∀ v, RepX K w w' v s → Q v w'.H) :
    ∃ s, o = some s ∧ ∀ v w', Step K w2 w' → w'.M = w2.M → RepX K w2 w' v s → Q v w'.H := by
  cases o with
  | none => exact a.elim
  | some x => exact ⟨x, rfl, fun v w' s3 e3 rv => a w' s3 e3 v (rv.back s)⟩
theorem x_op2 {r : R2} {g : Store → D → D → Option Slot} {fa fb : FD} (h : PE X e (tOp r (tR K E fa) (tR K E fb))) (p : Prim2 K r g) : PE X e (tE K E (dOp2 g fa fb)) := PE.wk h fun σ H Q ⟨ρ, w, e1, ok, sr, a⟩ =>
  ⟨ρ, w, e1, ok, sr, a.bind.imp fun x w1 s1 a1 vx rx => ⟨ρ, w1, rfl, s1.ok, sr.step s1, a1.bind.imp fun y w2 s2 a2 vy ry => by
    obtain ⟨s, es, k⟩ := fin_of (s1.trans s2) a2
    exact p w2 vx vy x y s Q s2.ok (rx.step s2) ry es k⟩⟩
theorem x_op1 {r : V → Hp → VK → Prop} {g : Store → D → Option Slot} {fa : FD} (h : PE X e (tUn r (tR K E fa))) (p : Prim1 K r g) : PE X e (tE K E (dOp1 g fa)) := PE.wk h fun σ H Q ⟨ρ, w, e1, ok, sr, a⟩ =>
  ⟨ρ, w, e1, ok, sr, a.bind.imp fun x w1 s1 a1 vx rx => by
    obtain ⟨s, es, k⟩ := fin_of s1 a1
    exact p w1 vx x s Q s1.ok rx es k⟩
theorem x_prim {r : List V → Hp → VK → Prop} {g : Store → List D → Option Slot} {fs : FL} (h : PE X e (tCB r (tAR K E fs))) (p : PrimN K r g) : PE X e (tE K E (dPr g fs)) := PE.wk h fun σ H Q ⟨ρ, w, e1, ok, sr, a⟩ =>
  ⟨ρ, w, e1, ok, sr, a.bind.imp fun x w1 s1 a1 vx rx => by
    obtain ⟨s, es, k⟩ := fin_of s1 a1
    exact p w1 vx x s Q s1.ok rx es k⟩
/-! ### lists of arguments -/
def dNil : FL := fun _ M => .ok [] M
def dCons (f : FD) (fs : FL) : FL := fun ρ M => (f ρ M).bind fun d M => (fs ρ M).bind fun ds M => .ok (d :: ds) M
variable {es : List Expr}
theorem xa_nil (h : PA X [] tNil) : PA X [] (tAF K E dNil) := PA.wk h fun σ H Q ⟨ρ, w, e1, ok, sr, a⟩ => by
  subst e1
  exact a w (Step.refl ok) rfl [] .nil
theorem xr_nil (h : PA X [] tNil) : PA X [] (tAR K E dNil) := PA.wk h fun σ H Q ⟨ρ, w, e1, ok, sr, a⟩ => by
  subst e1
  exact a w (Step.refl ok) rfl [] .nil
theorem xa_cons {f : FD} {fs : FL} (h : PA X es (tCons (tF K E f) (tAF K E fs))) : PA X es (tAF K E (dCons f fs)) := PA.wk h fun σ H Q ⟨ρ, w, e1, ok, sr, a⟩ =>
  ⟨ρ, w, e1, ok, sr, a.bind.imp fun d w1 s1 a1 v rv => ⟨ρ, w1, rfl, s1.ok, sr.step s1, a1.bind.imp fun ds w2 s2 a2 vs rvs => a2 w2 (Step.refl s2.ok) rfl _ (.cons (s2.rep rv) rvs)⟩⟩
theorem xr_cons {f : FD} {fs : FL} (h : PA X es (tCons (tR K E f) (tAR K E fs))) : PA X es (tAR K E (dCons f fs)) := PA.wk h fun σ H Q ⟨ρ, w, e1, ok, sr, a⟩ =>
  ⟨ρ, w, e1, ok, sr, a.bind.imp fun d w1 s1 a1 v rv => ⟨ρ, w1, rfl, s1.ok, sr.step s1, a1.bind.imp fun ds w2 s2 a2 vs rvs => a2 w2 (Step.refl s2.ok) rfl _ (.cons (rv.step s2) rvs)⟩⟩
theorem sizeOf_le {n : Nat} (h : decide (n ≤ sizeLine) = true) : n ≤ sizeLine := of_decide_eq_true h
/-- a tuple of written items -/
def dTup (fs : FL) : FD := fun ρ M => (fs ρ M).bind fun ds M => if ds.length ≤ sizeLine then .ok (.tup ds) M else .bad
def dLst (fs : FL) : FE := fun ρ M => (fs ρ M).bind fun ds M => if ds.length ≤ sizeLine then .ok (.own ds) M else .bad
theorem x_tup {fs : FL} (h : PE X e (tTup (tAF K E fs))) : PE X e (tF K E (dTup fs)) := PE.wk h fun σ H Q ⟨ρ, w, e1, ok, sr, a⟩ =>
  ⟨ρ, w, e1, ok, sr, a.bind.imp fun ds w1 s1 a1 vs rvs => by
    split at a1
    · rename_i hl
      refine ⟨by rw [rvs.length]; exact hl, fun p hp => ?_⟩
      have st := s1.ok.fresh hp (.tup vs)
      exact a1 _ st rfl _ (.tup upd_same (st.repL rvs))
    · exact a1.elim⟩
/-- a new thing that is not frozen: a list of one's own -/
theorem Wd.Ok.fresh0 {w : Wd} (h : w.Ok K) {p : Addr} (hp : w.H p = none) (o : HO) : Step K w ⟨w.A, w.G, w.M, upd w.H p o⟩ := by
  have hG : w.G p = none := h.sub.free hp
  refine ⟨⟨fun b u e => ?_, h.nd, h.len, h.out, fun k m e => ?_⟩, List.prefix_refl _, Same.refl _, fun q u h1 h2 h3 => ⟨?_, .inl h2, h3⟩⟩
  · show upd w.H p o b = some u
    rw [upd_ne (ne_of_none e hG)]
    exact h.sub b u e
  · obtain ⟨a, ea, r⟩ := h.mos k m e
    refine ⟨a, ea, ?_⟩
    cases m with
    | lst ds => obtain ⟨vs, z, q⟩ := r; exact ⟨vs, by show upd w.H p o a = _; rw [upd_ne (ne_of_none z hp)]; exact z, q⟩
    | dK ds => obtain ⟨vs, z, q⟩ := r; exact ⟨vs, by show upd w.H p o a = _; rw [upd_ne (ne_of_none z hp)]; exact z, q⟩
    | dT ds => obtain ⟨vs, z, q⟩ := r; exact ⟨vs, by show upd w.H p o a = _; rw [upd_ne (ne_of_none z hp)]; exact z, q⟩
    | ins c fs => obtain ⟨io, vs, dx, z, q⟩ := r; exact ⟨io, vs, dx, by show upd w.H p o a = _; rw [upd_ne (ne_of_none z hp)]; exact z, q⟩
  · show upd w.H p o q = some u
    rw [upd_ne (ne_of_none h1 hp)]; exact h1
theorem Wd.Ok.notA {w : Wd} (h : w.Ok K) {p : Addr} (hp : w.H p = none) : p ∉ w.A := fun hm => by
  obtain ⟨o, z⟩ := h.some_at hm
  rw [hp] at z; cases z
/-- a new list, as a value of its own -/
theorem own_new {w w1 : Wd} (s1 : Step K w w1) {p : Addr} (hp : w1.H p = none) {vs : List V} {ds : List D} (r : RepL K w1.A w1.G vs ds) :
    RepX K w ⟨w1.A, w1.G, w1.M, upd w1.H p (.lst vs)⟩ (.ref p) (.own ds) :=
  ⟨p, vs, rfl, s1.free hp, upd_same, s1.ok.sub.free hp, s1.ok.notA hp, r⟩
theorem x_lst {fs : FL} (h : PE X e (tLst (tAF K E fs))) : PE X e (tE K E (dLst fs)) := PE.wk h fun σ H Q ⟨ρ, w, e1, ok, sr, a⟩ =>
  ⟨ρ, w, e1, ok, sr, a.bind.imp fun ds w1 s1 a1 vs rvs => by
    split at a1
    · rename_i hl
      refine ⟨by rw [rvs.length]; exact hl, fun p hp => ?_⟩
      exact a1 _ (s1.ok.fresh0 hp (.lst vs)) rfl _ (own_new s1 hp rvs)
    · exact a1.elim⟩
/-! ### tests -/
/-- truth -/
def truD (M : Store) : D → Option Bool
  | .non => some false
  | .bl b => some b
  | .int i => some (i != 0)
  | .str y => if y.length ≤ sizeLine then some ((y.length : Int) != 0) else none
  | .tup ds => some (!ds.isEmpty)
  | .ref k => match M[k]? with
    | some (.lst ds) => some (!ds.isEmpty)
    | some (.dK ds) => some (!ds.isEmpty)
    | _ => none
  | .lst ds => some (!ds.isEmpty)
  | .fro ds => some (!ds.isEmpty)
  | .kt ds => some (!ds.isEmpty)
theorem RepL.emp {A : List Addr} {G : Hp} {vs : List V} {ds : List D} (h : RepL K A G vs ds) : ds.isEmpty = vs.isEmpty := by cases h <;> rfl
theorem RepKV.emp {κ : Type} {R : V → D → Prop} {vs : List (κ × V)} {ds : List (κ × D)} (h : RepKV R vs ds) : ds.isEmpty = vs.isEmpty := by cases h <;> rfl
theorem tru_at {w : Wd} (ok : w.Ok K) {v : V} {x : D} {b : Bool} (r : RepB K w v x) (h : truD w.M x = some b) : TruV K v w.H b := by
  cases x with
  | non => cases non_at r; exact (Option.some.inj h).symm
  | bl c => cases bl_at r; exact (Option.some.inj h).symm
  | int i => cases int_at r; exact (Option.some.inj h).symm
  | str y =>
    cases str_at r
    simp only [truD] at h
    split at h
    · rename_i hl; exact ⟨hl, (Option.some.inj h).symm⟩
    · cases h
  | tup ds =>
    obtain ⟨p, vs, rfl, hs, rl⟩ := tup_at ok r
    exact .inr (.inl ⟨vs, hs, by rw [← rl.emp]; exact (Option.some.inj h).symm⟩)
  | lst ds =>
    obtain ⟨p, vs, rfl, hs, rl⟩ := lst_at (ds := ds) ok r rfl
    exact .inl ⟨vs, .inl (.inl hs), by rw [← rl.emp]; exact (Option.some.inj h).symm⟩
  | fro ds =>
    obtain ⟨p, vs, rfl, hs, rl⟩ := seq_at (ds := ds) ok r rfl
    exact .inl ⟨vs, hs, by rw [← rl.emp]; exact (Option.some.inj h).symm⟩
  | kt ds =>
    obtain ⟨p, vs, rfl, hs, rl⟩ := kt_at ok r
    exact .inr (.inl ⟨vs, hs, by rw [← rl.emp]; exact (Option.some.inj h).symm⟩)
  | ref k =>
    simp only [truD] at h
    rcases r with r | ⟨p, vs, es', rfl, e, _⟩
    · cases r with
      | @ref a k ek =>
        split at h
        · rename_i ds e2
          obtain ⟨a', e3, vs, h1, h2⟩ := ok.mos k _ e2
          rw [ek] at e3; cases e3
          exact .inl ⟨vs, .inl (.inl h1), by rw [← h2.emp]; exact (Option.some.inj h).symm⟩
        · rename_i ds e2
          obtain ⟨a', e3, vs, h1, h2⟩ := ok.mos k _ e2
          rw [ek] at e3; cases e3
          exact .inr (.inr ⟨vs, h1, by rw [← h2.emp]; exact (Option.some.inj h).symm⟩)
        · cases h
    · cases e
def dTru (f : FD) : FB := fun ρ M => (f ρ M).bind fun x M => R.of (truD M x) M
theorem x_truth {f : FD} (h : PT X e (fun σ H Q => tR K E f σ H fun x H' => ∃ k, TruV K x H' k ∧ Q k H')) : PT X e (tT K E (dTru f)) := PT.wk h fun σ H Q ⟨ρ, w, e1, ok, sr, a⟩ =>
  ⟨ρ, w, e1, ok, sr, a.bind.imp fun x w1 s1 a1 v rv => by
    obtain ⟨b, eb, k⟩ := a1.of (Step.refl s1.ok) rfl
    exact ⟨b, tru_at s1.ok rv eb, k⟩⟩
/-- a test that is a bool expression (a comparison) -/
def boD : D → Option Bool
  | .bl b => some b
  | _ => none
def dBo (f : FE) : FB := fun ρ M => (f ρ M).bind fun x M => R.of (boD x.d) M
theorem x_test {t : TE} {f : FE} (h : PT X e (tTest t)) (ht : ∀ σ H Q, tE K E f σ H Q → t σ H Q) : PT X e (tT K E (dBo f)) := PT.wk h fun σ H Q ⟨ρ, w, e1, ok, sr, a⟩ =>
  ht _ _ _ ⟨ρ, w, e1, ok, sr, a.bind.imp fun x w1 s1 a1 v rv => by
    obtain ⟨b, eb, k⟩ := a1.of (Step.refl s1.ok) rfl
    cases x with
    | un => cases eb
    | own ds => cases eb
    | val d =>
      cases d with
      | bl c => cases eb; cases rv; exact ⟨_, rfl, k⟩
      | _ => cases eb⟩
def dNot (f : FB) : FB := fun ρ M => (f ρ M).map fun b => !b
theorem x_not {f : FB} (h : PT X e (tNot (tT K E f))) : PT X e (tT K E (dNot f)) := PT.wk h fun σ H Q ⟨ρ, w, e1, ok, sr, a⟩ => ⟨ρ, w, e1, ok, sr, a.map⟩
def dAnd (f g : FB) : FB := fun ρ M => (f ρ M).bind fun b M => if b then g ρ M else .ok false M
def dOr (f g : FB) : FB := fun ρ M => (f ρ M).bind fun b M => if b then .ok true M else g ρ M
theorem x_and {f g : FB} (h : PW X e (tAnd (tT K E f) (tT K E g))) : PW X e (tT K E (dAnd f g)) := PW.wk h fun σ H Q ⟨ρ, w, e1, ok, sr, a⟩ =>
  ⟨ρ, w, e1, ok, sr, a.bind.imp fun b w1 s1 a1 => by
    cases b with
    | true => exact iteT ⟨ρ, w1, rfl, s1.ok, sr.step s1, a1⟩
    | false => exact iteF (a1 w1 (Step.refl s1.ok) rfl)⟩
theorem x_or {f g : FB} (h : PW X e (tOr (tT K E f) (tT K E g))) : PW X e (tT K E (dOr f g)) := PW.wk h fun σ H Q ⟨ρ, w, e1, ok, sr, a⟩ =>
  ⟨ρ, w, e1, ok, sr, a.bind.imp fun b w1 s1 a1 => by
    cases b with
    | true => exact iteT (a1 w1 (Step.refl s1.ok) rfl)
    | false => exact iteF ⟨ρ, w1, rfl, s1.ok, sr.step s1, a1⟩⟩
/-- a if c else b -/
def dIf (c : FB) (f g : FE) : FE := fun ρ M => (c ρ M).bind fun b M => if b then f ρ M else g ρ M
theorem tE_back {f : FE} {w w1 : Wd} {ρ : EnvD} {σ : St} {Q : VK} (s1 : Step K w w1) (sr : SR K w ρ σ) (a : After K E w1 (f ρ w1.M) fun s w' => ∀ v, RepX K w w' v s → Q v w'.H) : tE K E f σ w1.H Q :=
  ⟨ρ, w1, rfl, s1.ok, sr.step s1, a.imp fun s w' _ z v rv => z v (rv.back s1)⟩
theorem x_if {c : FB} {f g : FE} (h : PE X e (tIf (tT K E c) (tE K E f) (tE K E g))) : PE X e (tE K E (dIf c f g)) := PE.wk h fun σ H Q ⟨ρ, w, e1, ok, sr, a⟩ =>
  ⟨ρ, w, e1, ok, sr, a.bind.imp fun b w1 s1 a1 => by
    cases b with
    | true => exact iteT (tE_back s1 sr a1)
    | false => exact iteF (tE_back s1 sr a1)⟩
/-- and, or as values of bools -/
def dAndV (f g : FE) : FE := fun ρ M => (f ρ M).bind fun x M => match x with
  | .val (.bl true) => g ρ M
  | .val (.bl false) => .ok (.val (.bl false)) M
  | _ => .bad
def dOrV (f g : FE) : FE := fun ρ M => (f ρ M).bind fun x M => match x with
  | .val (.bl true) => .ok (.val (.bl true)) M
  | .val (.bl false) => g ρ M
  | _ => .bad
def dNotV (f : FE) : FE := fun ρ M => (f ρ M).bind fun x M => match x with
  | .val (.bl b) => .ok (.val (.bl (!b))) M
  | _ => .bad
theorem x_andV {f g : FE} (h : PE X e (tAndV (tE K E f) (tE K E g))) : PE X e (tE K E (dAndV f g)) := PE.wk h fun σ H Q ⟨ρ, w, e1, ok, sr, a⟩ =>
  ⟨ρ, w, e1, ok, sr, a.bind.imp fun x w1 s1 a1 v rv => by
    split at a1
    · cases rv; exact ⟨true, rfl, iteT (tE_back s1 sr a1)⟩
    · cases rv; exact ⟨false, rfl, iteF (a1 w1 (Step.refl s1.ok) rfl _ (.bl _))⟩
    · exact a1.elim⟩
theorem x_orV {f g : FE} (h : PE X e (tOrV (tE K E f) (tE K E g))) : PE X e (tE K E (dOrV f g)) := PE.wk h fun σ H Q ⟨ρ, w, e1, ok, sr, a⟩ =>
  ⟨ρ, w, e1, ok, sr, a.bind.imp fun x w1 s1 a1 v rv => by
    split at a1
    · cases rv; exact ⟨true, rfl, iteT (a1 w1 (Step.refl s1.ok) rfl _ (.bl _))⟩
    · cases rv; exact ⟨false, rfl, iteF (tE_back s1 sr a1)⟩
    · exact a1.elim⟩
theorem x_notV {f : FE} (h : PE X e (tNotV (tE K E f))) : PE X e (tE K E (dNotV f)) := PE.wk h fun σ H Q ⟨ρ, w, e1, ok, sr, a⟩ =>
  ⟨ρ, w, e1, ok, sr, a.bind.imp fun x w1 s1 a1 v rv => by
    split at a1
    · cases rv; exact ⟨_, rfl, a1 w1 (Step.refl s1.ok) rfl _ (.bl _)⟩
    · exact a1.elim⟩
end
end
end TP
/-! TPd: methods, slices, calls, what is walked, targets, comprehensions. -/
namespace TP
open PySem L2
section
variable {K : PySem.W.Frag} {E : Wish} {X : Cx} {e : Expr}
/-! ### methods of built-in types -/
def tyD (M : Store) : D → Option String
  | .str _ => some "str"
  | .int _ => some "int"
  | .lst _ => some "list"
  | .fro _ => some "list"
  | .ref k => match M[k]? with
    | some (.lst _) => some "list"
    | some (.dK _) => some "dict"
    | some (.dT _) => some "dict"
    | _ => none
  | _ => none
theorem ty_at {w : Wd} (ok : w.Ok K) {v : V} {x : D} {T : String} (r : RepB K w v x) (h : tyD w.M x = some T) : tyV K T v w.H := by
  cases x with
  | str y => cases str_at r; exact (Option.some.inj h).symm
  | int y => cases int_at r; exact (Option.some.inj h).symm
  | lst ds =>
    obtain ⟨p, vs, rfl, hs, rl⟩ := lst_at (ds := ds) ok r rfl
    exact .inl ⟨(Option.some.inj h).symm, vs, .inl (.inl hs)⟩
  | fro ds =>
    obtain ⟨p, vs, rfl, hs, rl⟩ := seq_at (ds := ds) ok r rfl
    exact .inl ⟨(Option.some.inj h).symm, vs, hs⟩
  | ref k =>
    simp only [tyD] at h
    rcases r with r | ⟨p, vs, es', rfl, e, _⟩
    · cases r with
      | @ref a k ek =>
        split at h
        · rename_i ds e2
          obtain ⟨a', e3, vs, h1, h2⟩ := ok.mos k _ e2
          rw [ek] at e3; cases e3
          exact .inl ⟨(Option.some.inj h).symm, vs, .inl (.inl h1)⟩
        · rename_i ds e2
          obtain ⟨a', e3, vs, h1, h2⟩ := ok.mos k _ e2
          rw [ek] at e3; cases e3
          exact .inr (.inr (.inl ⟨(Option.some.inj h).symm, .inl ⟨vs, h1⟩⟩))
        · rename_i ds e2
          obtain ⟨a', e3, vs, h1, h2⟩ := ok.mos k _ e2
          rw [ek] at e3; cases e3
          exact .inr (.inr (.inl ⟨(Option.some.inj h).symm, .inr ⟨vs, h1⟩⟩))
        · cases h
    · cases e
  | non => cases h
  | bl b => cases h
  | tup ds => cases h
  | kt ds => cases h
def dMeth (T : String) (g : Store → D → List D → Option Slot) (fo : FD) (fs : FL) : FE := fun ρ M => (fo ρ M).bind fun x M => if tyD M x = some T then (fs ρ M).bind fun ds M => R.of (g M x ds) M else .bad
theorem x_meth {T : String} {r : V → List V → Hp → VK → Prop} {g : Store → D → List D → Option Slot} {fo : FD} {fs : FL} (h : PE X e (tBM K T r (tR K E fo) (tAR K E fs))) (p : PrimM K r g) : PE X e (tE K E (dMeth T g fo fs)) := PE.wk h fun σ H Q ⟨ρ, w, e1, ok, sr, a⟩ =>
  ⟨ρ, w, e1, ok, sr, a.bind.imp fun x w1 s1 a1 vx rx => by
    split at a1
    · rename_i ht
      refine ⟨ty_at s1.ok rx ht, ρ, w1, rfl, s1.ok, sr.step s1, a1.bind.imp fun ds w2 s2 a2 vs rvs => ?_⟩
      obtain ⟨s, es, k⟩ := fin_of (s1.trans s2) a2
      exact p w2 vx x vs ds s Q s2.ok (rx.step s2) rvs es k
    · exact a1.elim⟩
def dMeth0 (T : String) (g : Store → D → List D → Option Slot) (fo : FD) : FE := fun ρ M => (fo ρ M).bind fun x M => if tyD M x = some T then R.of (g M x []) M else .bad
theorem x_meth0 {T : String} {r : V → List V → Hp → VK → Prop} {g : Store → D → List D → Option Slot} {fo : FD} (h : PE X e (tBM0 K T r (tR K E fo))) (p : PrimM K r g) : PE X e (tE K E (dMeth0 T g fo)) := PE.wk h fun σ H Q ⟨ρ, w, e1, ok, sr, a⟩ =>
  ⟨ρ, w, e1, ok, sr, a.bind.imp fun x w1 s1 a1 vx rx => by
    split at a1
    · rename_i ht
      obtain ⟨s, es, k⟩ := fin_of s1 a1
      exact ⟨ty_at s1.ok rx ht, p w1 vx x [] [] s Q s1.ok rx .nil es k⟩
    · exact a1.elim⟩
/-! ### slices -/
abbrev FO := EnvD → Store → R (Option Int)
def tO (K : PySem.W.Frag) (E : Wish) (f : FO) : TO := fun σ H Q => ∃ ρ w, w.H = H ∧ w.Ok K ∧ SR K w ρ σ ∧ After K E w (f ρ w.M) fun o w' => Q o w'.H
def dNo : FO := fun _ M => .ok none M
def dSo (f : FD) : FO := fun ρ M => (f ρ M).bind fun x M => match x with
  | .int i => .ok (some i) M
  | _ => .bad
theorem PO.wk {o : Option Expr} {t t' : TO} (h : PO X o t) (f : ∀ σ H Q, t' σ H Q → t σ H Q) : PO X o t' := ⟨fun pins s σ H Q I q => h.run pins s σ H Q I (f σ H Q q)⟩
theorem x_no : PO X none (tO K E dNo) := PO.wk po_none fun σ H Q ⟨ρ, w, e1, ok, sr, a⟩ => by
  subst e1
  exact a w (Step.refl ok) rfl
theorem x_so {f : FD} (h : PE X e (tR K E f)) : PO X (some e) (tO K E (dSo f)) := PO.wk (po_some h) fun σ H Q ⟨ρ, w, e1, ok, sr, a⟩ =>
  ⟨ρ, w, e1, ok, sr, a.bind.imp fun x w1 s1 a1 v rv => by
    split at a1
    · exact ⟨_, int_at rv, a1 w1 (Step.refl s1.ok) rfl⟩
    · exact a1.elim⟩
def PrimS (K : PySem.W.Frag) (r : V → Option Int → Option Int → Hp → VK → Prop) (g : Store → D → Option Int → Option Int → Option Slot) : Prop := ∀ (w : Wd) (vx : V) (x : D) (lo hi : Option Int) (s : Slot) (Q : VK), w.Ok K → RepB K w vx x → g w.M x lo hi = some s →
  (∀ v w', Step K w w' → w'.M = w.M → RepX K w w' v s → Q v w'.H) → r vx lo hi w.H Q
def dSl (g : Store → D → Option Int → Option Int → Option Slot) (f : FD) (lo hi : FO) : FE := fun ρ M => (f ρ M).bind fun x M => (lo ρ M).bind fun l M => (hi ρ M).bind fun u M => R.of (g M x l u) M
theorem x_sl {r : V → Option Int → Option Int → Hp → VK → Prop} {g : Store → D → Option Int → Option Int → Option Slot} {f : FD} {lo hi : FO} (h : PE X e (tSl r (tR K E f) (tO K E lo) (tO K E hi))) (p : PrimS K r g) : PE X e (tE K E (dSl g f lo hi)) := PE.wk h fun σ H Q ⟨ρ, w, e1, ok, sr, a⟩ =>
  ⟨ρ, w, e1, ok, sr, a.bind.imp fun x w1 s1 a1 vx rx => ⟨ρ, w1, rfl, s1.ok, sr.step s1, a1.bind.imp fun l w2 s2 a2 => ⟨ρ, w2, rfl, s2.ok, (sr.step s1).step s2, a2.bind.imp fun u w3 s3 a3 => by
    obtain ⟨s, es, k⟩ := fin_of ((s1.trans s2).trans s3) a3
    exact p w3 vx x l u s Q s3.ok ((rx.step s2).step s3) es k⟩⟩⟩
/-! ### calls of defs of the text -/
abbrev Fn := List D → Store → R Slot
/-- n: how many arguments; We: from the wish about an exception's class and dict to ours -/
def spD (K : PySem.W.Frag) (We : XK → Wish) (n : Nat) (m : Fn) : Sp := fun vs H Q EX => vs.length = n ∧ ∃ ds w, w.H = H ∧ w.Ok K ∧ RepL K w.A w.G vs ds ∧ After K (We EX) w (m ds w.M) fun s w' => ∀ v, RepX K w w' v s → Q v w'.H
def dCall (n : Nat) (m : Fn) (fs : FL) : FE := fun ρ M => (fs ρ M).bind fun ds M => if ds.length = n then m ds M else .bad
theorem x_call {We : XK → Wish} {n : Nat} {m : Fn} {EX : XK} {fs : FL} (hE : We EX = E) (h : PE X e (tCall (spD K We n m) [] EX (tAF K E fs))) : PE X e (tE K E (dCall n m fs)) := PE.wk h fun σ H Q ⟨ρ, w, e1, ok, sr, a⟩ =>
  ⟨ρ, w, e1, ok, sr, a.bind.imp fun ds w1 s1 a1 vs rvs => by
    split at a1
    · rename_i hn
      refine ⟨by rw [List.append_nil, rvs.length]; exact hn, ds, w1, rfl, s1.ok, by rw [List.append_nil]; exact rvs, ?_⟩
      rw [hE]
      exact a1.imp fun s w' _ z v rv => z v (rv.back s1)
    · exact a1.elim⟩
theorem x_call0 {We : XK → Wish} {m : Fn} {EX : XK} (hE : We EX = E) (h : PE X e (tCall (spD K We 0 m) [] EX tNil)) : PE X e (tE K E (dCall 0 m dNil)) := PE.wk h fun σ H Q ⟨ρ, w, e1, ok, sr, a⟩ => by
  subst e1
  refine ⟨rfl, [], w, rfl, ok, .nil, ?_⟩
  rw [hE]
  exact a
/-! ### what is walked -/
def Le (w w' : Wd) : Prop := w.A <+: w'.A ∧ Same w.G w'.G
theorem Le.refl (w : Wd) : Le w w := ⟨List.prefix_refl _, Same.refl _⟩
theorem Le.trans {w w1 w2 : Wd} (a : Le w w1) (b : Le w1 w2) : Le w w2 := ⟨a.1.trans b.1, a.2.trans b.2⟩
theorem Step.le {w w' : Wd} (s : Step K w w') : Le w w' := ⟨s.pre, s.fro⟩
theorem Le.rep {w w' : Wd} (s : Le w w') {v : V} {d : D} (h : Rep K w.A w.G v d) : Rep K w'.A w'.G v d := Rep.mono s.1 s.2 d v h
theorem Le.repL {w w' : Wd} (s : Le w w') {v : List V} {d : List D} (h : RepL K w.A w.G v d) : RepL K w'.A w'.G v d := RepL.mono s.1 s.2 d v h
/-- the iterator yields these things, whatever comes between, as long as what is frozen stays -/
def IterOk (K : PySem.W.Frag) (w : Wd) (J : It) (ds : List D) : Prop := ∀ w2, Le w w2 → w2.Ok K → ∀ i, (∀ d, ds[i]? = some d → J.go i w2.H ∧ ∀ x H', J.yld i w2.H x H' → ∃ w3, Step K w2 w3 ∧ w3.M = w2.M ∧ w3.H = H' ∧ Rep K w3.A w3.G x d) ∧ (ds.length ≤ i → J.stop i w2.H)
def tI (K : PySem.W.Frag) (E : Wish) (f : FL) : TI := fun σ H Q => ∃ ρ w, w.H = H ∧ w.Ok K ∧ SR K w ρ σ ∧ After K E w (f ρ w.M) fun ds w' => ∀ J, IterOk K w' J ds → Q J w'.H
theorem PI.wk {tg : Expr} {t t' : TI} (h : PI X tg e t) (f : ∀ σ H Q, t' σ H Q → t σ H Q) : PI X tg e t' := ⟨fun pins s σ H Q I q => h.run pins s σ H Q I (f σ H Q q)⟩
theorem PI.or {tg : Expr} {t t' : TI} (h : PI X tg e t) (h' : PI X tg e t') : PI X tg e (fun σ H Q => t σ H Q ∨ t' σ H Q) := ⟨fun pins s σ H Q I q => q.elim (h.run pins s σ H Q I) (h'.run pins s σ H Q I)⟩
/-- the items of a thing that is walked -/
def itemsD : D → Option (List D)
  | .lst ds => some ds
  | .fro ds => some ds
  | .tup ds => some ds
  | .kt ds => some ds
  | .str x => some (x.cps.toList.map fun c => .str ⟨#[c]⟩)
  | _ => none
def dIt (f : FD) : FL := fun ρ M => (f ρ M).bind fun x M => R.of (itemsD x) M
theorem it_list {w : Wd} {a : Addr} {vs : List V} {ds : List D} (hs : SqL K w.G a vs) (rl : RepL K w.A w.G vs ds) : IterOk K w (Itl K a) ds := fun w2 le ok2 i => by
  have h2 : SqL K w2.H a vs := ok2.sub.seq (le.2.seq hs)
  have r2 := le.repL rl
  refine ⟨fun d ed => ?_, fun hl => ⟨vs, h2, by rw [rl.length]; exact hl⟩⟩
  obtain ⟨v, ev, rv⟩ := r2.get ed
  refine ⟨⟨vs, v, h2, ev⟩, fun x H' y => ?_⟩
  obtain ⟨eH, y⟩ := y
  have := y vs h2
  rw [ev] at this
  cases this
  exact ⟨w2, Step.refl ok2, rfl, eH.symm, rv⟩
theorem it_tup {w : Wd} {a : Addr} {vs : List V} {ds : List D} (hs : SqT K w.G a vs) (rl : RepL K w.A w.G vs ds) : IterOk K w (Itt K a) ds := fun w2 le ok2 i => by
  have h2 : SqT K w2.H a vs := sqT_mono ok2.sub (sqT_mono le.2 hs)
  have r2 := le.repL rl
  refine ⟨fun d ed => ?_, fun hl => ⟨vs, h2, by rw [rl.length]; exact hl⟩⟩
  obtain ⟨v, ev, rv⟩ := r2.get ed
  refine ⟨⟨vs, v, h2, ev⟩, fun x H' y => ?_⟩
  obtain ⟨eH, y⟩ := y
  have := y vs h2
  rw [ev] at this
  cases this
  exact ⟨w2, Step.refl ok2, rfl, eH.symm, rv⟩
theorem it_str {w : Wd} (x : Str) : IterOk K w (Its x) (x.cps.toList.map fun c => .str ⟨#[c]⟩) := fun w2 le ok2 i => by
  refine ⟨fun d ed => ?_, fun hl => show x.cps.size ≤ i by simpa using hl⟩
  rw [List.getElem?_map] at ed
  cases q : x.cps.toList[i]? with
  | none => rw [q] at ed; cases ed
  | some c =>
    rw [q] at ed
    cases ed
    have q' : x.cps[i]? = some c := by simpa using q
    refine ⟨?_, fun v H' y => ?_⟩
    · have := (List.getElem?_eq_some_iff.mp q).1
      show i < x.cps.size
      simpa using this
    · obtain ⟨eH, c', ec, ev⟩ := y
      rw [q'] at ec
      cases ec
      subst ev
      exact ⟨w2, Step.refl ok2, rfl, eH.symm, .str _⟩
/-- lo, lo + 1, .. -/
def rngL (lo : Int) (n : Nat) : List D := (List.range n).map fun (i : Nat) => .int (lo + i)
theorem rngL_len (lo : Int) (n : Nat) : (rngL lo n).length = n := by simp [rngL]
theorem it_range {w : Wd} (lo : Int) (n : Nat) : IterOk K w (Itr lo n) (rngL lo n) := fun w2 le ok2 i => by
  refine ⟨fun d ed => ?_, fun hl => show n ≤ i by rw [rngL_len] at hl; exact hl⟩
  unfold rngL at ed
  rw [List.getElem?_map] at ed
  by_cases hi : i < n
  · rw [List.getElem?_range hi] at ed
    cases ed
    refine ⟨hi, fun v H' y => ?_⟩
    obtain ⟨eH, ev⟩ := y
    subst ev
    exact ⟨w2, Step.refl ok2, rfl, eH.symm, .int _⟩
  · rw [List.getElem?_eq_none (by simpa using hi)] at ed
    cases ed
theorem x_it {tg : Expr} {f : FD} (h : PI X tg e (fun σ H Q => iList K (tF K E f) σ H Q ∨ (iTup K (tF K E f) σ H Q ∨ iStr (tF K E f) σ H Q))) : PI X tg e (tI K E (dIt f)) := PI.wk h fun σ H Q ⟨ρ, w, e1, ok, sr, a⟩ => by
  have a1 := a.bind
  cases q : f ρ w.M with
  | bad => rw [q] at a1; exact a1.elim
  | exc c d M => rw [q] at a1; exact .inl ⟨ρ, w, e1, ok, sr, by rw [q]; exact a1⟩
  | ok x M =>
    rw [q] at a1
    cases x with
    | lst ds =>
      refine .inl ⟨ρ, w, e1, ok, sr, ?_⟩
      rw [q]
      intro w1 s1 eM v rv
      cases rv with
      | lst hs rl => exact ⟨_, rfl, ⟨_, .inl (.inl (s1.ok.sub _ _ hs))⟩, a1 w1 s1 eM w1 (Step.refl s1.ok) rfl _ (it_list (.inl (.inl hs)) rl)⟩
    | fro ds =>
      refine .inl ⟨ρ, w, e1, ok, sr, ?_⟩
      rw [q]
      intro w1 s1 eM v rv
      cases rv with
      | fro hs rl => exact ⟨_, rfl, ⟨_, s1.ok.sub.seq hs⟩, a1 w1 s1 eM w1 (Step.refl s1.ok) rfl _ (it_list hs rl)⟩
    | tup ds =>
      refine .inr (.inl ⟨ρ, w, e1, ok, sr, ?_⟩)
      rw [q]
      intro w1 s1 eM v rv
      cases rv with
      | tup hs rl => exact ⟨_, rfl, ⟨_, .inl (.inl (s1.ok.sub _ _ hs))⟩, a1 w1 s1 eM w1 (Step.refl s1.ok) rfl _ (it_tup (.inl (.inl hs)) rl)⟩
    | kt ds =>
      refine .inr (.inl ⟨ρ, w, e1, ok, sr, ?_⟩)
      rw [q]
      intro w1 s1 eM v rv
      cases rv with
      | kt hs rl => exact ⟨_, rfl, ⟨_, sqT_mono s1.ok.sub hs⟩, a1 w1 s1 eM w1 (Step.refl s1.ok) rfl _ (it_tup hs rl)⟩
    | str y =>
      refine .inr (.inr ⟨ρ, w, e1, ok, sr, ?_⟩)
      rw [q]
      intro w1 s1 eM v rv
      cases rv
      exact ⟨_, rfl, a1 w1 s1 eM w1 (Step.refl s1.ok) rfl _ (it_str y)⟩
    | non => exact (show After K E w (dIt f ρ w.M) _ from a) |> fun z => by rw [show dIt f ρ w.M = .bad by simp only [dIt, q, R.bind, itemsD, R.of]] at z; exact z.elim
    | bl b => exact (show After K E w (dIt f ρ w.M) _ from a) |> fun z => by rw [show dIt f ρ w.M = .bad by simp only [dIt, q, R.bind, itemsD, R.of]] at z; exact z.elim
    | int b => exact (show After K E w (dIt f ρ w.M) _ from a) |> fun z => by rw [show dIt f ρ w.M = .bad by simp only [dIt, q, R.bind, itemsD, R.of]] at z; exact z.elim
    | ref b => exact (show After K E w (dIt f ρ w.M) _ from a) |> fun z => by rw [show dIt f ρ w.M = .bad by simp only [dIt, q, R.bind, itemsD, R.of]] at z; exact z.elim
theorem RepBL.one {w : Wd} {vs : List V} {d : D} (h : RepBL K w vs [d]) : ∃ v, vs = [v] ∧ RepB K w v d := by
  cases h with
  | cons h1 h2 => cases h2; exact ⟨_, rfl, h1⟩
theorem RepBL.two {w : Wd} {vs : List V} {d d' : D} (h : RepBL K w vs [d, d']) : ∃ v v', vs = [v, v'] ∧ RepB K w v d ∧ RepB K w v' d' := by
  cases h with
  | cons h1 h2 =>
    cases h2 with
    | cons h2 h3 => cases h3; exact ⟨_, _, rfl, h1, h2⟩
/-- range(n), range(m, n) -/
def rng1D : List D → Option (List D)
  | [.int j] => if -(2 ^ 62) ≤ j ∧ j < 2 ^ 62 then some (rngL 0 j.toNat) else none
  | _ => none
def rng2D : List D → Option (List D)
  | [.int i, .int j] => if -(2 ^ 62) ≤ i ∧ i < 2 ^ 62 ∧ -(2 ^ 62) ≤ j ∧ j < 2 ^ 62 then some (rngL i (j - i).toNat) else none
  | _ => none
def dRng1 (fs : FL) : FL := fun ρ M => (fs ρ M).bind fun ds M => R.of (rng1D ds) M
def dRng2 (fs : FL) : FL := fun ρ M => (fs ρ M).bind fun ds M => R.of (rng2D ds) M
theorem x_rng1 {tg : Expr} {fs : FL} (h : PI X tg e (iRng1 (tAR K E fs))) : PI X tg e (tI K E (dRng1 fs)) := PI.wk h fun σ H Q ⟨ρ, w, e1, ok, sr, a⟩ =>
  ⟨ρ, w, e1, ok, sr, a.bind.imp fun ds w1 s1 a1 vs rvs => by
    obtain ⟨items, ei, k⟩ := a1.of (Step.refl s1.ok) rfl
    unfold rng1D at ei
    split at ei
    · rename_i j
      split at ei
      · rename_i hj
        cases ei
        obtain ⟨v, rfl, rv⟩ := rvs.one
        cases int_at rv
        exact ⟨j, rfl, hj.1, hj.2, k _ (it_range 0 j.toNat)⟩
      · cases ei
    · cases ei⟩
theorem x_rng2 {tg : Expr} {fs : FL} (h : PI X tg e (iRng2 (tAR K E fs))) : PI X tg e (tI K E (dRng2 fs)) := PI.wk h fun σ H Q ⟨ρ, w, e1, ok, sr, a⟩ =>
  ⟨ρ, w, e1, ok, sr, a.bind.imp fun ds w1 s1 a1 vs rvs => by
    obtain ⟨items, ei, k⟩ := a1.of (Step.refl s1.ok) rfl
    unfold rng2D at ei
    split at ei
    · rename_i i j
      split at ei
      · rename_i hj
        cases ei
        obtain ⟨v, v', rfl, rv, rv'⟩ := rvs.two
        cases int_at rv
        cases int_at rv'
        exact ⟨i, j, rfl, ⟨hj.1, hj.2.1, hj.2.2.1, hj.2.2.2⟩, k _ (it_range i _)⟩
      · cases ei
    · cases ei⟩
/-! ### targets -/
/-- b: how a thing is bound to names; is: the names' places -/
def OwnSub (ρ ρ' : EnvD) (σ σ' : St) : Prop := ∀ (j : Nat) (ds : List D), ρ'[j]? = some (.own ds) → ρ[j]? = some (.own ds) ∧ σ'[j]? = σ[j]?
theorem OwnSub.refl (ρ : EnvD) (σ : St) : OwnSub ρ ρ σ σ := fun _ _ h => ⟨h, rfl⟩
theorem OwnSub.trans {ρ ρ1 ρ2 : EnvD} {σ σ1 σ2 : St} (a : OwnSub ρ ρ1 σ σ1) (b : OwnSub ρ1 ρ2 σ1 σ2) : OwnSub ρ ρ2 σ σ2 := fun j ds h => by
  obtain ⟨h1, e1⟩ := b j ds h
  obtain ⟨h2, e2⟩ := a j ds h1
  exact ⟨h2, e1.trans e2⟩
theorem OwnSub.set (ρ : EnvD) (σ : St) (i : Nat) {s : Slot} (hs : ∀ ds, s ≠ .own ds) (v : Option V) : OwnSub ρ (ρ.set i s) σ (σ.set i v) := fun j ds h => by
  by_cases hj : i = j
  · subst hj
    have hi : i < ρ.length := by have := (List.getElem?_eq_some_iff.mp h).1; rwa [List.length_set] at this
    rw [List.getElem?_set_self hi] at h
    exact absurd (Option.some.inj h) (hs ds)
  · rw [List.getElem?_set_ne hj] at h ⊢
    exact ⟨h, rfl⟩
def tG (K : PySem.W.Frag) (b : D → EnvD → Option EnvD) (is : List Nat) : TG := fun v σ H Q => ∃ ρ w d ρ', w.H = H ∧ w.Ok K ∧ SR K w ρ σ ∧ Rep K w.A w.G v d ∧ b d ρ = some ρ' ∧ ∀ σ', SR K w ρ' σ' → OwnSub ρ ρ' σ σ' → (∀ j, j ∉ is → σ'[j]? = σ[j]?) → σ'.length = σ.length → Q σ' H
theorem PG.wk {tg : Expr} {t t' : TG} (h : PG X tg t) (f : ∀ v σ H Q, t' v σ H Q → t v σ H Q) : PG X tg t' := ⟨fun pins s σ H v u Q I r q => h.run pins s σ H v u Q I r (f v σ H Q q)⟩
theorem SR.set {w : Wd} {ρ : EnvD} {σ : St} (sr : SR K w ρ σ) (i : Nat) {v : V} {d : D} (r : Rep K w.A w.G v d) : SR K w (ρ.set i (.val d)) (σ.set i (some v)) := by
  refine ⟨by rw [List.length_set, List.length_set]; exact sr.len, fun j x h => ?_, fun j ds h => ?_, fun j k ds es p h1 h2 h3 h4 => ?_⟩
  · by_cases hj : i = j
    · subst hj
      have hi : i < ρ.length := by have := (List.getElem?_eq_some_iff.mp h).1; rwa [List.length_set] at this
      rw [List.getElem?_set_self hi] at h
      cases h
      exact ⟨v, List.getElem?_set_self (by rw [← sr.len]; exact hi), r⟩
    · rw [List.getElem?_set_ne hj] at h ⊢
      exact sr.val j x h
  · by_cases hj : i = j
    · subst hj
      have hi : i < ρ.length := by have := (List.getElem?_eq_some_iff.mp h).1; rwa [List.length_set] at this
      rw [List.getElem?_set_self hi] at h
      cases h
    · rw [List.getElem?_set_ne hj] at h ⊢
      exact sr.own j ds h
  · have nj : i ≠ j := fun hj => by
      subst hj
      have hi : i < ρ.length := by have := (List.getElem?_eq_some_iff.mp h1).1; rwa [List.length_set] at this
      rw [List.getElem?_set_self hi] at h1
      cases h1
    have nk : i ≠ k := fun hj => by
      subst hj
      have hi : i < ρ.length := by have := (List.getElem?_eq_some_iff.mp h2).1; rwa [List.length_set] at this
      rw [List.getElem?_set_self hi] at h2
      cases h2
    rw [List.getElem?_set_ne nj] at h1 h3
    rw [List.getElem?_set_ne nk] at h2 h4
    exact sr.dis j k ds es p h1 h2 h3 h4
def bName (i : Nat) : D → EnvD → Option EnvD := fun d ρ => some (ρ.set i (.val d))
theorem x_gname {tg : Expr} {i : Nat} (h : PG X tg (gName i)) : PG X tg (tG K (bName i) [i]) := PG.wk h fun v σ H Q ⟨ρ, w, d, ρ', e1, ok, sr, r, eb, k⟩ => by
  cases eb
  exact k _ (sr.set i r) (OwnSub.set ρ σ i (fun _ z => by cases z) _) (fun j hj => List.getElem?_set_ne (by simpa using fun z => hj (by simp [z]))) (by rw [List.length_set])
/-- several names -/
def bNames : List Nat → List D → EnvD → Option EnvD
  | [], [], ρ => some ρ
  | i :: is, d :: ds, ρ => bNames is ds (ρ.set i (.val d))
  | _, _, _ => none
def bTup (is : List Nat) : D → EnvD → Option EnvD := fun d ρ => match d with
  | .tup ds => bNames is ds ρ
  | _ => none
def gNames : List Nat → TGs
  | [] => gNil
  | i :: is => gCons (gName i) (gNames is)
theorem gNames_ok {w : Wd} {Q : St → Hp → Prop} (ok : w.Ok K) : ∀ (is : List Nat) (ds : List D) (vs : List V) (ρ ρ' : EnvD) (σ : St), SR K w ρ σ → RepL K w.A w.G vs ds → bNames is ds ρ = some ρ' →
    (∀ σ', SR K w ρ' σ' → OwnSub ρ ρ' σ σ' → (∀ j, j ∉ is → σ'[j]? = σ[j]?) → σ'.length = σ.length → Q σ' w.H) → gNames is vs σ w.H Q
  | [], [], _, ρ, ρ', σ, sr, rl, eb, k => by
    cases rl
    cases eb
    exact ⟨rfl, k σ sr (OwnSub.refl _ _) (fun _ _ => rfl) rfl⟩
  | i :: is, d :: ds, _, ρ, ρ', σ, sr, rl, eb, k => by
    cases rl with
    | cons r rl =>
      refine ⟨_, _, rfl, ?_⟩
      exact gNames_ok ok is ds _ _ ρ' _ (sr.set i r) rl eb fun σ' sr' os h1 h2 => k σ' sr' ((OwnSub.set ρ σ i (fun _ z => by cases z) _).trans os) (fun j hj => by
        rw [h1 j (fun z => hj (List.mem_cons_of_mem _ z)), List.getElem?_set_ne (fun z => hj (by rw [z]; exact List.mem_cons_self))]) (by rw [h2, List.length_set])
  | [], _ :: _, _, _, _, _, _, _, eb, _ => by cases eb
  | _ :: _, [], _, _, _, _, _, _, eb, _ => by cases eb
theorem bNames_len : ∀ {is : List Nat} {ds : List D} {ρ ρ' : EnvD}, bNames is ds ρ = some ρ' → is.length = ds.length
  | [], [], _, _, _ => rfl
  | _ :: is, _ :: ds, _, _, h => by rw [List.length_cons, List.length_cons, bNames_len (is := is) (ds := ds) h]
  | [], _ :: _, _, _, h => by cases h
  | _ :: _, [], _, _, h => by cases h
theorem x_gtup {tg : Expr} {is : List Nat} {n : Nat} (hn : n = is.length) (h : PG X tg (gTup K n (gNames is))) : PG X tg (tG K (bTup is) is) := PG.wk h fun v σ H Q ⟨ρ, w, d, ρ', e1, ok, sr, r, eb, k⟩ => by
  subst e1
  unfold bTup at eb
  split at eb
  · cases r with
    | tup hs rl =>
      refine ⟨_, _, rfl, .inl (.inl (ok.sub _ _ hs)), by rw [rl.length, ← bNames_len eb, hn], ?_⟩
      exact gNames_ok ok is _ _ ρ ρ' σ sr rl eb k
  · cases eb
/-! ### comprehensions -/
def wipeD (ρ : EnvD) : List Nat → EnvD
  | [] => ρ
  | v :: vs => (wipeD ρ vs).set v .un
theorem SR.wipe1 {w : Wd} {ρ : EnvD} {σ : St} (sr : SR K w ρ σ) (i : Nat) : SR K w (ρ.set i .un) (σ.set i none) := by
  have no : ∀ {j : Nat} {s : Slot}, s ≠ .un → (ρ.set i .un)[j]? = some s → i ≠ j := fun {j s} hs h hj => by
    subst hj
    have hi : i < ρ.length := by have := (List.getElem?_eq_some_iff.mp h).1; rwa [List.length_set] at this
    rw [List.getElem?_set_self hi] at h
    exact hs (Option.some.inj h).symm
  refine ⟨by rw [List.length_set, List.length_set]; exact sr.len, fun j x h => ?_, fun j ds h => ?_, fun j k ds es p h1 h2 h3 h4 => ?_⟩
  · have nj := no (fun z => by cases z) h
    rw [List.getElem?_set_ne nj] at h ⊢
    exact sr.val j x h
  · have nj := no (fun z => by cases z) h
    rw [List.getElem?_set_ne nj] at h ⊢
    exact sr.own j ds h
  · have nj := no (fun z => by cases z) h1
    have nk := no (fun z => by cases z) h2
    rw [List.getElem?_set_ne nj] at h1 h3
    rw [List.getElem?_set_ne nk] at h2 h4
    exact sr.dis j k ds es p h1 h2 h3 h4
theorem SR.wipe {w : Wd} {ρ : EnvD} {σ : St} (sr : SR K w ρ σ) : ∀ vs : List Nat, SR K w (wipeD ρ vs) (wipe σ vs)
  | [] => sr
  | v :: vs => (SR.wipe sr vs).wipe1 v
theorem wipe_get (τ : St) (vs : List Nat) (j : Nat) : (wipe τ vs)[j]? = if j ∈ vs then (if j < τ.length then some none else none) else τ[j]? := by
  induction vs with
  | nil => simp [wipe]
  | cons v vs ih =>
    unfold wipe
    by_cases hv : v = j
    · subst hv
      rw [if_pos List.mem_cons_self, List.getElem?_set, if_pos rfl, wipe_length]
    · rw [List.getElem?_set_ne hv, ih]
      by_cases hm : j ∈ vs
      · rw [if_pos hm, if_pos (List.mem_cons_of_mem _ hm)]
      · rw [if_neg hm, if_neg (by simp [hm, Ne.symm hv])]
theorem wipe_same {σ σ' : St} (hl : σ'.length = σ.length) (vs : List Nat) (h : ∀ j, j ∉ vs → σ'[j]? = σ[j]?) : wipe σ' vs = wipe σ vs := by
  apply List.ext_getElem?
  intro j
  rw [wipe_get, wipe_get, hl]
  by_cases hm : j ∈ vs
  · rw [if_pos hm, if_pos hm]
  · rw [if_neg hm, if_neg hm, h j hm]
theorem wipe_wipe (σ : St) (vs : List Nat) : wipe (wipe σ vs) vs = wipe σ vs := by
  refine wipe_same (wipe_length σ vs) vs fun j hj => ?_
  rw [wipe_get, if_neg hj]
abbrev E00 : Wish := fun _ _ _ => False
/-- the turns of a comprehension -/
def lcGo (b : D → EnvD → Option EnvD) (c : FB) (f : FD) (ρ0 : EnvD) : List D → List D → Store → R (List D)
  | [], acc, M => .ok acc M
  | d :: ds, acc, M => match b d ρ0 with
    | none => .bad
    | some ρ1 => match c ρ1 M with
      | .ok true M1 => match f ρ1 M1 with
        | .ok y M2 => if acc.length < sizeLine then lcGo b c f ρ0 ds (acc ++ [y]) M2 else .bad
        | _ => .bad
      | .ok false M1 => lcGo b c f ρ0 ds acc M1
      | _ => .bad
theorem lcGo_exc {b : D → EnvD → Option EnvD} {c : FB} {f : FD} {ρ0 : EnvD} {k : Nat} {x : D} {M' : Store} : ∀ (ds acc : List D) (M : Store), lcGo b c f ρ0 ds acc M ≠ .exc k x M'
  | [], _, _ => fun h => by cases h
  | d :: ds, acc, M => fun h => by
    unfold lcGo at h
    split at h
    · cases h
    · split at h
      · split at h
        · split at h
          · exact lcGo_exc ds _ _ h
          · cases h
        · cases h
      · exact lcGo_exc ds _ _ h
      · cases h
def dLc (fi : FL) (b : D → EnvD → Option EnvD) (c : FB) (f : FD) (vs : List Nat) : FE := fun ρ M => (fi ρ M).bind fun items M => (lcGo b c f (wipeD ρ vs) items [] M).map Slot.own
/-- what is wanted of the rest of the turns -/
def LcRest (K : PySem.W.Frag) (w0 : Wd) (D : Addr) (Q : VK) (r : R (List TP.D)) : Prop := match r with
  | .ok res M => ∀ w' vres, Step K w0 w' → w'.M = M → w'.H D = some (.lst vres) → w'.G D = none → D ∉ w'.A → RepL K w'.A w'.G vres res → Q (.ref D) w'.H
  | _ => False
theorem setOwn_ok {w : Wd} (h : w.Ok K) {p : Addr} {o o' : HO} (hp : w.H p = some o') (hG : w.G p = none) (hA : p ∉ w.A) : (⟨w.A, w.G, w.M, upd w.H p o⟩ : Wd).Ok K := by
  refine ⟨fun b u e => ?_, h.nd, h.len, h.out, fun k m e => ?_⟩
  · show upd w.H p o b = some u
    rw [upd_ne (ne_of_none e hG)]
    exact h.sub b u e
  · obtain ⟨a, ea, r⟩ := h.mos k m e
    have na : a ≠ p := fun z => hA (z ▸ List.mem_of_getElem? ea)
    refine ⟨a, ea, ?_⟩
    cases m with
    | lst ds => obtain ⟨vs, z, q⟩ := r; exact ⟨vs, by show upd w.H p o a = _; rw [upd_ne na]; exact z, q⟩
    | dK ds => obtain ⟨vs, z, q⟩ := r; exact ⟨vs, by show upd w.H p o a = _; rw [upd_ne na]; exact z, q⟩
    | dT ds => obtain ⟨vs, z, q⟩ := r; exact ⟨vs, by show upd w.H p o a = _; rw [upd_ne na]; exact z, q⟩
    | ins c fs => obtain ⟨io, vs, dx, z, q⟩ := r; exact ⟨io, vs, dx, by show upd w.H p o a = _; rw [upd_ne na]; exact z, q⟩
/-- an own thing that was not there at w0 is changed -/
theorem Step.setOwn {w0 w : Wd} (s : Step K w0 w) {p : Addr} {o o' : HO} (h0 : w0.H p = none) (hp : w.H p = some o') (hG : w.G p = none) (hA : p ∉ w.A) : Step K w0 ⟨w.A, w.G, w.M, upd w.H p o⟩ :=
  ⟨setOwn_ok s.ok hp hG hA, s.pre, s.fro, fun q u h1 h2 h3 => by
    obtain ⟨a, b, c⟩ := s.keep q u h1 h2 h3
    exact ⟨by show upd w.H p o q = some u; rw [upd_ne (ne_of_none h1 h0)]; exact a, b, c⟩⟩
theorem lc_le {fi : FL} {b : D → EnvD → Option EnvD} {is : List Nat} {c : FB} {f : FD} {vs : List Nat} (hv : ∀ i ∈ is, i ∈ vs) (σ : St) (H : Hp) (Q : VK) : tE K E (dLc fi b c f vs) σ H Q → tLc (tI K E fi) (tG K b is) (tT K E00 c) (tF K E00 f) vs σ H Q := fun ⟨ρ, w, e1, ok, sr, a⟩ =>
  ⟨ρ, w, e1, ok, sr, a.bind.imp fun items w1 s1 a1 J hJ Dl hD => by
    have s0 := s1.ok.fresh0 hD (.lst [])
    have hG1 : w1.G Dl = none := s1.ok.sub.free hD
    have hA1 := s1.ok.notA hD
    have a2 : LcRest K w1 Dl Q (lcGo b c f (wipeD ρ vs) items [] w1.M) := by
      have a2 := a1.map
      revert a2
      cases q : lcGo b c f (wipeD ρ vs) items [] w1.M with
      | bad => exact fun z => z
      | exc c d M => exact absurd q (lcGo_exc _ _ _)
      | ok res M => exact fun z w' vres st eM hH hG hA rl => z w' st eM _ ⟨Dl, vres, rfl, s1.free hD, hH, hG, hA, rl⟩
    refine ⟨fun i m H => m = items.length - i ∧ i ≤ items.length ∧ ∃ w acc vacc, w.H = H ∧ Step K w1 w ∧ w.H Dl = some (.lst vacc) ∧ w.G Dl = none ∧ Dl ∉ w.A ∧ RepL K w.A w.G vacc acc ∧ LcRest K w1 Dl Q (lcGo b c f (wipeD ρ vs) (items.drop i) acc w.M),
      ⟨items.length, by simp, Nat.zero_le _, _, [], [], rfl, s0, upd_same, hG1, hA1, .nil, by simpa using a2⟩, ?_⟩
    rintro i m H ⟨rfl, hi, w2, acc, vacc, rfl, s2, hH2, hG2, hA2, rl2, rest⟩
    by_cases hlt : i < items.length
    · have ed : items[i]? = some items[i] := List.getElem?_eq_getElem hlt
      rw [List.drop_eq_getElem_cons hlt] at rest
      obtain ⟨go, yl⟩ := (hJ w2 s2.le s2.ok i).1 _ ed
      refine .inr ⟨go, fun H' => i + 1 ≤ items.length ∧ ∃ w acc vacc, w.H = H' ∧ Step K w1 w ∧ w.H Dl = some (.lst vacc) ∧ w.G Dl = none ∧ Dl ∉ w.A ∧ RepL K w.A w.G vacc acc ∧ LcRest K w1 Dl Q (lcGo b c f (wipeD ρ vs) (items.drop (i + 1)) acc w.M),
        fun H' ⟨h1, h2⟩ => ⟨_, by omega, rfl, h1, h2⟩, fun x H' hy => ?_⟩
      obtain ⟨w3, s3, eM3, rfl, rx⟩ := yl x H' hy
      unfold lcGo at rest
      cases eb : b items[i] (wipeD ρ vs) with
      | none => rw [eb] at rest; exact rest.elim
      | some ρ1 =>
        rw [eb] at rest
        simp only at rest
        have sr3 : SR K w3 (wipeD ρ vs) (wipe σ vs) := (((sr.step s1).step s2).step s3).wipe vs
        refine ⟨wipeD ρ vs, w3, items[i], ρ1, rfl, s3.ok, sr3, rx, eb, fun σ' sr' _ h1 h2 => ⟨?_, ?_⟩⟩
        · have e2 := wipe_same h2 vs (fun j hj => h1 j (fun z => hj (hv j z)))
          rw [e2]
          exact wipe_wipe σ vs
        · refine ⟨ρ1, w3, rfl, s3.ok, sr', ?_⟩
          have s13 : Step K w1 w3 := s2.trans s3
          obtain ⟨hH3, hG3, hA3⟩ := s3.keepN Dl _ hH2 hG2 hA2
          rw [eM3]
          cases ec : c ρ1 w2.M with
          | bad => rw [ec] at rest; exact rest.elim
          | exc _ _ _ => rw [ec] at rest; exact rest.elim
          | ok t M1 =>
            rw [ec] at rest
            intro w4 s4 eM4
            obtain ⟨hH4, hG4, hA4⟩ := s4.keepN Dl _ hH3 hG3 hA3
            cases t with
            | false =>
              refine iteF ⟨hlt, w4, acc, vacc, rfl, s13.trans s4, hH4, hG4, hA4, (s3.trans s4).repL rl2, ?_⟩
              rw [eM4]
              exact rest
            | true =>
              refine iteT ⟨ρ1, w4, rfl, s4.ok, sr'.step s4, ?_⟩
              simp only at rest
              rw [eM4]
              cases ef : f ρ1 M1 with
              | bad => rw [ef] at rest; exact rest.elim
              | exc _ _ _ => rw [ef] at rest; exact rest.elim
              | ok y M2 =>
                rw [ef] at rest
                intro w5 s5 eM5 v rv
                obtain ⟨hH5, hG5, hA5⟩ := s5.keepN Dl _ hH4 hG4 hA4
                have rl5 : RepL K w5.A w5.G vacc acc := ((s3.trans s4).trans s5).repL rl2
                simp only at rest
                split at rest
                · rename_i hz
                  refine ⟨vacc, hH5, by rw [rl5.length]; exact hz, hlt, ⟨w5.A, w5.G, w5.M, upd w5.H Dl (.lst (vacc ++ [v]))⟩, acc ++ [y], vacc ++ [v], rfl, ((s13.trans s4).trans s5).setOwn hD hH5 hG5 hA5, upd_same, hG5, hA5, rl5.append (.one rv), ?_⟩
                  show LcRest K w1 Dl Q (lcGo b c f (wipeD ρ vs) (items.drop (i + 1)) (acc ++ [y]) w5.M)
                  rw [eM5]
                  exact rest
                · exact rest.elim
    · have ei : i = items.length := by omega
      subst ei
      rw [List.drop_length] at rest
      exact .inl ⟨(hJ w2 s2.le s2.ok _).2 (Nat.le_refl _), rest w2 vacc s2 rfl hH2 hG2 hA2 rl2⟩⟩
theorem x_lc {fi : FL} {b : D → EnvD → Option EnvD} {is : List Nat} {c : FB} {f : FD} {vs : List Nat} (hv : ∀ i ∈ is, i ∈ vs) (h : PE X e (tLc (tI K E fi) (tG K b is) (tT K E00 c) (tF K E00 f) vs)) : PE X e (tE K E (dLc fi b c f vs)) := PE.wk h (lc_le hv)
end
end TP
/-! TPe: statements. -/
namespace TP
open PySem L2
inductive Out where
  | next (ρ : EnvD) (M : Store) | ret (s : Slot) (M : Store) | brk (ρ : EnvD) (M : Store) | cont (ρ : EnvD) (M : Store) | exc (c : Nat) (d : D) (M : Store) | bad
abbrev FS := EnvD → Store → Out
section
variable (K : PySem.W.Frag) (E : Wish)
/-- own lists were not there at the def's entry -/
def OF (w0 : Wd) (ρ : EnvD) (σ : St) : Prop := ∀ (i : Nat) (ds : List D) (p : Addr), ρ[i]? = some (.own ds) → σ[i]? = some (some (.ref p)) → w0.H p = none
def PostS (w0 ws : Wd) (D : Ends) : Out → Prop
  | .next ρ M => ∀ w σ, Step K w0 w → Le ws w → w.M = M → SR K w ρ σ → OF w0 ρ σ → D.nx σ w.H
  | .brk ρ M => ∀ w σ, Step K w0 w → Le ws w → w.M = M → SR K w ρ σ → OF w0 ρ σ → D.bk σ w.H
  | .cont ρ M => ∀ w σ, Step K w0 w → Le ws w → w.M = M → SR K w ρ σ → OF w0 ρ σ → D.ct σ w.H
  | .ret s M => ∀ w v, Step K w0 w → w.M = M → RepX K w0 w v s → D.rt v w.H
  | .exc c d M => ∀ w, Step K w0 w → w.M = M → E c d w
  | .bad => False
def tS (g : FS) : TS := fun D σ H => ∃ ρ w w0, w.H = H ∧ Step K w0 w ∧ SR K w ρ σ ∧ OF w0 ρ σ ∧ PostS K E w0 w D (g ρ w.M)
end
section
variable {K : PySem.W.Frag} {E : Wish} {X : Cx} {st : Stmt} {sts : List Stmt}
theorem PostS.later {w0 ws w1 : Wd} {D : Ends} {o : Out} (h : PostS K E w0 ws D o) (l : Le ws w1) : PostS K E w0 w1 D o := by
  cases o with
  | next ρ M => exact fun w σ a b => h w σ a (l.trans b)
  | brk ρ M => exact fun w σ a b => h w σ a (l.trans b)
  | cont ρ M => exact fun w σ a b => h w σ a (l.trans b)
  | ret s M => exact h
  | exc c d M => exact h
  | bad => exact h
theorem OF.sub {w0 : Wd} {ρ ρ' : EnvD} {σ σ' : St} (h : OF w0 ρ σ) (o : OwnSub ρ ρ' σ σ') : OF w0 ρ' σ' := fun i ds p h1 h2 => by
  obtain ⟨a, b⟩ := o i ds h1
  rw [b] at h2
  exact h i ds p a h2
/-! ### blocks -/
def sNil : FS := fun ρ M => .next ρ M
def sSeq (g h : FS) : FS := fun ρ M => match g ρ M with
  | .next ρ M => h ρ M
  | o => o
theorem s_nil (h : PSs X [] tNext) : PSs X [] (tS K E sNil) := PSs.wk h fun D σ H ⟨ρ, w, w0, e1, s, sr, of, p⟩ => by
  subst e1
  exact p w σ s (Le.refl w) rfl sr of
theorem s_seq {g h : FS} (hh : PSs X sts (tSeq (tS K E g) (tS K E h))) : PSs X sts (tS K E (sSeq g h)) := PSs.wk hh fun D σ H ⟨ρ, w, w0, e1, s, sr, of, p⟩ => by
  refine ⟨ρ, w, w0, e1, s, sr, of, ?_⟩
  unfold sSeq at p
  cases q : g ρ w.M with
  | next ρ' M' =>
    rw [q] at p
    intro w1 σ1 s1 l1 e2 sr1 of1
    refine ⟨ρ', w1, w0, rfl, s1, sr1, of1, ?_⟩
    rw [e2]
    exact PostS.later p l1
  | ret x M' => rw [q] at p; exact p
  | brk x M' => rw [q] at p; exact p
  | cont x M' => rw [q] at p; exact p
  | exc c d M' => rw [q] at p; exact p
  | bad => rw [q] at p; exact p
theorem s_pass (h : PS X st tNext) : PS X st (tS K E sNil) := PS.wk h fun D σ H ⟨ρ, w, w0, e1, s, sr, of, p⟩ => by
  subst e1
  exact p w σ s (Le.refl w) rfl sr of
def sBreak : FS := fun ρ M => .brk ρ M
def sCont : FS := fun ρ M => .cont ρ M
theorem s_break (h : PS X st tBreak) : PS X st (tS K E sBreak) := PS.wk h fun D σ H ⟨ρ, w, w0, e1, s, sr, of, p⟩ => by
  subst e1
  exact p w σ s (Le.refl w) rfl sr of
theorem s_cont (h : PS X st tCont) : PS X st (tS K E sCont) := PS.wk h fun D σ H ⟨ρ, w, w0, e1, s, sr, of, p⟩ => by
  subst e1
  exact p w σ s (Le.refl w) rfl sr of
/-- an expression's answer, then -/
def R.out {α : Type} (r : R α) (k : α → Store → Out) : Out := match r with
  | .ok a M => k a M
  | .exc c d M => .exc c d M
  | .bad => .bad
theorem out_after {α : Type} {w0 w : Wd} {D : Ends} {r : R α} {k : α → Store → Out} (s : Step K w0 w) (p : PostS K E w0 w D (r.out k)) : After K E w r fun a w' => PostS K E w0 w' D (k a w'.M) := by
  cases r with
  | bad => exact p
  | exc c d M => exact fun w' s' e => p w' (s.trans s') e
  | ok a M =>
    intro w' s' e
    have p' : PostS K E w0 w D (k a M) := p
    rw [e]
    exact p'.later s'.le
def sExpr (f : FE) : FS := fun ρ M => (f ρ M).out fun _ M => .next ρ M
theorem s_expr {f : FE} (h : PS X st (tDrop (tE K E f))) : PS X st (tS K E (sExpr f)) := PS.wk h fun D σ H ⟨ρ, w, w0, e1, s, sr, of, p⟩ =>
  ⟨ρ, w, e1, s.ok, sr, (out_after s p).imp fun x w1 s1 p1 v rv => p1 w1 σ (s.trans s1) (Le.refl _) rfl (sr.step s1) of⟩
def sRet (f : FE) : FS := fun ρ M => (f ρ M).out fun x M => .ret x M
theorem s_ret {f : FE} (h : PS X st (tRet (tE K E f))) : PS X st (tS K E (sRet f)) := PS.wk h fun D σ H ⟨ρ, w, w0, e1, s, sr, of, p⟩ =>
  ⟨ρ, w, e1, s.ok, sr, (out_after s p).imp fun x w1 s1 p1 v rv => p1 w1 v (s.trans s1) rfl (rv.back s)⟩
def sRetN : FS := fun _ M => .ret (.val .non) M
theorem s_retN (h : PS X st tRetN) : PS X st (tS K E sRetN) := PS.wk h fun D σ H ⟨ρ, w, w0, e1, s, sr, of, p⟩ => by
  subst e1
  exact p w .non s rfl .non
/-- return x, x perhaps a list of one's own -/
def sRetV (i : Nat) : FS := fun ρ M => match ρ[i]? with
  | some (.val d) => .ret (.val d) M
  | some (.own ds) => .ret (.own ds) M
  | _ => .bad
theorem s_retV {i : Nat} (h : PS X st (tRet (tVar i))) : PS X st (tS K E (sRetV i)) := PS.wk h fun D σ H ⟨ρ, w, w0, e1, s, sr, of, p⟩ => by
  subst e1
  unfold sRetV at p
  split at p
  · rename_i d e2
    obtain ⟨v, h1, h2⟩ := sr.val i d e2
    exact ⟨v, h1, p w v s rfl h2⟩
  · rename_i ds e2
    obtain ⟨q, vs, h1, h2, h3, h4, h5⟩ := sr.own i ds e2
    exact ⟨_, h1, p w _ s rfl ⟨q, vs, rfl, of i ds q e2 h1, h2, h3, h4, h5⟩⟩
  · exact p.elim
theorem SR.setOwn {w w' : Wd} {ρ : EnvD} {σ : St} (sr : SR K w ρ σ) (st : Step K w w') (i : Nat) {v : V} {ds : List D} (r : RepX K w w' v (.own ds)) : SR K w' (ρ.set i (.own ds)) (σ.set i (some v)) := by
  obtain ⟨p, vs, rfl, h0, hH, hG, hA, rl⟩ := r
  have sr' := sr.step st
  have other : ∀ (j : Nat) (es : List D), i ≠ j → ρ[j]? = some (.own es) → σ[j]? ≠ some (some (.ref p)) := fun j es hj h1 h2 => by
    obtain ⟨q, us, a, b, _⟩ := sr.own j es h1
    rw [a] at h2
    cases h2
    rw [h0] at b
    cases b
  refine ⟨by rw [List.length_set, List.length_set]; exact sr.len, fun j x h => ?_, fun j es h => ?_, fun j k ds1 es q h1 h2 h3 h4 => ?_⟩
  · by_cases hj : i = j
    · subst hj
      have hi : i < ρ.length := by have := (List.getElem?_eq_some_iff.mp h).1; rwa [List.length_set] at this
      rw [List.getElem?_set_self hi] at h
      cases h
    · rw [List.getElem?_set_ne hj] at h ⊢
      exact sr'.val j x h
  · by_cases hj : i = j
    · subst hj
      have hi : i < ρ.length := by have := (List.getElem?_eq_some_iff.mp h).1; rwa [List.length_set] at this
      rw [List.getElem?_set_self hi] at h
      cases h
      exact ⟨p, vs, List.getElem?_set_self (by rw [← sr.len]; exact hi), hH, hG, hA, rl⟩
    · rw [List.getElem?_set_ne hj] at h ⊢
      exact sr'.own j es h
  · by_cases hj : i = j
    · by_cases hk : i = k
      · rw [← hj, ← hk]
      · subst hj
        have hi : i < ρ.length := by have := (List.getElem?_eq_some_iff.mp h1).1; rwa [List.length_set] at this
        rw [List.getElem?_set_self (by rw [← sr.len]; exact hi)] at h3
        cases h3
        rw [List.getElem?_set_ne hk] at h2 h4
        exact absurd h4 (other k es hk h2)
    · by_cases hk : i = k
      · subst hk
        have hi : i < ρ.length := by have := (List.getElem?_eq_some_iff.mp h2).1; rwa [List.length_set] at this
        rw [List.getElem?_set_self (by rw [← sr.len]; exact hi)] at h4
        cases h4
        rw [List.getElem?_set_ne hj] at h1 h3
        exact absurd h3 (other j ds1 hj h1)
      · rw [List.getElem?_set_ne hj] at h1 h3
        rw [List.getElem?_set_ne hk] at h2 h4
        exact sr'.dis j k ds1 es q h1 h2 h3 h4
theorem OF.setOwn {w0 w w' : Wd} {ρ : EnvD} {σ : St} (of : OF w0 ρ σ) (s : Step K w0 w) (i : Nat) {v : V} {ds : List D} (r : RepX K w w' v (.own ds)) : OF w0 (ρ.set i (.own ds)) (σ.set i (some v)) := fun j es p h1 h2 => by
  obtain ⟨q, vs, rfl, h0, _⟩ := r
  by_cases hj : i = j
  · subst hj
    have hi : i < σ.length := by have := (List.getElem?_eq_some_iff.mp h2).1; rwa [List.length_set] at this
    rw [List.getElem?_set_self hi] at h2
    cases h2
    exact s.free h0
  · rw [List.getElem?_set_ne hj] at h1 h2
    exact of j es p h1 h2
/-- name = value -/
def sSet (i : Nat) (f : FE) : FS := fun ρ M => (f ρ M).out fun x M => match x with
  | .un => .bad
  | x => .next (ρ.set i x) M
theorem s_set {i : Nat} {f : FE} (h : PS X st (tAsg (tE K E f) (gName i))) : PS X st (tS K E (sSet i f)) := PS.wk h fun D σ H ⟨ρ, w, w0, e1, s, sr, of, p⟩ =>
  ⟨ρ, w, e1, s.ok, sr, (out_after s p).imp fun x w1 s1 p1 v rv => by
    cases x with
    | un => exact rv.elim
    | val d => exact p1 w1 _ (s.trans s1) (Le.refl _) rfl ((sr.step s1).set i rv) (of.sub (OwnSub.set ρ σ i (fun _ z => by cases z) _))
    | own ds => exact p1 w1 _ (s.trans s1) (Le.refl _) rfl (sr.setOwn s1 i rv) (of.setOwn s i rv)⟩
/-- target = value -/
def sAsg (b : D → EnvD → Option EnvD) (f : FD) : FS := fun ρ M => (f ρ M).out fun x M => match b x ρ with
  | some ρ' => .next ρ' M
  | none => .bad
theorem s_asg {b : D → EnvD → Option EnvD} {is : List Nat} {f : FD} (h : PS X st (tAsg (tF K E f) (tG K b is))) : PS X st (tS K E (sAsg b f)) := PS.wk h fun D σ H ⟨ρ, w, w0, e1, s, sr, of, p⟩ =>
  ⟨ρ, w, e1, s.ok, sr, (out_after s p).imp fun x w1 s1 p1 v rv => by
    cases eb : b x ρ with
    | none => rw [eb] at p1; exact p1.elim
    | some ρ' =>
      rw [eb] at p1
      exact ⟨ρ, w1, x, ρ', rfl, s1.ok, sr.step s1, rv, eb, fun σ' sr' os _ _ => p1 w1 σ' (s.trans s1) (Le.refl _) rfl sr' (of.sub os)⟩⟩
/-- a, b = x, y by swapped stores: both values frozen or of their own kind -/
def sPar (i j : Nat) (fs : FL) : FS := fun ρ M => (fs ρ M).out fun ds M => match ds with
  | [x, y] => .next ((ρ.set i (.val x)).set j (.val y)) M
  | _ => .bad
theorem s_par {i j : Nat} {fs : FL} (h : PS X st (tPar i j (tAF K E fs))) : PS X st (tS K E (sPar i j fs)) := PS.wk h fun D σ H ⟨ρ, w, w0, e1, s, sr, of, p⟩ =>
  ⟨ρ, w, e1, s.ok, sr, (out_after s p).imp fun ds w1 s1 p1 vs rvs => by
    split at p1
    · cases rvs with
      | cons r1 r2 =>
        cases r2 with
        | cons r2 r3 =>
          cases r3
          refine ⟨_, _, rfl, p1 w1 _ (s.trans s1) (Le.refl _) rfl (((sr.step s1).set i r1).set j r2) (of.sub ((OwnSub.set ρ σ i (fun _ z => by cases z) _).trans (OwnSub.set _ _ j (fun _ z => by cases z) _)))⟩
    · exact p1.elim⟩
/-! ### if -/
def sIf (c : FB) (g h : FS) : FS := fun ρ M => (c ρ M).out fun b M => if b then g ρ M else h ρ M
theorem s_if {c : FB} {g h : FS} (hh : PS X st (tIfS (tT K E c) (tS K E g) (tS K E h))) : PS X st (tS K E (sIf c g h)) := PS.wk hh fun D σ H ⟨ρ, w, w0, e1, s, sr, of, p⟩ =>
  ⟨ρ, w, e1, s.ok, sr, (out_after s p).imp fun b w1 s1 p1 => by
    cases b with
    | true => exact iteT ⟨ρ, w1, w0, rfl, s.trans s1, sr.step s1, of, p1⟩
    | false => exact iteF ⟨ρ, w1, w0, rfl, s.trans s1, sr.step s1, of, p1⟩⟩
/-! ### loops -/
def forGo (b : D → EnvD → Option EnvD) (body : FS) : List D → EnvD → Store → Out
  | [], ρ, M => .next ρ M
  | d :: ds, ρ, M => match b d ρ with
    | none => .bad
    | some ρ1 => match body ρ1 M with
      | .next ρ2 M2 => forGo b body ds ρ2 M2
      | .cont ρ2 M2 => forGo b body ds ρ2 M2
      | .brk ρ2 M2 => .next ρ2 M2
      | o => o
def sFor (fi : FL) (b : D → EnvD → Option EnvD) (body : FS) : FS := fun ρ M => (fi ρ M).out fun items M => forGo b body items ρ M
theorem s_for {fi : FL} {b : D → EnvD → Option EnvD} {is : List Nat} {body : FS} (h : PS X st (tFor (tI K E fi) (tG K b is) (tS K E body))) : PS X st (tS K E (sFor fi b body)) := PS.wk h fun D σ H ⟨ρ, w, w0, e1, s, sr, of, p⟩ =>
  ⟨ρ, w, e1, s.ok, sr, (out_after s p).imp fun items w1 s1 p1 J hJ => by
    refine ⟨fun i m σ H => m = items.length - i ∧ i ≤ items.length ∧ ∃ ρ w, w.H = H ∧ Step K w0 w ∧ Le w1 w ∧ SR K w ρ σ ∧ OF w0 ρ σ ∧ PostS K E w0 w D (forGo b body (items.drop i) ρ w.M),
      ⟨items.length, by simp, Nat.zero_le _, ρ, w1, rfl, s.trans s1, Le.refl _, sr.step s1, of, by simpa using p1⟩, ?_⟩
    rintro i m σ2 H2 ⟨rfl, hi, ρ2, w2, rfl, s2, l2, sr2, of2, p2⟩
    by_cases hlt : i < items.length
    · have ed : items[i]? = some items[i] := List.getElem?_eq_getElem hlt
      rw [List.drop_eq_getElem_cons hlt] at p2
      obtain ⟨go, yl⟩ := (hJ w2 l2 s2.ok i).1 _ ed
      refine .inr ⟨go, fun σ' H' => i + 1 ≤ items.length ∧ ∃ ρ w, w.H = H' ∧ Step K w0 w ∧ Le w1 w ∧ SR K w ρ σ' ∧ OF w0 ρ σ' ∧ PostS K E w0 w D (forGo b body (items.drop (i + 1)) ρ w.M),
        fun σ' H' ⟨h1, h2⟩ => ⟨_, by omega, rfl, h1, h2⟩, fun x H' hy => ?_⟩
      obtain ⟨w3, s3, eM3, rfl, rx⟩ := yl x H' hy
      unfold forGo at p2
      cases eb : b items[i] ρ2 with
      | none => rw [eb] at p2; exact p2.elim
      | some ρ1 =>
        rw [eb] at p2
        simp only at p2
        refine ⟨ρ2, w3, items[i], ρ1, rfl, s3.ok, sr2.step s3, rx, eb, fun σ' sr' os _ _ => ?_⟩
        refine ⟨ρ1, w3, w0, rfl, s2.trans s3, sr', of2.sub os, ?_⟩
        rw [eM3]
        cases q : body ρ1 w2.M with
        | next ρ4 M4 =>
          rw [q] at p2
          intro w5 σ5 s5 l5 e5 sr5 of5
          refine ⟨hlt, ρ4, w5, rfl, s5, (l2.trans s3.le).trans l5, sr5, of5, ?_⟩
          rw [e5]
          exact PostS.later p2 (s3.le.trans l5)
        | cont ρ4 M4 =>
          rw [q] at p2
          intro w5 σ5 s5 l5 e5 sr5 of5
          refine ⟨hlt, ρ4, w5, rfl, s5, (l2.trans s3.le).trans l5, sr5, of5, ?_⟩
          rw [e5]
          exact PostS.later p2 (s3.le.trans l5)
        | brk ρ4 M4 =>
          rw [q] at p2
          intro w5 σ5 s5 l5 e5 sr5 of5
          exact p2 w5 σ5 s5 (s3.le.trans l5) e5 sr5 of5
        | ret x M4 => rw [q] at p2; exact p2
        | exc c d M4 => rw [q] at p2; exact p2
        | bad => rw [q] at p2; exact p2
    · have ei : i = items.length := by omega
      subst ei
      rw [List.drop_length] at p2
      exact .inl ⟨(hJ w2 l2 s2.ok _).2 (Nat.le_refl _), p2 w2 σ2 s2 (Le.refl _) rfl sr2 of2⟩⟩
/-- while, n turns at most -/
def whGo (c : FB) (body : FS) : Nat → EnvD → Store → Out
  | 0, _, _ => .bad
  | n + 1, ρ, M => match c ρ M with
    | .ok true M1 => match body ρ M1 with
      | .next ρ2 M2 => whGo c body n ρ2 M2
      | .cont ρ2 M2 => whGo c body n ρ2 M2
      | .brk ρ2 M2 => .next ρ2 M2
      | o => o
    | .ok false M1 => .next ρ M1
    | .exc k d M1 => .exc k d M1
    | .bad => .bad
def sWhile (n : Nat) (c : FB) (body : FS) : FS := fun ρ M => whGo c body n ρ M
theorem s_while {n : Nat} {c : FB} {body : FS} (h : PS X st (tWhile (tT K E c) (tS K E body))) : PS X st (tS K E (sWhile n c body)) := PS.wk h fun D σ H ⟨ρ, w, w0, e1, s, sr, of, p⟩ => by
  refine ⟨fun m σ H => ∃ ρ w, w.H = H ∧ Step K w0 w ∧ SR K w ρ σ ∧ OF w0 ρ σ ∧ PostS K E w0 w D (whGo c body m ρ w.M), ⟨n, ρ, w, e1, s, sr, of, p⟩, ?_⟩
  rintro m σ2 H2 ⟨ρ2, w2, rfl, s2, sr2, of2, p2⟩
  refine ⟨ρ2, w2, rfl, s2.ok, sr2, ?_⟩
  cases m with
  | zero => exact p2.elim
  | succ m =>
    unfold whGo at p2
    cases q : c ρ2 w2.M with
    | bad => rw [q] at p2; exact p2
    | exc k d M1 => rw [q] at p2; exact fun w' s' e => p2 w' (s2.trans s') e
    | ok b M1 =>
      rw [q] at p2
      intro w3 s3 e3
      cases b with
      | false => exact iteF (p2 w3 σ2 (s2.trans s3) s3.le e3 (sr2.step s3) of2)
      | true =>
        refine iteT ⟨fun σ' H' => ∃ ρ w, w.H = H' ∧ Step K w0 w ∧ SR K w ρ σ' ∧ OF w0 ρ σ' ∧ PostS K E w0 w D (whGo c body m ρ w.M), fun σ' H' z => ⟨m, Nat.lt_succ_self _, z⟩, ρ2, w3, w0, rfl, s2.trans s3, sr2.step s3, of2, ?_⟩
        rw [e3]
        simp only at p2
        cases q2 : body ρ2 M1 with
        | next ρ4 M4 =>
          rw [q2] at p2
          intro w5 σ5 s5 l5 e5 sr5 of5
          refine ⟨ρ4, w5, rfl, s5, sr5, of5, ?_⟩
          rw [e5]
          exact PostS.later p2 (s3.le.trans l5)
        | cont ρ4 M4 =>
          rw [q2] at p2
          intro w5 σ5 s5 l5 e5 sr5 of5
          refine ⟨ρ4, w5, rfl, s5, sr5, of5, ?_⟩
          rw [e5]
          exact PostS.later p2 (s3.le.trans l5)
        | brk ρ4 M4 =>
          rw [q2] at p2
          intro w5 σ5 s5 l5 e5 sr5 of5
          exact p2 w5 σ5 s5 (s3.le.trans l5) e5 sr5 of5
        | ret x M4 => rw [q2] at p2; exact p2
        | exc c d M4 => rw [q2] at p2; exact p2
        | bad => rw [q2] at p2; exact p2
/-! ### a list of one's own -/
/-- it is changed at its place -/
theorem SR.change {w0 w : Wd} {ρ : EnvD} {σ : St} (s : Step K w0 w) (sr : SR K w ρ σ) (of : OF w0 ρ σ) {i : Nat} {ds ds' : List D} {p : Addr} {vs vs' : List V} (hi : ρ[i]? = some (.own ds)) (hp : σ[i]? = some (some (.ref p))) (r : RepL K w.A w.G vs' ds') :
    Step K w0 ⟨w.A, w.G, w.M, upd w.H p (.lst vs')⟩ ∧ SR K ⟨w.A, w.G, w.M, upd w.H p (.lst vs')⟩ (ρ.set i (.own ds')) σ ∧ OF w0 (ρ.set i (.own ds')) σ := by
  obtain ⟨q, us, a, b, c, d, f⟩ := sr.own i ds hi
  rw [hp] at a
  cases a
  have hil : i < ρ.length := (List.getElem?_eq_some_iff.mp hi).1
  refine ⟨s.setOwn (of i ds p hi hp) b c d, ⟨by rw [List.length_set]; exact sr.len, fun j x h => ?_, fun j es h => ?_, fun j k es1 es2 q h1 h2 h3 h4 => ?_⟩, fun j es q h1 h2 => ?_⟩
  · have nj : i ≠ j := fun z => by subst z; rw [List.getElem?_set_self hil] at h; cases h
    rw [List.getElem?_set_ne nj] at h
    exact sr.val j x h
  · by_cases hj : i = j
    · subst hj
      rw [List.getElem?_set_self hil] at h
      cases h
      exact ⟨p, vs', hp, upd_same, c, d, r⟩
    · rw [List.getElem?_set_ne hj] at h
      obtain ⟨q, us2, a2, b2, c2, d2, f2⟩ := sr.own j es h
      refine ⟨q, us2, a2, ?_, c2, d2, f2⟩
      show upd w.H p (.lst vs') q = _
      rw [upd_ne (fun z : q = p => hj (by rw [z] at a2; exact sr.dis i j ds es p hi h hp a2))]
      exact b2
  · have f : ∀ {j : Nat} {es : List D}, (ρ.set i (.own ds'))[j]? = some (.own es) → ∃ es', ρ[j]? = some (.own es') := fun {j es} h => by
      by_cases hj : i = j
      · subst hj; exact ⟨ds, hi⟩
      · rw [List.getElem?_set_ne hj] at h; exact ⟨es, h⟩
    obtain ⟨_, z1⟩ := f h1
    obtain ⟨_, z2⟩ := f h2
    exact sr.dis j k _ _ q z1 z2 h3 h4
  · by_cases hj : i = j
    · subst hj; exact of _ ds q hi h2
    · rw [List.getElem?_set_ne hj] at h1; exact of j es q h1 h2
/-- x.append(e) -/
def sApp (i : Nat) (f : FD) : FS := fun ρ M => match ρ[i]? with
  | some (.own ds) => (f ρ M).out fun d M => if ds.length < sizeLine then .next (ρ.set i (.own (ds ++ [d]))) M else .bad
  | _ => .bad
theorem s_app {i : Nat} {f : FD} (h : PS X st (tDrop (tBM K "list" rAppend (tVar i) (tCons (tF K E f) tNil)))) : PS X st (tS K E (sApp i f)) := PS.wk h fun D σ H ⟨ρ, w, w0, e1, s, sr, of, p⟩ => by
  subst e1
  unfold sApp at p
  split at p
  · rename_i ds e2
    obtain ⟨q, vs, h1, h2, h3, h4, h5⟩ := sr.own i ds e2
    refine ⟨_, h1, .inl ⟨rfl, vs, .inl (.inl h2)⟩, ρ, w, rfl, s.ok, sr, (out_after s p).imp fun x w1 s1 p1 v rv => ?_⟩
    split at p1
    · rename_i hz
      obtain ⟨b1, c1, d1⟩ := s1.keepN q _ h2 h3 h4
      have r1 := s1.repL h5
      refine ⟨q, vs, v, rfl, rfl, b1, by rw [h5.length]; exact hz, ?_⟩
      obtain ⟨a, b, c⟩ := SR.change (vs := vs) (s.trans s1) (sr.step s1) of e2 h1 (r1.append (.one rv))
      exact p1 _ σ a (Le.refl _) rfl b c
    · exact p1.elim
  · exact p.elim
/-- x.extend(e), e a list -/
def sExt (i : Nat) (f : FD) : FS := fun ρ M => match ρ[i]? with
  | some (.own ds) => (f ρ M).out fun d M => match lstOf M d with
    | some es => if ds.length + es.length ≤ sizeLine then .next (ρ.set i (.own (ds ++ es))) M else .bad
    | none => .bad
  | _ => .bad
theorem s_ext {i : Nat} {f : FD} (h : PS X st (tDrop (tBM K "list" rExtend (tVar i) (tCons (tF K E f) tNil)))) : PS X st (tS K E (sExt i f)) := PS.wk h fun D σ H ⟨ρ, w, w0, e1, s, sr, of, p⟩ => by
  subst e1
  unfold sExt at p
  split at p
  · rename_i ds e2
    obtain ⟨q, vs, h1, h2, h3, h4, h5⟩ := sr.own i ds e2
    refine ⟨_, h1, .inl ⟨rfl, vs, .inl (.inl h2)⟩, ρ, w, rfl, s.ok, sr, (out_after s p).imp fun x w1 s1 p1 v rv => ?_⟩
    cases el : lstOf w1.M x with
    | none => rw [el] at p1; exact p1.elim
    | some es =>
      rw [el] at p1
      simp only at p1
      split at p1
      · rename_i hz
        obtain ⟨b1, c1, d1⟩ := s1.keepN q _ h2 h3 h4
        have r1 := s1.repL h5
        obtain ⟨q2, us, rfl, hu, ru⟩ := lst_at s1.ok (.inl rv) el
        refine ⟨q, q2, vs, us, rfl, rfl, b1, hu, by rw [h5.length, ru.length]; exact hz, ?_⟩
        obtain ⟨a, b, c⟩ := SR.change (vs := vs) (s.trans s1) (sr.step s1) of e2 h1 (r1.append ru)
        exact p1 _ σ a (Le.refl _) rfl b c
      · exact p1.elim
  · exact p.elim
/-- a list of one's own is frozen: nothing happens in the program -/
def sFz (i : Nat) (g : FS) : FS := fun ρ M => match ρ[i]? with
  | some (.own ds) => g (ρ.set i (.val (.lst ds))) M
  | _ => g ρ M
theorem fz_ok {i : Nat} {g : FS} {D : Ends} {σ : St} {H : Hp} (h : tS K E (sFz i g) D σ H) : tS K E g D σ H := by
  obtain ⟨ρ, w, w0, e1, s, sr, of, p⟩ := h
  unfold sFz at p
  split at p
  · rename_i ds e2
    obtain ⟨q, vs, h1, h2, h3, h4, h5⟩ := sr.own i ds e2
    have hil : i < ρ.length := (List.getElem?_eq_some_iff.mp e2).1
    have fG : Same w.G (upd w.G q (.lst vs)) := upd_fro h3
    have l : Le w ⟨w.A, upd w.G q (.lst vs), w.M, w.H⟩ := ⟨List.prefix_refl _, fG⟩
    refine ⟨ρ.set i (.val (.lst ds)), ⟨w.A, upd w.G q (.lst vs), w.M, w.H⟩, w0, e1, ⟨s.ok.freeze h2 h3 h4, s.pre, s.fro.trans fG, fun b o z1 z2 z3 => ?_⟩, ⟨by rw [List.length_set]; exact sr.len, fun j x h => ?_, fun j es h => ?_, fun j k es1 es2 b z1 z2 z3 z4 => ?_⟩, fun j es b z1 z2 => ?_, PostS.later p l⟩
    · obtain ⟨a, b', c⟩ := s.keep b o z1 z2 z3
      refine ⟨a, b'.imp (fun b' => ?_) id, c⟩
      show upd w.G q (.lst vs) b = none
      rw [upd_ne (ne_of_none z1 (of i ds q e2 h1))]
      exact b'
    · by_cases hj : i = j
      · subst hj
        rw [List.getElem?_set_self hil] at h
        cases h
        exact ⟨_, h1, .lst upd_same (l.repL h5)⟩
      · rw [List.getElem?_set_ne hj] at h
        obtain ⟨v, a, b⟩ := sr.val j x h
        exact ⟨v, a, l.rep b⟩
    · have nj : i ≠ j := fun z => by subst z; rw [List.getElem?_set_self hil] at h; cases h
      rw [List.getElem?_set_ne nj] at h
      obtain ⟨q2, us, a, b, c, d, f⟩ := sr.own j es h
      refine ⟨q2, us, a, b, ?_, d, l.repL f⟩
      show upd w.G q (.lst vs) q2 = none
      rw [upd_ne (fun z : q2 = q => nj (by rw [z] at a; exact sr.dis i j ds es q e2 h h1 a))]
      exact c
    · have nj : i ≠ j := fun z => by subst z; rw [List.getElem?_set_self hil] at z1; cases z1
      have nk : i ≠ k := fun z => by subst z; rw [List.getElem?_set_self hil] at z2; cases z2
      rw [List.getElem?_set_ne nj] at z1
      rw [List.getElem?_set_ne nk] at z2
      exact sr.dis j k _ _ b z1 z2 z3 z4
    · have nj : i ≠ j := fun z => by subst z; rw [List.getElem?_set_self hil] at z1; cases z1
      rw [List.getElem?_set_ne nj] at z1
      exact of j es b z1 z2
  · exact ⟨ρ, w, w0, e1, s, sr, of, p⟩
theorem s_fz {i : Nat} {g : FS} (h : PS X st (tS K E g)) : PS X st (tS K E (sFz i g)) := PS.wk h fun _ _ _ z => fz_ok z
end
end TP
/-! TPf: built-in things by plain data. -/
namespace TP
open PySem L2
section
variable {K : PySem.W.Frag} {E : Wish} {X : Cx} {e : Expr}
/-! ### one answer, nothing changed -/
theorem ans {w : Wd} {Q : VK} {d : D} {v : V} (ok : w.Ok K) (k : ∀ v w', Step K w w' → w'.M = w.M → RepX K w w' v (.val d) → Q v w'.H) (r : ∀ A G, Rep K A G v d) : Q v w.H := k v w (Step.refl ok) rfl (r _ _)
/-! ### arithmetic -/
def mulOk (i j : Int) : Bool := decide (-(2 ^ 64) < i ∧ i < 2 ^ 64) || decide (-(2 ^ 64) < j ∧ j < 2 ^ 64) || decide (i.natAbs.log2 + j.natAbs.log2 < 1000000)
def addD (M : Store) (x y : D) : Option Slot := match x, y with
  | .int i, .int j => some (.val (.int (i + j)))
  | .str a, .str b => if a.length + b.length ≤ sizeLine then some (.val (.str (a ++ b))) else none
  | .tup xs, .tup ys => if xs.length + ys.length ≤ sizeLine then some (.val (.tup (xs ++ ys))) else none
  | x, y => match lstOf M x, lstOf M y with
    | some xs, some ys => if xs.length + ys.length ≤ sizeLine then some (.own (xs ++ ys)) else none
    | _, _ => none
def rAddA (K : PySem.W.Frag) : R2 := fun x y H Q => rI0 (fun i j => .int (i + j)) x y H Q ∨ (∃ i j, x = .str i ∧ y = .str j ∧ i.length + j.length ≤ sizeLine ∧ Q (.str (i ++ j)) H) ∨ rCatA K x y H Q ∨ rCat x y H Q
theorem op_addA : OpR X (binaryOp .Add) (rAddA X.K) := op_add.or (op_add_str.or (op_catA.or op_cat))
theorem p_add : Prim2 K (rAddA K) addD := by
  intro w vx vy x y s Q ok rx ry h k
  unfold addD at h
  split at h
  · cases h
    cases int_at rx
    cases int_at ry
    exact .inl ⟨_, _, rfl, rfl, ans ok k fun _ _ => .int _⟩
  · split at h
    · cases h
      cases str_at rx
      cases str_at ry
      exact .inr (.inl ⟨_, _, rfl, rfl, by assumption, ans ok k fun _ _ => .str _⟩)
    · cases h
  · split at h
    · cases h
      obtain ⟨p, vs, rfl, hs, rl⟩ := tup_at ok rx
      obtain ⟨p2, vs2, rfl, hs2, rl2⟩ := tup_at ok ry
      refine .inr (.inr (.inl ⟨p, p2, vs, vs2, rfl, rfl, hs, hs2, by rw [rl.length, rl2.length]; assumption, fun e => ?_, fun _ e => ?_, fun _ _ q hq => ?_⟩))
      · subst e
        cases rl
        rcases ry with ry | ⟨_, _, _, _, e, _⟩
        · exact k _ w (Step.refl ok) rfl ry
        · cases e
      · subst e
        cases rl2
        rw [List.append_nil] at k
        rcases rx with rx | ⟨_, _, _, _, e, _⟩
        · exact k _ w (Step.refl ok) rfl rx
        · cases e
      · have st := ok.fresh hq (.tup (vs ++ vs2))
        exact k _ _ st rfl (.tup upd_same (st.repL (rl.append rl2)))
    · cases h
  · split at h
    · rename_i e1 e2
      split at h
      · cases h
        obtain ⟨p, vs, rfl, hs, rl⟩ := lst_at ok rx e1
        obtain ⟨p2, vs2, rfl, hs2, rl2⟩ := lst_at ok ry e2
        refine .inr (.inr (.inr ⟨p, p2, vs, vs2, rfl, rfl, hs, hs2, by rw [rl.length, rl2.length]; assumption, fun q hq => ?_⟩))
        exact k _ _ (ok.fresh0 hq _) rfl (own_new (Step.refl ok) hq (rl.append rl2))
      · cases h
    · cases h
def subD (_ : Store) (x y : D) : Option Slot := match x, y with
  | .int i, .int j => some (.val (.int (i - j)))
  | _, _ => none
theorem p_sub : Prim2 K (rI0 fun i j => .int (i - j)) subD := by
  intro w vx vy x y s Q ok rx ry h k
  unfold subD at h
  split at h
  · cases h
    cases int_at rx
    cases int_at ry
    exact ⟨_, _, rfl, rfl, ans ok k fun _ _ => .int _⟩
  · cases h
def mulD (M : Store) (x y : D) : Option Slot := match x, y with
  | .int i, .int j => if mulOk i j then some (.val (.int (i * j))) else none
  | x, .int k => match lstOf M x with
    | some xs => if -(2 ^ 63) ≤ k ∧ k < 2 ^ 63 ∧ xs.length * k.toNat ≤ sizeLine then some (.own (List.replicate k.toNat xs).flatten) else none
    | none => none
  | _, _ => none
def rMulA : R2 := fun x y H Q => rI CMul (fun i j => .int (i * j)) x y H Q ∨ rI CMulW (fun i j => .int (i * j)) x y H Q ∨ rRep x y H Q
theorem op_mulA : OpR X (binaryOp .Mult) rMulA := op_mul.or (op_mulW.or op_rep)
theorem RepL.rep {A : List Addr} {G : Hp} {vs : List V} {ds : List D} (h : RepL K A G vs ds) : ∀ n : Nat, RepL K A G (List.replicate n vs).flatten (List.replicate n ds).flatten
  | 0 => .nil
  | n + 1 => by
    rw [List.replicate_succ, List.replicate_succ, List.flatten_cons, List.flatten_cons]
    exact h.append (RepL.rep h n)
theorem p_mul : Prim2 K rMulA mulD := by
  intro w vx vy x y s Q ok rx ry h k
  unfold mulD at h
  split at h
  · split at h
    · rename_i i j hm
      cases h
      cases int_at rx
      cases int_at ry
      unfold mulOk at hm
      rw [Bool.or_eq_true, Bool.or_eq_true] at hm
      rcases hm with (hm | hm) | hm
      · exact .inl ⟨_, _, rfl, rfl, .inl (of_decide_eq_true hm), ans ok k fun _ _ => .int _⟩
      · exact .inl ⟨_, _, rfl, rfl, .inr (of_decide_eq_true hm), ans ok k fun _ _ => .int _⟩
      · exact .inr (.inl ⟨_, _, rfl, rfl, (show i.natAbs.log2 + j.natAbs.log2 < 1000000 from of_decide_eq_true hm), ans ok k fun _ _ => .int _⟩)
    · cases h
  · split at h
    · rename_i e1
      split at h
      · rename_i hz
        cases h
        obtain ⟨p, vs, rfl, hs, rl⟩ := lst_at ok rx e1
        cases int_at ry
        refine .inr (.inr ⟨p, _, vs, rfl, rfl, hs, hz.1, hz.2.1, by rw [rl.length]; exact hz.2.2, fun q hq => ?_⟩)
        exact k _ _ (ok.fresh0 hq _) rfl (own_new (Step.refl ok) hq (rl.rep _))
      · cases h
    · cases h
  · cases h
/-- by a positive divisor, or a small one -/
def fdivD (_ : Store) (x y : D) : Option Slot := match x, y with
  | .int i, .int j => if 0 < j ∧ j < 1073741824 then some (.val (.int (i / j))) else if 0 < j ∧ j.natAbs.log2 < 9000 then some (.val (.int (i / j))) else if j ≠ 0 ∧ j.natAbs < 1073741824 then some (.val (.int (i.fdiv j))) else if j ≠ 0 ∧ j.natAbs.log2 < 9000 then some (.val (.int (i.fdiv j))) else none
  | _, _ => none
def CDivG (_ j : Int) : Prop := j ≠ 0 ∧ j.natAbs.log2 < 9000
open PySem.Spec PyProof.Rows in
theorem op_fdivG : OpR X (binaryOp .FloorDiv) (rI CDivG fun i j => .int (i.fdiv j)) := opI fun _ _ _ _ _ _ _ hc q => floordiv_int hc.1 q (.inl (PyProof.noPylong_of_log2 hc.2))
def rFdivA : R2 := fun x y H Q => rI CDivW (fun i j => .int (i / j)) x y H Q ∨ rI CDivN (fun i j => .int (i.fdiv j)) x y H Q ∨ rI CDivG (fun i j => .int (i.fdiv j)) x y H Q
theorem op_fdivA : OpR X (binaryOp .FloorDiv) rFdivA := op_fdivW.or (op_fdivN.or op_fdivG)
theorem p_fdiv : Prim2 K rFdivA fdivD := by
  intro w vx vy x y s Q ok rx ry h k
  unfold fdivD at h
  split at h
  · cases int_at rx
    cases int_at ry
    split at h
    · rename_i hc
      cases h
      exact .inl ⟨_, _, rfl, rfl, ⟨hc.1, Nat.lt_of_lt_of_le (PySem.Flt.log2_lt_of (k := 30) (by decide) (by omega)) (by decide)⟩, ans ok k fun _ _ => .int _⟩
    · split at h
      · rename_i hc
        cases h
        exact .inl ⟨_, _, rfl, rfl, hc, ans ok k fun _ _ => .int _⟩
      · split at h
        · rename_i hc
          cases h
          exact .inr (.inl ⟨_, _, rfl, rfl, hc, ans ok k fun _ _ => .int _⟩)
        · split at h
          · rename_i hc
            cases h
            exact .inr (.inr ⟨_, _, rfl, rfl, hc, ans ok k fun _ _ => .int _⟩)
          · cases h
  · cases h
def modD (_ : Store) (x y : D) : Option Slot := match x, y with
  | .int i, .int j => if 0 < j then some (.val (.int (i % j))) else if j ≠ 0 then some (.val (.int (i.fmod j))) else none
  | _, _ => none
def rModA : R2 := fun x y H Q => rI (fun _ j => 0 < j) (fun i j => .int (i % j)) x y H Q ∨ rI (fun _ j => j ≠ 0) (fun i j => .int (i.fmod j)) x y H Q
theorem op_modA : OpR X (binaryOp .Mod) rModA := op_mod.or op_modN
theorem p_mod : Prim2 K rModA modD := by
  intro w vx vy x y s Q ok rx ry h k
  unfold modD at h
  split at h
  · cases int_at rx
    cases int_at ry
    split at h
    · rename_i hc
      cases h
      exact .inl ⟨_, _, rfl, rfl, hc, ans ok k fun _ _ => .int _⟩
    · split at h
      · rename_i hc
        cases h
        exact .inr ⟨_, _, rfl, rfl, hc, ans ok k fun _ _ => .int _⟩
      · cases h
  · cases h
def powD (_ : Store) (x y : D) : Option Slot := match x, y with
  | .int i, .int j => if 0 ≤ j ∧ j ≤ 1000000 ∧ i.natAbs < 2 ^ 64 then some (.val (.int (i ^ j.toNat))) else none
  | _, _ => none
theorem p_pow : Prim2 K (rI CPow fun i j => .int (i ^ j.toNat)) powD := by
  intro w vx vy x y s Q ok rx ry h k
  unfold powD at h
  split at h
  · cases int_at rx
    cases int_at ry
    split at h
    · rename_i hc
      cases h
      exact ⟨_, _, rfl, rfl, hc, ans ok k fun _ _ => .int _⟩
    · cases h
  · cases h
def negD (_ : Store) (x : D) : Option Slot := match x with
  | .int i => some (.val (.int (-i)))
  | _ => none
theorem p_neg : Prim1 K (rU fun i => .int (-i)) negD := by
  intro w vx x s Q ok rx h k
  unfold negD at h
  split at h
  · cases int_at rx
    cases h
    exact ⟨_, rfl, ans ok k fun _ _ => .int _⟩
  · cases h
/-! ### order of ints -/
def cmpD (p : Int → Int → Bool) (_ : Store) (x y : D) : Option Slot := match x, y with
  | .int i, .int j => some (.val (.bl (p i j)))
  | _, _ => none
theorem p_cmp (p : Int → Int → Bool) : Prim2 K (rI0 fun i j => .bl (p i j)) (cmpD p) := by
  intro w vx vy x y s Q ok rx ry h k
  unfold cmpD at h
  split at h
  · cases int_at rx
    cases int_at ry
    cases h
    exact ⟨_, _, rfl, rfl, ans ok k fun _ _ => .bl _⟩
  · cases h
/-! ### equality -/
mutual
def eqvD : D → D → Bool
  | .non, .non => true
  | .bl a, .bl b => a == b
  | .bl a, .int j => (if a then 1 else 0) == j
  | .int i, .bl b => i == (if b then 1 else 0)
  | .int i, .int j => i == j
  | .str x, .str y => x == y
  | .lst xs, .lst ys => eqvL xs ys
  | .tup xs, .tup ys => eqvL xs ys
  | _, _ => false
def eqvL : List D → List D → Bool
  | [], [] => true
  | x :: xs, y :: ys => eqvD x y && eqvL xs ys
  | _, _ => false
end
mutual
/-- no things of the store, no strange signs -/
def goodD : D → Bool
  | .non => true
  | .bl _ => true
  | .int _ => true
  | .str x => x.cps.all (· < 0x110000)
  | .lst xs => goodL xs
  | .tup xs => goodL xs
  | .fro _ => false
  | .kt _ => false
  | .ref _ => false
def goodL : List D → Bool
  | [] => true
  | x :: xs => goodD x && goodL xs
end
mutual
def dpD : D → Nat
  | .lst xs => dpL xs + 1
  | .tup xs => dpL xs + 1
  | _ => 0
def dpL : List D → Nat
  | [] => 0
  | x :: xs => max (dpD x) (dpL xs)
end
mutual
def toPy : D → PyData
  | .non => .none
  | .bl b => .bool b
  | .int i => .int i
  | .str x => .str x
  | .lst xs => .list (toPyL xs)
  | .tup xs => .tuple (toPyL xs)
  | .fro _ => .none
  | .kt _ => .none
  | .ref _ => .none
def toPyL : List D → List PyData
  | [] => []
  | x :: xs => toPy x :: toPyL xs
end
mutual
theorem eqv_py : ∀ x y : D, goodD x = true → goodD y = true → PyData.eqv (toPy x) (toPy y) = eqvD x y
  | .non, y, _, hy => by cases y <;> first | (simp [goodD] at hy; done) | simp [toPy, PyData.eqv, eqvD]
  | .bl _, y, _, hy => by cases y <;> first | (simp [goodD] at hy; done) | simp [toPy, PyData.eqv, eqvD]
  | .int _, y, _, hy => by cases y <;> first | (simp [goodD] at hy; done) | simp [toPy, PyData.eqv, eqvD]
  | .str _, y, _, hy => by cases y <;> first | (simp [goodD] at hy; done) | simp [toPy, PyData.eqv, eqvD]
  | .lst xs, y, hx, hy => by
    cases y with
    | lst ys =>
      simp only [toPy, PyData.eqv, eqvD]
      exact eqvL_py xs ys (by simpa [goodD] using hx) (by simpa [goodD] using hy)
    | _ => first | (simp [goodD] at hy; done) | simp [toPy, PyData.eqv, eqvD]
  | .tup xs, y, hx, hy => by
    cases y with
    | tup ys =>
      simp only [toPy, PyData.eqv, eqvD]
      exact eqvL_py xs ys (by simpa [goodD] using hx) (by simpa [goodD] using hy)
    | _ => first | (simp [goodD] at hy; done) | simp [toPy, PyData.eqv, eqvD]
  | .fro _, _, hx, _ => by simp [goodD] at hx
  | .kt _, _, hx, _ => by simp [goodD] at hx
  | .ref _, _, hx, _ => by simp [goodD] at hx
theorem eqvL_py : ∀ xs ys : List D, goodL xs = true → goodL ys = true → PyData.eqvAll (toPyL xs) (toPyL ys) = eqvL xs ys
  | [], [], _, _ => by simp [toPyL, PyData.eqvAll, eqvL]
  | [], _ :: _, _, _ => by simp [toPyL, PyData.eqvAll, eqvL]
  | _ :: _, [], _, _ => by simp [toPyL, PyData.eqvAll, eqvL]
  | x :: xs, y :: ys, hx, hy => by
    simp only [goodL, Bool.and_eq_true] at hx hy
    simp only [toPyL, PyData.eqvAll, eqvL, eqv_py x y hx.1 hy.1, eqvL_py xs ys hx.2 hy.2]
end
mutual
theorem lay_py : ∀ x : D, goodD x = true → (toPy x).canLay0 = true
  | .non, _ => by simp [toPy, PyData.canLay0]
  | .bl _, _ => by simp [toPy, PyData.canLay0]
  | .int _, _ => by simp [toPy, PyData.canLay0]
  | .str x, h => by simpa [toPy, PyData.canLay0, PyData.strOk, goodD] using h
  | .lst xs, h => by simp only [toPy, PyData.canLay0]; exact layL_py xs (by simpa [goodD] using h)
  | .tup xs, h => by simp only [toPy, PyData.canLay0]; exact layL_py xs (by simpa [goodD] using h)
  | .fro _, h => by simp [goodD] at h
  | .kt _, h => by simp [goodD] at h
  | .ref _, h => by simp [goodD] at h
theorem layL_py : ∀ xs : List D, goodL xs = true → PyData.canLayAll0 (toPyL xs) = true
  | [], _ => by simp [toPyL, PyData.canLayAll0]
  | x :: xs, h => by
    simp only [goodL, Bool.and_eq_true] at h
    simp only [toPyL, PyData.canLayAll0, lay_py x h.1, layL_py xs h.2, Bool.and_self]
end
mutual
theorem dp_py : ∀ x : D, goodD x = true → (toPy x).depth = dpD x
  | .non, _ => by simp [toPy, PyData.depth, dpD]
  | .bl _, _ => by simp [toPy, PyData.depth, dpD]
  | .int _, _ => by simp [toPy, PyData.depth, dpD]
  | .str x, h => by simp [toPy, PyData.depth, dpD]
  | .lst xs, h => by simp only [toPy, PyData.depth, dpD]; rw [dpL_py xs (by simpa [goodD] using h)]
  | .tup xs, h => by simp only [toPy, PyData.depth, dpD]; rw [dpL_py xs (by simpa [goodD] using h)]
  | .fro _, h => by simp [goodD] at h
  | .kt _, h => by simp [goodD] at h
  | .ref _, h => by simp [goodD] at h
theorem dpL_py : ∀ xs : List D, goodL xs = true → PyData.depthAll (toPyL xs) = dpL xs
  | [], _ => by simp [toPyL, PyData.depthAll, dpL]
  | x :: xs, h => by
    simp only [goodL, Bool.and_eq_true] at h
    simp only [toPyL, PyData.depthAll, dpL, dp_py x h.1, dpL_py xs h.2]
end
mutual
theorem Rep.dp {A : List Addr} {G H : Hp} (sub : Same G H) : ∀ (d : D) (v : V), Rep K A G v d → goodD d = true → Dp K H v (toPy d)
  | .non, _, h, _ => by cases h; simp only [toPy]; exact .non
  | .bl b, _, h, _ => by cases h; simp only [toPy]; exact .bl b
  | .int i, _, h, _ => by cases h; simp only [toPy]; exact .int i
  | .str x, _, h, _ => by cases h; simp only [toPy]; exact .str x
  | .tup ds, _, h, g => by
    cases h with
    | tup hs hr =>
      simp only [toPy]
      exact .tup (.inl (.inl (sub _ _ hs))) (RepL.dp sub ds _ hr (by simpa [goodD] using g))
  | .lst ds, _, h, g => by
    cases h with
    | lst hs hr =>
      simp only [toPy]
      exact .lst (.inl (.inl (sub _ _ hs))) (RepL.dp sub ds _ hr (by simpa [goodD] using g))
  | .fro ds, _, h, g => by simp [goodD] at g
  | .kt ds, _, h, g => by simp [goodD] at g
  | .ref k, _, h, g => by simp [goodD] at g
theorem RepL.dp {A : List Addr} {G H : Hp} (sub : Same G H) : ∀ (ds : List D) (vs : List V), RepL K A G vs ds → goodL ds = true → DpAll K H vs (toPyL ds)
  | [], _, h, _ => by cases h; simp only [toPyL]; exact .nil
  | d :: ds, _, h, g => by
    simp only [goodL, Bool.and_eq_true] at g
    cases h with
    | cons h1 h2 =>
      simp only [toPyL]
      exact .cons (Rep.dp sub d _ h1 g.1) (RepL.dp sub ds _ h2 g.2)
end
mutual
/-- with other things for those of the store -/
def mapR (f : Nat → D) : D → D
  | .tup xs => .tup (mapRL f xs)
  | .lst xs => .lst (mapRL f xs)
  | .ref k => f k
  | .non => .non
  | .bl b => .bl b
  | .int i => .int i
  | .str x => .str x
  | .fro xs => .fro xs
  | .kt xs => .kt xs
def mapRL (f : Nat → D) : List D → List D
  | [] => []
  | x :: xs => mapR f x :: mapRL f xs
end
/-- lists of the store, as they stand, so many within one another -/
def dd : Nat → Store → D → D
  | 0, _, x => x
  | n + 1, M, x => mapR (fun k => match M[k]? with
    | some (.lst ds) => .lst (ds.map (dd n M))
    | _ => .ref k) x
def derD (M : Store) (x : D) : D := dd 3 M x
mutual
theorem mapR_good {f : Nat → D} : ∀ x : D, goodD x = true → mapR f x = x
  | .non, _ => by simp only [mapR]
  | .bl _, _ => by simp only [mapR]
  | .int _, _ => by simp only [mapR]
  | .str _, _ => by simp only [mapR]
  | .lst xs, h => by simp only [mapR]; rw [mapRL_good xs (by simpa [goodD] using h)]
  | .tup xs, h => by simp only [mapR]; rw [mapRL_good xs (by simpa [goodD] using h)]
  | .fro _, h => by simp [goodD] at h
  | .kt _, h => by simp [goodD] at h
  | .ref _, h => by simp [goodD] at h
theorem mapRL_good {f : Nat → D} : ∀ xs : List D, goodL xs = true → mapRL f xs = xs
  | [], _ => by simp only [mapRL]
  | x :: xs, h => by
    simp only [goodL, Bool.and_eq_true] at h
    simp only [mapRL, mapR_good x h.1, mapRL_good xs h.2]
end
theorem der_good (M : Store) {x : D} (h : goodD x = true) : derD M x = x := by
  unfold derD dd
  exact mapR_good x h
mutual
theorem Rep.mapR {A : List Addr} {G H : Hp} (sub : Same G H) {f : Nat → D} (hf : ∀ k v, Rep K A G v (.ref k) → goodD (f k) = true → Dp K H v (toPy (f k))) : ∀ (d : D) (v : V), Rep K A G v d → goodD (TP.mapR f d) = true → Dp K H v (toPy (TP.mapR f d))
  | .non, _, h, _ => by cases h; simp only [TP.mapR, toPy]; exact .non
  | .bl b, _, h, _ => by cases h; simp only [TP.mapR, toPy]; exact .bl b
  | .int i, _, h, _ => by cases h; simp only [TP.mapR, toPy]; exact .int i
  | .str x, _, h, _ => by cases h; simp only [TP.mapR, toPy]; exact .str x
  | .tup ds, _, h, g => by
    cases h with
    | tup hs hr =>
      simp only [TP.mapR, toPy]
      simp only [TP.mapR, goodD] at g
      exact .tup (.inl (.inl (sub _ _ hs))) (RepL.mapR sub hf ds _ hr g)
  | .lst ds, _, h, g => by
    cases h with
    | lst hs hr =>
      simp only [TP.mapR, toPy]
      simp only [TP.mapR, goodD] at g
      exact .lst (.inl (.inl (sub _ _ hs))) (RepL.mapR sub hf ds _ hr g)
  | .fro ds, _, h, g => by simp [TP.mapR, goodD] at g
  | .kt ds, _, h, g => by simp [TP.mapR, goodD] at g
  | .ref k, v, h, g => by
    simp only [TP.mapR] at g ⊢
    exact hf k v h g
theorem RepL.mapR {A : List Addr} {G H : Hp} (sub : Same G H) {f : Nat → D} (hf : ∀ k v, Rep K A G v (.ref k) → goodD (f k) = true → Dp K H v (toPy (f k))) : ∀ (ds : List D) (vs : List V), RepL K A G vs ds → goodL (mapRL f ds) = true → DpAll K H vs (toPyL (mapRL f ds))
  | [], _, h, _ => by cases h; simp only [mapRL, toPyL]; exact .nil
  | d :: ds, _, h, g => by
    simp only [mapRL, goodL, Bool.and_eq_true] at g
    cases h with
    | cons h1 h2 =>
      simp only [mapRL, toPyL]
      exact .cons (Rep.mapR sub hf d _ h1 g.1) (RepL.mapR sub hf ds _ h2 g.2)
end
theorem RepL.each {w : Wd} {g : D → D} (hg : ∀ d v, Rep K w.A w.G v d → goodD (g d) = true → Dp K w.H v (toPy (g d))) : ∀ (ds : List D) (vs : List V), RepL K w.A w.G vs ds → goodL (ds.map g) = true → DpAll K w.H vs (toPyL (ds.map g))
  | [], _, h, _ => by cases h; exact .nil
  | d :: ds, _, h, z => by
    rw [List.map_cons] at z ⊢
    simp only [goodL, Bool.and_eq_true] at z
    cases h with
    | cons h1 h2 =>
      simp only [toPyL]
      exact .cons (hg d _ h1 z.1) (RepL.each hg ds _ h2 z.2)
theorem Rep.dd {w : Wd} (ok : w.Ok K) : ∀ (n : Nat) (d : D) (v : V), Rep K w.A w.G v d → goodD (TP.dd n w.M d) = true → Dp K w.H v (toPy (TP.dd n w.M d))
  | 0, d, v, r, g => by
    unfold TP.dd at g ⊢
    exact Rep.dp ok.sub d v r g
  | n + 1, d, v, r, g => by
    unfold TP.dd at g ⊢
    refine Rep.mapR ok.sub (fun k v r g => ?_) d v r g
    cases r with
    | @ref a k ek =>
      split at g
      · rename_i ds e2
        obtain ⟨a', e3, vs, h1, h2⟩ := ok.mos k _ e2
        rw [ek] at e3; cases e3
        simp only [toPy]
        simp only [goodD] at g
        exact .lst (.inl (.inl h1)) (RepL.each (fun d v r g => Rep.dd ok n d v r g) ds _ h2 g)
      · simp [goodD] at g
theorem RepB.dp {w : Wd} (ok : w.Ok K) {v : V} {x : D} (r : RepB K w v x) (g : goodD (derD w.M x) = true) : Dp K w.H v (toPy (derD w.M x)) := by
  rcases r with r | ⟨p, vs, ds, rfl, rfl, h1, _, _, h4⟩
  · exact Rep.dd ok 3 x v r g
  · unfold derD TP.dd at g ⊢
    simp only [TP.mapR, toPy]
    simp only [TP.mapR, goodD] at g
    refine .lst (.inl (.inl h1)) (RepL.mapR ok.sub (fun k v r g => ?_) ds _ h4 g)
    have r3 := Rep.dd ok 3 (.ref k) v r
    unfold TP.dd at r3
    simp only [TP.mapR] at r3
    exact r3 g
/-- two texts -/
def strP : D → D → Option Bool
  | .str i, .str j => some (decide (i = j))
  | _, _ => none
def rEqW (K : PySem.W.Frag) : R2 := fun x y H Q => (∃ i j, x = .str i ∧ y = .str j ∧ Q (.bl (decide (i = j))) H) ∨ ∃ d e, Dp K H x d ∧ Dp K H y e ∧ d.canLay0 = true ∧ e.canLay0 = true ∧ min d.depth e.depth ≤ 190 ∧ Q (.bl (PyData.eqv d e)) H
def rNeW (K : PySem.W.Frag) : R2 := fun x y H Q => (∃ i j, x = .str i ∧ y = .str j ∧ Q (.bl (!decide (i = j))) H) ∨ ∃ d e, Dp K H x d ∧ Dp K H y e ∧ d.canLay0 = true ∧ e.canLay0 = true ∧ min d.depth e.depth ≤ 190 ∧ Q (.bl (!PyData.eqv d e)) H
theorem op_eqW (hu : X.A.units + 200 < cLine) : OpR X (compareOp .Eq) (rEqW X.K) := by
  intro pins s σ H x y v u Q I rx ry h
  rcases h with ⟨i, j, rfl, rfl, q⟩ | h
  · refine op_eq pins s σ H (.str i) (.str j) v u Q I rx ry ⟨rfl, ?_⟩
    rw [show decide (V.str i = V.str j) = decide (i = j) by rw [Bool.eq_iff_iff]; simp]
    exact q
  obtain ⟨d, e, hd, he, sd, se, hm, q⟩ := h
  obtain ⟨as, r1⟩ := Dp.reads I d x v hd rx
  obtain ⟨bs, r2⟩ := Dp.reads I e y u he ry
  exact SeqAt.compareEq_reads r1 r2 sd se (by omega) ⟨.bl _, H, I, rfl, q⟩
theorem op_neW (hu : X.A.units + 200 < cLine) : OpR X (compareOp .NotEq) (rNeW X.K) := by
  intro pins s σ H x y v u Q I rx ry h
  rcases h with ⟨i, j, rfl, rfl, q⟩ | h
  · refine op_ne pins s σ H (.str i) (.str j) v u Q I rx ry ⟨rfl, ?_⟩
    rw [show decide (V.str i = V.str j) = decide (i = j) by rw [Bool.eq_iff_iff]; simp]
    exact q
  obtain ⟨d, e, hd, he, sd, se, hm, q⟩ := h
  obtain ⟨as, r1⟩ := Dp.reads I d x v hd rx
  obtain ⟨bs, r2⟩ := Dp.reads I e y u he ry
  exact SeqAt.compareNe_reads r1 r2 sd se (by omega) ⟨.bl _, H, I, rfl, q⟩
def eqD (M : Store) (x y : D) : Option Slot := match strP x y with
  | some b => some (.val (.bl b))
  | none => if goodD (derD M x) && goodD (derD M y) && decide (min (dpD (derD M x)) (dpD (derD M y)) ≤ 190) then some (.val (.bl (eqvD (derD M x) (derD M y)))) else none
def neD (M : Store) (x y : D) : Option Slot := match strP x y with
  | some b => some (.val (.bl !b))
  | none => if goodD (derD M x) && goodD (derD M y) && decide (min (dpD (derD M x)) (dpD (derD M y)) ≤ 190) then some (.val (.bl (!eqvD (derD M x) (derD M y)))) else none
theorem strP_at {x y : D} {b : Bool} (h : strP x y = some b) : ∃ i j, x = .str i ∧ y = .str j ∧ b = decide (i = j) := by
  unfold strP at h
  split at h
  · cases h; exact ⟨_, _, rfl, rfl, rfl⟩
  · cases h
theorem p_eq : Prim2 K (rEqW K) eqD := by
  intro w vx vy x y s Q ok rx ry h k
  unfold eqD at h
  split at h
  · rename_i b hb
    obtain ⟨i, j, rfl, rfl, rfl⟩ := strP_at hb
    cases h
    cases str_at rx
    cases str_at ry
    exact .inl ⟨i, j, rfl, rfl, ans ok k fun _ _ => .bl _⟩
  split at h
  · rename_i hc
    simp only [Bool.and_eq_true, decide_eq_true_eq] at hc
    obtain ⟨⟨h1, h2⟩, h3⟩ := hc
    cases h
    refine .inr ⟨_, _, rx.dp ok h1, ry.dp ok h2, lay_py _ h1, lay_py _ h2, by rw [dp_py _ h1, dp_py _ h2]; exact h3, ?_⟩
    rw [eqv_py _ _ h1 h2]
    exact ans ok k fun _ _ => .bl _
  · cases h
theorem p_ne : Prim2 K (rNeW K) neD := by
  intro w vx vy x y s Q ok rx ry h k
  unfold neD at h
  split at h
  · rename_i b hb
    obtain ⟨i, j, rfl, rfl, rfl⟩ := strP_at hb
    cases h
    cases str_at rx
    cases str_at ry
    exact .inl ⟨i, j, rfl, rfl, ans ok k fun _ _ => .bl _⟩
  split at h
  · rename_i hc
    simp only [Bool.and_eq_true, decide_eq_true_eq] at hc
    obtain ⟨⟨h1, h2⟩, h3⟩ := hc
    cases h
    refine .inr ⟨_, _, rx.dp ok h1, ry.dp ok h2, lay_py _ h1, lay_py _ h2, by rw [dp_py _ h1, dp_py _ h2]; exact h3, ?_⟩
    rw [eqv_py _ _ h1 h2]
    exact ans ok k fun _ _ => .bl _
  · cases h
/-! ### is -/
def isD (_ : Store) (x y : D) : Option Slot := match x, y with
  | .non, .non => some (.val (.bl true))
  | _, .non => some (.val (.bl false))
  | .bl a, .bl b => some (.val (.bl (decide (a = b))))
  | _, _ => none
def isntD (_ : Store) (x y : D) : Option Slot := match x, y with
  | .non, .non => some (.val (.bl false))
  | _, .non => some (.val (.bl true))
  | .bl a, .bl b => some (.val (.bl (!decide (a = b))))
  | _, _ => none
def rIsA : R2 := fun x y H Q => (y = .non ∧ Q (.bl (decide (x = .non))) H) ∨ rIsB x y H Q
def rIsntA : R2 := fun x y H Q => (y = .non ∧ Q (.bl (!decide (x = .non))) H) ∨ rNotB x y H Q
theorem op_isA : OpR X (compareOp .Is) rIsA := op_isN.or op_isBl
theorem op_isntA : OpR X (compareOp .IsNot) rIsntA := op_notN.or op_notBl
theorem non_iff {w : Wd} {v : V} {x : D} (r : RepB K w v x) (h : x ≠ .non) : v ≠ .non := fun e => by
  subst e
  rcases r with r | ⟨p, _, _, e, _⟩
  · cases r; exact h rfl
  · cases e
theorem p_is : Prim2 K rIsA isD := by
  intro w vx vy x y s Q ok rx ry h k
  unfold isD at h
  split at h
  · cases h
    cases non_at rx
    cases non_at ry
    exact .inl ⟨rfl, ans ok k fun _ _ => .bl _⟩
  · rename_i hx
    cases h
    cases non_at ry
    refine .inl ⟨rfl, ?_⟩
    rw [decide_eq_false (non_iff rx (fun e => hx e))]
    exact ans ok k fun _ _ => .bl _
  · cases h
    cases bl_at rx
    cases bl_at ry
    exact .inr ⟨_, _, rfl, rfl, ans ok k fun _ _ => .bl _⟩
  · cases h
theorem p_isnt : Prim2 K rIsntA isntD := by
  intro w vx vy x y s Q ok rx ry h k
  unfold isntD at h
  split at h
  · cases h
    cases non_at rx
    cases non_at ry
    exact .inl ⟨rfl, ans ok k fun _ _ => .bl _⟩
  · rename_i hx
    cases h
    cases non_at ry
    refine .inl ⟨rfl, ?_⟩
    rw [decide_eq_false (non_iff rx (fun e => hx e))]
    exact ans ok k fun _ _ => .bl _
  · cases h
    cases bl_at rx
    cases bl_at ry
    exact .inr ⟨_, _, rfl, rfl, ans ok k fun _ _ => .bl _⟩
  · cases h
end
end TP
/-! TPg: more built-in things; the store; a def's entry. -/
namespace TP
open PySem PySem.Spec PyProof.Rows L2
section
variable {K : PySem.W.Frag} {E : Wish} {X : Cx} {e : Expr}
/-! ### subscripts -/
def idxD (M : Store) (x y : D) : Option Slot := match x, y with
  | .tup ds, .int i => (atI ds i).map Slot.val
  | .kt ds, .int i => (atI ds i).map Slot.val
  | .str z, .int i => if z.length ≤ sizeLine then (atI z.cps.toList i).map fun c => .val (.str ⟨#[c]⟩) else none
  | x, .int i => match seqOf M x with
    | some ds => (atI ds i).map Slot.val
    | none => none
  | _, _ => none
theorem RepL.atI {A : List Addr} {G : Hp} {vs : List V} {ds : List D} {i : Int} {d : D} (h : RepL K A G vs ds) (e : atI ds i = some d) : ∃ v, L2.atI vs i = some v ∧ Rep K A G v d := by
  unfold L2.atI at e ⊢
  rw [h.length]
  cases q : ixN ds.length i with
  | none => rw [q] at e; cases e
  | some j => rw [q] at e; exact h.get e
theorem p_idx : Prim2 K (rIx K) idxD := by
  intro w vx vy x y s Q ok rx ry h k
  unfold idxD at h
  split at h
  · rename_i ds i
    cases q : L2.atI ds i with
    | none => rw [q] at h; cases h
    | some d =>
      rw [q] at h
      cases h
      obtain ⟨p, vs, rfl, hs, rl⟩ := tup_at ok rx
      cases int_at ry
      obtain ⟨v, hv, rv⟩ := rl.atI q
      exact .inr (.inl ⟨p, vs, i, v, rfl, rfl, hs, hv, k v w (Step.refl ok) rfl rv⟩)
  · rename_i ds i
    cases q : L2.atI ds i with
    | none => rw [q] at h; cases h
    | some d =>
      rw [q] at h
      cases h
      obtain ⟨p, vs, rfl, hs, rl⟩ := kt_at ok rx
      cases int_at ry
      obtain ⟨v, hv, rv⟩ := rl.atI q
      exact .inr (.inl ⟨p, vs, i, v, rfl, rfl, hs, hv, k v w (Step.refl ok) rfl rv⟩)
  · split at h
    · rename_i z i hz
      cases q : L2.atI z.cps.toList i with
      | none => rw [q] at h; cases h
      | some c =>
        rw [q] at h
        cases h
        cases str_at rx
        cases int_at ry
        exact .inr (.inr ⟨z, i, c, rfl, rfl, hz, q, ans ok k fun _ _ => .str _⟩)
    · cases h
  · rename_i i _ _ _
    split at h
    · rename_i ds e1
      cases q : L2.atI ds i with
      | none => rw [q] at h; cases h
      | some d =>
        rw [q] at h
        cases h
        obtain ⟨p, vs, rfl, hs, rl⟩ := seq_at ok rx e1
        cases int_at ry
        obtain ⟨v, hv, rv⟩ := rl.atI q
        exact .inl ⟨p, vs, i, v, rfl, rfl, hs, hv, k v w (Step.refl ok) rfl rv⟩
    · cases h
  · cases h
theorem x_ix {fa fb : FD} (h : PE X e (tOp (rIx K) (tR K E fa) (tR K E fb))) : PE X e (tE K E (dOp2 idxD fa fb)) := x_op2 h p_idx
/-! ### slices -/
def cutD (xs : List D) (lo hi : Option Int) : List D := (xs.drop (HT.sIx xs.length 0 lo)).take (HT.sIx xs.length xs.length hi - HT.sIx xs.length 0 lo)
theorem RepL.cut {A : List Addr} {G : Hp} {vs : List V} {ds : List D} (h : RepL K A G vs ds) (lo hi : Option Int) : RepL K A G (cutV vs lo hi) (cutD ds lo hi) := by
  unfold cutV cutD
  rw [h.length]
  exact (h.drop _).take _
def slD (M : Store) (x : D) (lo hi : Option Int) : Option Slot := match x with
  | .tup ds => some (.val (.tup (cutD ds lo hi)))
  | .str z => if z.length ≤ sizeLine then some (.val (.str (cutS z lo hi))) else none
  | x => match seqOf M x with
    | some ds => some (.own (cutD ds lo hi))
    | none => none
def rSlA3 (K : PySem.W.Frag) : V → Option Int → Option Int → Hp → VK → Prop := fun x lo hi H Q => rSlA K x lo hi H Q ∨ rSlS x lo hi H Q ∨ rSlL K x lo hi H Q
theorem sl_A3 : SlR X (rSlA3 X.K) := sl_tupA.or (sl_str.or sl_list)
theorem p_sl : PrimS K (rSlA3 K) slD := by
  intro w vx x lo hi s Q ok rx h k
  unfold slD at h
  split at h
  · rename_i ds
    cases h
    obtain ⟨p, vs, rfl, hs, rl⟩ := tup_at ok rx
    refine .inl ⟨p, vs, rfl, hs, fun hw => ?_, fun _ q hq => ?_⟩
    · have e : cutD ds lo hi = ds := by
        unfold cutD
        rw [← rl.length, hw.1, hw.2, List.drop_zero, Nat.sub_zero, rl.length, List.take_length]
      rw [e] at k
      rcases rx with rx | ⟨_, _, _, _, e, _⟩
      · exact k _ w (Step.refl ok) rfl rx
      · cases e
    · have st := ok.fresh hq (.tup (cutV vs lo hi))
      exact k _ _ st rfl (.tup upd_same (st.repL (rl.cut lo hi)))
  · split at h
    · rename_i hz
      cases h
      cases str_at rx
      exact .inr (.inl ⟨_, rfl, hz, ans ok k fun _ _ => .str _⟩)
    · cases h
  · split at h
    · rename_i e1
      cases h
      obtain ⟨p, vs, rfl, hs, rl⟩ := seq_at ok rx e1
      refine .inr (.inr ⟨p, vs, rfl, hs, fun q hq => ?_⟩)
      exact k _ _ (ok.fresh0 hq _) rfl (own_new (Step.refl ok) hq (rl.cut lo hi))
    · cases h
/-! ### in -/
def flatD : D → Bool
  | .non => true
  | .bl _ => true
  | .int _ => true
  | .str _ => true
  | _ => false
def elemsD (M : Store) : D → Option (List D)
  | .tup ds => some ds
  | .kt ds => some ds
  | x => seqOf M x
theorem elems_at {w : Wd} (ok : w.Ok K) {v : V} {x : D} {ds : List D} (r : RepB K w v x) (h : elemsD w.M x = some ds) : ∃ p vs, v = .ref p ∧ (SqL K w.H p vs ∨ SqT K w.H p vs) ∧ RepL K w.A w.G vs ds := by
  by_cases hf : ∃ es, x = .tup es
  · obtain ⟨es, rfl⟩ := hf
    cases h
    obtain ⟨p, vs, e, h1, h2⟩ := tup_at ok r
    exact ⟨p, vs, e, .inr h1, h2⟩
  by_cases hk : ∃ es, x = .kt es
  · obtain ⟨es, rfl⟩ := hk
    cases h
    obtain ⟨p, vs, e, h1, h2⟩ := kt_at ok r
    exact ⟨p, vs, e, .inr h1, h2⟩
  · have h' : seqOf w.M x = some ds := by
      cases x <;> first | exact h | exact absurd ⟨_, rfl⟩ hf | exact absurd ⟨_, rfl⟩ hk
    obtain ⟨p, vs, e, h1, h2⟩ := seq_at ok r h'
    exact ⟨p, vs, e, .inl h1, h2⟩
def inStr (i j : Str) : Bool := !(Builtin.Str.occurrences j i 0 j.length 1).isEmpty
def inD (M : Store) (x y : D) : Option Slot := match x, y with
  | .str i, .str j => some (.val (.bl (inStr i j)))
  | x, y => match elemsD M y with
    | some ds => if flatD x && ds.all flatD then some (.val (.bl (ds.any fun d => eqvD d x))) else none
    | none => none
def notInD (M : Store) (x y : D) : Option Slot := match x, y with
  | .str i, .str j => some (.val (.bl (!inStr i j)))
  | x, y => match elemsD M y with
    | some ds => if flatD x && ds.all flatD then some (.val (.bl (!ds.any fun d => eqvD d x))) else none
    | none => none
def rInA (K : PySem.W.Frag) : R2 := fun x y H Q => (∃ i j, x = .str i ∧ y = .str j ∧ Q (.bl (!(Builtin.Str.occurrences j i 0 j.length 1).isEmpty)) H) ∨ rIn K false x y H Q
def rNotInA (K : PySem.W.Frag) : R2 := fun x y H Q => (∃ i j, x = .str i ∧ y = .str j ∧ Q (.bl (!(!(Builtin.Str.occurrences j i 0 j.length 1).isEmpty))) H) ∨ rIn K true x y H Q
theorem op_inA : OpR X (compareOp .In) (rInA X.K) := op_in_str.or op_in_seq
theorem op_notInA : OpR X (compareOp .NotIn) (rNotInA X.K) := op_notin_str.or op_notIn_seq
theorem flat_at {A : List Addr} {G : Hp} {v : V} {d : D} (r : Rep K A G v d) (h : flatD d = true) : flatV v = true ∧ ∀ {v' : V} {d' : D}, Rep K A G v' d' → flatD d' = true → eqV v v' = eqvD d d' := by
  cases r with
  | non => exact ⟨rfl, fun r' h' => by cases r' <;> first | (cases h'; done) | simp [eqV, eqvD]⟩
  | bl b => exact ⟨rfl, fun r' h' => by cases r' <;> first | (cases h'; done) | simp [eqV, eqvD]⟩
  | int i => exact ⟨rfl, fun r' h' => by cases r' <;> first | (cases h'; done) | simp [eqV, eqvD]⟩
  | str z => exact ⟨rfl, fun r' h' => by cases r' <;> first | (cases h'; done) | simp [eqV, eqvD]⟩
  | _ => cases h
theorem flats_at {A : List Addr} {G : Hp} {v : V} {d : D} (r : Rep K A G v d) (h : flatD d = true) : ∀ {vs : List V} {ds : List D}, RepL K A G vs ds → ds.all flatD = true → vs.all flatV = true ∧ inV v vs = ds.any fun z => eqvD z d
  | [], [], _, _ => ⟨rfl, rfl⟩
  | v1 :: vs, d1 :: ds, .cons r1 rl, hs => by
    simp only [List.all_cons, Bool.and_eq_true] at hs
    obtain ⟨a, b⟩ := flats_at r h rl hs.2
    obtain ⟨c, f⟩ := flat_at r1 hs.1
    refine ⟨by simp only [List.all_cons, c, a, Bool.and_self], ?_⟩
    unfold inV at b ⊢
    rw [List.any_cons, List.any_cons, b, f r h]
theorem flatB {w : Wd} {v : V} {x : D} (r : RepB K w v x) (h : flatD x = true) : Rep K w.A w.G v x := by
  rcases r with r | ⟨_, _, _, _, rfl, _⟩
  · exact r
  · cases h
theorem p_in : Prim2 K (rInA K) inD := by
  intro w vx vy x y s Q ok rx ry h k
  unfold inD at h
  split at h
  · cases h
    cases str_at rx
    cases str_at ry
    exact .inl ⟨_, _, rfl, rfl, ans ok k fun _ _ => .bl _⟩
  · split at h
    · rename_i ds e1
      split at h
      · rename_i hc
        simp only [Bool.and_eq_true] at hc
        cases h
        obtain ⟨p, vs, rfl, hs, rl⟩ := elems_at ok ry e1
        have r := flatB rx hc.1
        obtain ⟨a, b⟩ := flats_at r hc.1 rl hc.2
        refine .inr ⟨p, vs, rfl, hs, (flat_at r hc.1).1, a, ?_⟩
        rw [b]
        exact ans ok k fun _ _ => .bl _
      · cases h
    · cases h
theorem p_notIn : Prim2 K (rNotInA K) notInD := by
  intro w vx vy x y s Q ok rx ry h k
  unfold notInD at h
  split at h
  · cases h
    cases str_at rx
    cases str_at ry
    exact .inl ⟨_, _, rfl, rfl, ans ok k fun _ _ => .bl _⟩
  · split at h
    · rename_i ds e1
      split at h
      · rename_i hc
        simp only [Bool.and_eq_true] at hc
        cases h
        obtain ⟨p, vs, rfl, hs, rl⟩ := elems_at ok ry e1
        have r := flatB rx hc.1
        obtain ⟨a, b⟩ := flats_at r hc.1 rl hc.2
        refine .inr ⟨p, vs, rfl, hs, (flat_at r hc.1).1, a, ?_⟩
        rw [b]
        exact ans ok k fun _ _ => .bl _
      · cases h
    · cases h
/-! ### len, min, max, int, list, tuple -/
def lenD (M : Store) (ds : List D) : Option Slot := match ds with
  | [.str z] => if z.length ≤ sizeLine then some (.val (.int z.length)) else none
  | [x] => match elemsD M x with
    | some es => some (.val (.int es.length))
    | none => none
  | _ => none
def rLenA (K : PySem.W.Frag) : List V → Hp → VK → Prop := fun xs H Q => (∃ p ys, xs = [.ref p] ∧ (SqL K H p ys ∨ SqT K H p ys) ∧ Q (.int ys.length) H) ∨ ∃ z, xs = [.str z] ∧ z.length ≤ sizeLine ∧ Q (.int z.length) H
theorem call_lenA : CallR X (.builtin "len") (rLenA X.K) := call_len_seq.or call_len_str
theorem p_len : PrimN K (rLenA K) lenD := by
  intro w vs ds s Q ok rl h k
  unfold lenD at h
  split at h
  · split at h
    · rename_i hz
      cases h
      obtain ⟨v, rfl, rv⟩ := rl.one
      cases str_at rv
      exact .inr ⟨_, rfl, hz, ans ok k fun _ _ => .int _⟩
    · cases h
  · split at h
    · rename_i es e1
      cases h
      obtain ⟨v, rfl, rv⟩ := rl.one
      obtain ⟨p, us, rfl, hs, r⟩ := elems_at ok rv e1
      refine .inl ⟨p, us, rfl, hs, ?_⟩
      rw [r.length]
      exact ans ok k fun _ _ => .int _
    · cases h
  · cases h
def min2D (_ : Store) (ds : List D) : Option Slot := match ds with
  | [.int i, .int j] => some (.val (.int (if j < i then j else i)))
  | _ => none
def max2D (_ : Store) (ds : List D) : Option Slot := match ds with
  | [.int i, .int j] => some (.val (.int (if j > i then j else i)))
  | _ => none
theorem p_min2 : PrimN K (fun xs H Q => ∃ i j, xs = [.int i, .int j] ∧ Q (.int (if j < i then j else i)) H) min2D := by
  intro w vs ds s Q ok rl h k
  unfold min2D at h
  split at h
  · cases h
    obtain ⟨v, v', rfl, rv, rv'⟩ := rl.two
    cases int_at rv
    cases int_at rv'
    exact ⟨_, _, rfl, ans ok k fun _ _ => .int _⟩
  · cases h
theorem p_max2 : PrimN K (fun xs H Q => ∃ i j, xs = [.int i, .int j] ∧ Q (.int (if j > i then j else i)) H) max2D := by
  intro w vs ds s Q ok rl h k
  unfold max2D at h
  split at h
  · cases h
    obtain ⟨v, v', rfl, rv, rv'⟩ := rl.two
    cases int_at rv
    cases int_at rv'
    exact ⟨_, _, rfl, ans ok k fun _ _ => .int _⟩
  · cases h
def intD (_ : Store) (ds : List D) : Option Slot := match ds with
  | [.int i] => some (.val (.int i))
  | [.bl b] => some (.val (.int (if b then 1 else 0)))
  | _ => none
theorem p_int : PrimN K (fun xs H Q => (∃ i, xs = [.int i] ∧ Q (.int i) H) ∨ ∃ k, xs = [.bl k] ∧ Q (.int (if k then 1 else 0)) H) intD := by
  intro w vs ds s Q ok rl h k
  unfold intD at h
  split at h
  · cases h
    obtain ⟨v, rfl, rv⟩ := rl.one
    cases int_at rv
    exact .inl ⟨_, rfl, ans ok k fun _ _ => .int _⟩
  · cases h
    obtain ⟨v, rfl, rv⟩ := rl.one
    cases bl_at rv
    exact .inr ⟨_, rfl, ans ok k fun _ _ => .int _⟩
  · cases h
def absD (_ : Store) (ds : List D) : Option Slot := match ds with
  | [.int i] => some (.val (.int (if i < 0 then -i else i)))
  | _ => none
theorem p_abs : PrimN K (fun xs H Q => ∃ i, xs = [.int i] ∧ Q (.int (if i < 0 then -i else i)) H) absD := by
  intro w vs ds s Q ok rl h k
  unfold absD at h
  split at h
  · cases h
    obtain ⟨v, rfl, rv⟩ := rl.one
    cases int_at rv
    exact ⟨_, rfl, ans ok k fun _ _ => .int _⟩
  · cases h
def listD (M : Store) (ds : List D) : Option Slot := match ds with
  | [x] => (elemsD M x).map Slot.own
  | _ => none
theorem p_list : PrimN K (fun xs H Q => ∃ p ys, xs = [.ref p] ∧ (SqL K H p ys ∨ SqT K H p ys) ∧ ∀ l, H l = none → Q (.ref l) (upd H l (.lst ys))) listD := by
  intro w vs ds s Q ok rl h k
  unfold listD at h
  split at h
  · rename_i x
    cases q : elemsD w.M x with
    | none => rw [q] at h; cases h
    | some es =>
      rw [q] at h
      cases h
      obtain ⟨v, rfl, rv⟩ := rl.one
      obtain ⟨p, us, rfl, hs, r⟩ := elems_at ok rv q
      exact ⟨p, us, rfl, hs, fun l hl => k _ _ (ok.fresh0 hl _) rfl (own_new (Step.refl ok) hl r)⟩
  · cases h
def tupleD (M : Store) (ds : List D) : Option Slot := match ds with
  | [.tup es] => some (.val (.tup es))
  | [x] => (seqOf M x).map fun es => .val (.tup es)
  | _ => none
theorem p_tuple : PrimN K (fun xs H Q => ∃ p ys, xs = [.ref p] ∧ ((SqL K H p ys ∧ ∀ l, H l = none → Q (.ref l) (upd H l (.tup ys))) ∨ (SqT K H p ys ∧ Q (.ref p) H))) tupleD := by
  intro w vs ds s Q ok rl h k
  unfold tupleD at h
  split at h
  · cases h
    obtain ⟨v, rfl, rv⟩ := rl.one
    obtain ⟨p, us, rfl, hs, r⟩ := tup_at ok rv
    rcases rv with rv | ⟨_, _, _, _, e, _⟩
    · exact ⟨p, us, rfl, .inr ⟨hs, k _ w (Step.refl ok) rfl rv⟩⟩
    · cases e
  · rename_i x _
    cases q : seqOf w.M x with
    | none => rw [q] at h; cases h
    | some es =>
      rw [q] at h
      cases h
      obtain ⟨v, rfl, rv⟩ := rl.one
      obtain ⟨p, us, rfl, hs, r⟩ := seq_at ok rv q
      refine ⟨p, us, rfl, .inl ⟨hs, fun l hl => ?_⟩⟩
      have st := ok.fresh hl (.tup us)
      exact k _ _ st rfl (.tup upd_same (st.repL r))
  · cases h
/-! ### all, any, sum of lists of bools, ints -/
def blsOf : List D → Option (List Bool)
  | [] => some []
  | .bl b :: ds => (blsOf ds).map (b :: ·)
  | _ => none
def intsOf : List D → Option (List Int)
  | [] => some []
  | .int b :: ds => (intsOf ds).map (b :: ·)
  | _ => none
theorem bls_at {A : List Addr} {G : Hp} : ∀ {ds : List D} {vs : List V} {bs : List Bool}, RepL K A G vs ds → blsOf ds = some bs → vs = bs.map V.bl
  | [], _, _, r, h => by cases r; cases h; rfl
  | .bl b :: ds, _, bs, r, h => by
    cases r with
    | cons r1 r2 =>
      simp only [blsOf] at h
      cases q : blsOf ds with
      | none => rw [q] at h; cases h
      | some cs =>
        rw [q] at h
        cases h
        cases r1
        rw [bls_at r2 q]
        rfl
  | .non :: _, _, _, _, h => by cases h
  | .int _ :: _, _, _, _, h => by cases h
  | .str _ :: _, _, _, _, h => by cases h
  | .tup _ :: _, _, _, _, h => by cases h
  | .lst _ :: _, _, _, _, h => by cases h
  | .fro _ :: _, _, _, _, h => by cases h
  | .kt _ :: _, _, _, _, h => by cases h
  | .ref _ :: _, _, _, _, h => by cases h
theorem ints_at {A : List Addr} {G : Hp} : ∀ {ds : List D} {vs : List V} {bs : List Int}, RepL K A G vs ds → intsOf ds = some bs → vs = bs.map V.int
  | [], _, _, r, h => by cases r; cases h; rfl
  | .int b :: ds, _, bs, r, h => by
    cases r with
    | cons r1 r2 =>
      simp only [intsOf] at h
      cases q : intsOf ds with
      | none => rw [q] at h; cases h
      | some cs =>
        rw [q] at h
        cases h
        cases r1
        rw [ints_at r2 q]
        rfl
  | .non :: _, _, _, _, h => by cases h
  | .bl _ :: _, _, _, _, h => by cases h
  | .str _ :: _, _, _, _, h => by cases h
  | .tup _ :: _, _, _, _, h => by cases h
  | .lst _ :: _, _, _, _, h => by cases h
  | .fro _ :: _, _, _, _, h => by cases h
  | .kt _ :: _, _, _, _, h => by cases h
  | .ref _ :: _, _, _, _, h => by cases h
def allD (M : Store) (ds : List D) : Option Slot := match ds with
  | [x] => match seqOf M x with
    | some es => (blsOf es).map fun bs => .val (.bl (bs.all id))
    | none => none
  | _ => none
def anyD (M : Store) (ds : List D) : Option Slot := match ds with
  | [x] => match seqOf M x with
    | some es => (blsOf es).map fun bs => .val (.bl (bs.any id))
    | none => none
  | _ => none
def sumD (M : Store) (ds : List D) : Option Slot := match ds with
  | [x] => match seqOf M x with
    | some es => (intsOf es).map fun bs => .val (.int bs.sum)
    | none => none
  | _ => none
theorem p_all : PrimN K (rAll K) allD := by
  intro w vs ds s Q ok rl h k
  unfold allD at h
  split at h
  · split at h
    · rename_i es e1
      cases q : blsOf es with
      | none => rw [q] at h; cases h
      | some bs =>
        rw [q] at h
        cases h
        obtain ⟨v, rfl, rv⟩ := rl.one
        obtain ⟨p, us, rfl, hs, r⟩ := seq_at ok rv e1
        cases bls_at r q
        exact ⟨p, bs, rfl, hs, ans ok k fun _ _ => .bl _⟩
    · cases h
  · cases h
theorem p_any : PrimN K (rAny K) anyD := by
  intro w vs ds s Q ok rl h k
  unfold anyD at h
  split at h
  · split at h
    · rename_i es e1
      cases q : blsOf es with
      | none => rw [q] at h; cases h
      | some bs =>
        rw [q] at h
        cases h
        obtain ⟨v, rfl, rv⟩ := rl.one
        obtain ⟨p, us, rfl, hs, r⟩ := seq_at ok rv e1
        cases bls_at r q
        exact ⟨p, bs, rfl, hs, ans ok k fun _ _ => .bl _⟩
    · cases h
  · cases h
theorem p_sum : PrimN K (rSum K) sumD := by
  intro w vs ds s Q ok rl h k
  unfold sumD at h
  split at h
  · split at h
    · rename_i es e1
      cases q : intsOf es with
      | none => rw [q] at h; cases h
      | some bs =>
        rw [q] at h
        cases h
        obtain ⟨v, rfl, rv⟩ := rl.one
        obtain ⟨p, us, rfl, hs, r⟩ := seq_at ok rv e1
        cases ints_at r q
        exact ⟨p, bs, rfl, hs, ans ok k fun _ _ => .int _⟩
    · cases h
  · cases h
/-! ### texts -/
def upperD (_ : Store) (x : D) (ds : List D) : Option Slot := match x, ds with
  | .str a, [] => if a.length ≤ 5592405 then some (.val (.str (Txt.upper a))) else none
  | _, _ => none
theorem p_upper : PrimM K (fun x xs H Q => ∃ a, x = .str a ∧ xs = [] ∧ a.length ≤ 5592405 ∧ Q (.str (Txt.upper a)) H) upperD := by
  intro w vx x vs ds s Q ok rx rl h k
  unfold upperD at h
  split at h
  · split at h
    · rename_i hz
      cases h
      cases str_at rx
      cases rl
      exact ⟨_, rfl, rfl, hz, ans ok k fun _ _ => .str _⟩
    · cases h
  · cases h
def strsOf : List D → Option (List Str)
  | [] => some []
  | .str b :: ds => (strsOf ds).map (b :: ·)
  | _ => none
theorem strs_at {A : List Addr} {G : Hp} : ∀ {ds : List D} {vs : List V} {bs : List Str}, RepL K A G vs ds → strsOf ds = some bs → vs = bs.map V.str
  | [], _, _, r, h => by cases r; cases h; rfl
  | .str b :: ds, _, bs, r, h => by
    cases r with
    | cons r1 r2 =>
      simp only [strsOf] at h
      cases q : strsOf ds with
      | none => rw [q] at h; cases h
      | some cs =>
        rw [q] at h
        cases h
        cases r1
        rw [strs_at r2 q]
        rfl
  | .non :: _, _, _, _, h => by cases h
  | .bl _ :: _, _, _, _, h => by cases h
  | .int _ :: _, _, _, _, h => by cases h
  | .tup _ :: _, _, _, _, h => by cases h
  | .lst _ :: _, _, _, _, h => by cases h
  | .fro _ :: _, _, _, _, h => by cases h
  | .kt _ :: _, _, _, _, h => by cases h
  | .ref _ :: _, _, _, _, h => by cases h
def joinD (M : Store) (x : D) (ds : List D) : Option Slot := match x, ds with
  | .str a, [y] => match elemsD M y with
    | some es => match strsOf es with
      | some ys => if (ys.map (·.length)).sum + ys.length * a.length ≤ 16777216 then some (.val (.str (Txt.join a ys))) else none
      | none => none
    | none => none
  | _, _ => none
theorem p_join : PrimM K (fun x xs H Q => ∃ a p, ∃ ys : List Str, x = .str a ∧ xs = [.ref p] ∧ (SqL K H p (ys.map V.str) ∨ SqT K H p (ys.map V.str)) ∧ (ys.map (·.length)).sum + ys.length * a.length ≤ 16777216 ∧ Q (.str (Txt.join a ys)) H) joinD := by
  intro w vx x vs ds s Q ok rx rl h k
  unfold joinD at h
  split at h
  · split at h
    · rename_i es e1
      split at h
      · rename_i ys e2
        split at h
        · rename_i hz
          cases h
          cases str_at rx
          obtain ⟨v, rfl, rv⟩ := rl.one
          obtain ⟨p, us, rfl, hs, r⟩ := elems_at ok rv e1
          cases strs_at r e2
          exact ⟨_, p, ys, rfl, rfl, hs, hz, ans ok k fun _ _ => .str _⟩
        · cases h
      · cases h
    · cases h
  · cases h
/-! ### isinstance with a built-in class -/
def clsD (M : Store) : D → Option String
  | .non => some "NoneType"
  | .bl _ => some "bool"
  | .int _ => some "int"
  | .str _ => some "str"
  | .tup _ => some "tuple"
  | .lst _ => some "list"
  | .fro _ => none
  | .kt _ => some "tuple"
  | .ref k => match M[k]? with
    | some (.lst _) => some "list"
    | some (.dK _) => some "dict"
    | some (.dT _) => some "dict"
    | _ => none
theorem cls_at {w : Wd} (ok : w.Ok K) {v : V} {x : D} {T : String} (r : RepB K w v x) (h : clsD w.M x = some T) : TyX K w.H v (.type T) := by
  cases x with
  | non => cases non_at r; cases h; exact .base .non
  | bl b => cases bl_at r; cases h; exact .base (.bl b)
  | int b => cases int_at r; cases h; exact .base (.int b)
  | str b => cases str_at r; cases h; exact .base (.str b)
  | tup ds =>
    cases h
    obtain ⟨p, vs, rfl, hs, rl⟩ := tup_at ok r
    rcases hs with (hs | ⟨o, hs⟩) | ⟨o, its, n, hk, hc, _⟩
    · exact .base (.tup hs)
    · exact .fTuple hs
    · exact .kTuple hk hc
  | lst ds =>
    cases h
    obtain ⟨p, vs, rfl, hs, rl⟩ := lst_at (ds := ds) ok r rfl
    exact .base (.lst hs)
  | fro ds => cases h
  | kt ds =>
    cases h
    obtain ⟨p, vs, rfl, hs, rl⟩ := kt_at ok r
    rcases hs with (hs | ⟨o, hs⟩) | ⟨o, its, n, hk, hc, _⟩
    · exact .base (.tup hs)
    · exact .fTuple hs
    · exact .kTuple hk hc
  | ref k =>
    simp only [clsD] at h
    rcases r with r | ⟨p, vs, es', rfl, e, _⟩
    · cases r with
      | @ref a k ek =>
        split at h
        · rename_i ds e2
          obtain ⟨a', e3, vs, h1, h2⟩ := ok.mos k _ e2
          rw [ek] at e3; cases e3
          cases h
          exact .base (.lst h1)
        · rename_i ds e2
          obtain ⟨a', e3, vs, h1, h2⟩ := ok.mos k _ e2
          rw [ek] at e3; cases e3
          cases h
          exact .base (.dK h1)
        · rename_i ds e2
          obtain ⟨a', e3, vs, h1, h2⟩ := ok.mos k _ e2
          rw [ek] at e3; cases e3
          cases h
          exact .base (.dT h1)
        · cases h
    · cases e
/-- subclasses among these -/
def subTy (a b : String) : Bool := a == b || (a == "bool" && b == "int")
def kitTys : List String := ["NoneType", "bool", "int", "str", "tuple", "list", "dict"]
theorem kit_all : ∀ a ∈ kitTys, ∀ b ∈ ["bool", "int", "str", "tuple", "list", "dict"], kitB a b = some (subTy a b) := by decide +kernel
theorem cls_in {M : Store} {x : D} {T : String} (h : clsD M x = some T) : T ∈ kitTys := by
  cases x <;> simp only [clsD] at h <;> first | (cases h; done) | (cases h; decide) | skip
  split at h <;> first | (cases h; done) | (cases h; decide)
def isiD (T : String) (M : Store) (x : D) : Option Slot := (clsD M x).map fun c => .val (.bl (subTy c T))
/-- isinstance(e, T) -/
def tIsi (T : String) (K : PySem.W.Frag) (t : TE) : TE := tCB (rIsi K) (tCons t (tCons (tC (.ty T)) tNil))
theorem x_isi {T : String} (hT : T ∈ ["bool", "int", "str", "tuple", "list", "dict"]) {f : FD} (h : PE X e (tIsi T K (tR K E f))) : PE X e (tE K E (dOp1 (isiD T) f)) := PE.wk h fun σ H Q ⟨ρ, w, e1, ok, sr, a⟩ =>
  ⟨ρ, w, e1, ok, sr, a.bind.imp fun x w1 s1 a1 v rv => by
    obtain ⟨s, es, k⟩ := fin_of s1 a1
    unfold isiD at es
    cases q : clsD w1.M x with
    | none => rw [q] at es; cases es
    | some c =>
      rw [q] at es
      cases es
      exact ⟨v, .ty T, .type c, .type T, subTy c T, rfl, .ty T, cls_at s1.ok rv q, kit_ty (kit_all c (cls_in q) T hT), ans s1.ok k fun _ _ => .bl _⟩⟩
/-! ### the store -/
/-- a list of one's own comes into the store -/
def dRef (f : FE) : FE := fun ρ M => (f ρ M).bind fun x M => match x with
  | .own ds => .ok (.val (.ref M.length)) (M ++ [.lst ds])
  | _ => .bad
theorem Wd.Ok.push {w : Wd} (h : w.Ok K) {p : Addr} {o : MO} (hG : w.G p = none) (hA : p ∉ w.A) (hm : MoR K w p o) : (⟨w.A ++ [p], w.G, w.M ++ [o], w.H⟩ : Wd).Ok K := by
  have up : ∀ {a : Addr} {m : MO}, MoR K w a m → MoR K ⟨w.A ++ [p], w.G, w.M ++ [o], w.H⟩ a m := fun {a m} r => by
    have rr : ∀ v d, Rep K w.A w.G v d → Rep K (w.A ++ [p]) w.G v d := fun v d => Rep.mono (List.prefix_append _ _) (Same.refl _) d v
    cases m with
    | lst ds => obtain ⟨vs, z, q⟩ := r; exact ⟨vs, z, RepL.mono (List.prefix_append _ _) (Same.refl _) _ _ q⟩
    | dK ds => obtain ⟨vs, z, q⟩ := r; exact ⟨vs, z, q.imp rr⟩
    | dT ds => obtain ⟨vs, z, q⟩ := r; exact ⟨vs, z, q.imp rr⟩
    | ins c fs => obtain ⟨io, vs, dx, z, q⟩ := r; exact ⟨io, vs, dx, z, q.imp rr⟩
  refine ⟨h.sub, ?_, by simp [h.len], fun a ha => ?_, fun k m e => ?_⟩
  · rw [List.nodup_append]
    exact ⟨h.nd, by simp, fun a ha b hb => by simp at hb; subst hb; exact fun z => hA (z ▸ ha)⟩
  · rcases List.mem_append.mp ha with ha | ha
    · exact h.out a ha
    · simp at ha; subst ha; exact hG
  · have e : (w.M ++ [o])[k]? = some m := e
    by_cases hk : k < w.M.length
    · rw [List.getElem?_append_left hk] at e
      obtain ⟨a, ea, r⟩ := h.mos k m e
      exact ⟨a, pre_get (List.prefix_append _ _) ea, up r⟩
    · rw [List.getElem?_append_right (by omega)] at e
      have hk2 : k - w.M.length = 0 := by
        have := (List.getElem?_eq_some_iff.mp e).1
        simp at this
        omega
      rw [hk2] at e
      cases e
      refine ⟨p, ?_, up hm⟩
      show (w.A ++ [p])[k]? = some p
      have hl := h.len
      rw [List.getElem?_append_right (by omega), show k - w.A.length = 0 by omega]
      rfl
theorem x_ref {f : FE} (h : PE X e (tE K E f)) : PE X e (tE K E (dRef f)) := PE.wk h fun σ H Q ⟨ρ, w, e1, ok, sr, a⟩ =>
  ⟨ρ, w, e1, ok, sr, by
    unfold dRef at a
    cases q : f ρ w.M with
    | bad => rw [q] at a; exact a
    | exc c d M => rw [q] at a; exact a
    | ok x M =>
      rw [q] at a
      cases x with
      | un => exact a.elim
      | val d => exact a.elim
      | own ds =>
        intro w1 s1 eM v rv
        obtain ⟨p, vs, rfl, h0, hH, hG, hA, rl⟩ := rv
        have ok2 := s1.ok.push hG hA (show MoR K w1 p (.lst ds) from ⟨vs, hH, rl⟩)
        have a' : ∀ w', Step K w w' → w'.M = M ++ [.lst ds] → ∀ v, RepX K w w' v (.val (.ref M.length)) → Q v w'.H := a
        refine a' ⟨w1.A ++ [p], w1.G, w1.M ++ [.lst ds], w1.H⟩ ⟨ok2, s1.pre.trans (List.prefix_append _ _), s1.fro, fun b o z1 z2 z3 => ?_⟩ (by rw [eM]) _ (.ref ?_)
        · obtain ⟨c1, c2, c3⟩ := s1.keep b o z1 z2 z3
          exact ⟨c1, c2, fun hm => (List.mem_append.mp hm).elim c3 fun z => by simp at z; subst z; rw [h0] at z1; cases z1⟩
        · show (w1.A ++ [p])[M.length]? = some p
          have hl := s1.ok.len
          rw [eM] at hl
          rw [← hl, List.getElem?_append_right (Nat.le_refl _), Nat.sub_self]
          rfl⟩
/-- the k-th thing of the store is changed -/
theorem Wd.Ok.put {w : Wd} (h : w.Ok K) {k : Nat} {p : Addr} {o : MO} {ho : HO} (hk : w.A[k]? = some p) (hm : MoR K ⟨w.A, w.G, w.M.set k o, upd w.H p ho⟩ p o) : Step K w ⟨w.A, w.G, w.M.set k o, upd w.H p ho⟩ := by
  have hp : p ∈ w.A := List.mem_of_getElem? hk
  have hG : w.G p = none := h.out p hp
  have hkl : k < w.M.length := by rw [← h.len]; exact (List.getElem?_eq_some_iff.mp hk).1
  refine ⟨⟨fun b u e => ?_, h.nd, by simp [h.len], h.out, fun j m e => ?_⟩, List.prefix_refl _, Same.refl _, fun q u z1 z2 z3 => ⟨?_, .inl z2, z3⟩⟩
  · show upd w.H p ho b = some u
    rw [upd_ne (ne_of_none e hG)]
    exact h.sub b u e
  · have e : (w.M.set k o)[j]? = some m := e
    by_cases hj : k = j
    · subst hj
      rw [List.getElem?_set_self hkl] at e
      cases e
      exact ⟨p, hk, hm⟩
    · rw [List.getElem?_set_ne hj] at e
      obtain ⟨a, ea, r⟩ := h.mos j m e
      have na : a ≠ p := fun z => hj ((List.getElem?_inj (List.getElem?_eq_some_iff.mp hk).1 h.nd).mp (by rw [hk]; rw [← z]; exact ea.symm))
      refine ⟨a, ea, ?_⟩
      cases m with
      | lst ds => obtain ⟨vs, z, q⟩ := r; exact ⟨vs, by show upd w.H p ho a = _; rw [upd_ne na]; exact z, q⟩
      | dK ds => obtain ⟨vs, z, q⟩ := r; exact ⟨vs, by show upd w.H p ho a = _; rw [upd_ne na]; exact z, q⟩
      | dT ds => obtain ⟨vs, z, q⟩ := r; exact ⟨vs, by show upd w.H p ho a = _; rw [upd_ne na]; exact z, q⟩
      | ins c fs => obtain ⟨io, vs, dx, z, q⟩ := r; exact ⟨io, vs, dx, by show upd w.H p ho a = _; rw [upd_ne na]; exact z, q⟩
  · show upd w.H p ho q = some u
    rw [upd_ne (fun z : q = p => z3 (z ▸ hp))]
    exact z1
/-- o[i] = e of a list of the store -/
def sPutR (f fo fi : FD) : FS := fun ρ M => (f ρ M).out fun x M => (fo ρ M).out fun o M => (fi ρ M).out fun i M => match o, i with
  | .ref k, .int j => match M[k]? with
    | some (.lst ds) => match ixN ds.length j with
      | some n => .next ρ (M.set k (.lst (ds.set n x)))
      | none => .bad
    | _ => .bad
  | _, _ => .bad
theorem ref_at {w : Wd} {v : V} {k : Nat} (r : RepB K w v (.ref k)) : ∃ a, v = .ref a ∧ w.A[k]? = some a := by
  rcases r with r | ⟨p, vs, es', rfl, e, _⟩
  · cases r with
    | ref e => exact ⟨_, rfl, e⟩
  · cases e
theorem s_putR {st : Stmt} {f fo fi : FD} (h : PS X st (tAsg (tF K E f) (gSub (tR K E fo) (tR K E fi) rSetL))) : PS X st (tS K E (sPutR f fo fi)) := PS.wk h fun D σ H ⟨ρ, w, w0, e1, s, sr, of, p⟩ =>
  ⟨ρ, w, e1, s.ok, sr, (out_after s p).imp fun x w1 s1 p1 v rv => ⟨ρ, w1, rfl, s1.ok, sr.step s1, (out_after (s.trans s1) p1).imp fun o w2 s2 p2 vo ro => ⟨ρ, w2, rfl, s2.ok, (sr.step s1).step s2, (out_after ((s.trans s1).trans s2) p2).imp fun i w3 s3 p3 vi ri => by
    split at p3
    · rename_i k j
      split at p3
      · rename_i ds e2
        split at p3
        · rename_i n en
          obtain ⟨a, rfl, ea⟩ := ref_at (ro.step s3)
          cases int_at ri
          obtain ⟨a', ea', vs, hH, rl⟩ := s3.ok.mos k _ e2
          rw [ea] at ea'
          cases ea'
          refine ⟨a, vs, j, n, rfl, rfl, hH, by rw [rl.length]; exact en, ?_⟩
          have rv3 := (s2.trans s3).rep rv
          have st3 := s3.ok.put (o := .lst (ds.set n x)) (ho := .lst (vs.set n v)) ea ⟨_, upd_same, rl.set rv3 n⟩
          have sall := ((s.trans s1).trans s2).trans s3
          exact p3 _ σ (sall.trans st3) st3.le rfl ((((sr.step s1).step s2).step s3).step st3) of
        · exact p3.elim
      · exact p3.elim
    · exact p3.elim⟩⟩⟩
/-! ### a def's entry -/
def startD (n : Nat) (ds : List D) : EnvD := ds.map Slot.val ++ List.replicate (n - ds.length) .un
theorem SR.start {w : Wd} {N : List Str} {vs : List V} {ds : List D} (rl : RepL K w.A w.G vs ds) : SR K w (startD N.length ds) (L2.start N vs) := by
  have no : ∀ (i : Nat) (es : List D), (startD N.length ds)[i]? ≠ some (.own es) := fun i es h => by
    unfold startD at h
    by_cases hi : i < (ds.map Slot.val).length
    · rw [List.getElem?_append_left hi, List.getElem?_map] at h
      cases q : ds[i]? with
      | none => rw [q] at h; cases h
      | some d => rw [q] at h; cases h
    · rw [List.getElem?_append_right (by omega), List.getElem?_replicate] at h
      split at h <;> cases h
  refine ⟨by unfold startD L2.start; simp [rl.length], fun i d h => ?_, fun i es h => absurd h (no i es), fun i j es es' p h => absurd h (no i es)⟩
  unfold startD at h
  by_cases hi : i < (ds.map Slot.val).length
  · rw [List.getElem?_append_left hi, List.getElem?_map] at h
    cases q : ds[i]? with
    | none => rw [q] at h; cases h
    | some d' =>
      rw [q] at h
      cases h
      obtain ⟨v, ev, rv⟩ := rl.get q
      refine ⟨v, ?_, rv⟩
      unfold L2.start
      rw [List.length_map] at hi
      rw [List.getElem?_append_left (by simpa [rl.length] using hi), List.getElem?_map, ev]
      rfl
  · rw [List.getElem?_append_right (by omega), List.getElem?_replicate] at h
    split at h <;> cases h
theorem OF.start (w : Wd) (n : Nat) (ds : List D) (σ : L2.St) : OF w (startD n ds) σ := fun i es p h => by
  exfalso
  unfold startD at h
  by_cases hi : i < (ds.map Slot.val).length
  · rw [List.getElem?_append_left hi, List.getElem?_map] at h
    cases q : ds[i]? with
    | none => rw [q] at h; cases h
    | some d => rw [q] at h; cases h
  · rw [List.getElem?_append_right (by omega), List.getElem?_replicate] at h
    split at h <;> cases h
def runF (n : Nat) (g : FS) : Fn := fun ds M => match g (startD n ds) M with
  | .next _ M => .ok (.val .non) M
  | .ret s M => .ok s M
  | .exc c d M => .exc c d M
  | _ => .bad
abbrev W0 : XK → Wish := fun _ => E00
/-- a def that lets no exception out -/
theorem fn_ok {P : Program} {wo : World} {mg : Str → Option Value} {base : Heap} {x qual : Str} {st : Stmt} {f : Addr} {fd : FuncData} {N ps : List Str} {k : Nat} {g : FS} (F : Fun K x qual st f fd) (S : FnScope N ps (defScope st))
    (hbody : ∀ (cdv : Value) (A : Around) (outer : List Env) (s : Shared) (H : Hp) (EX : XK), Room k (A.deeper (envOfC qual (defScope st) s.heap.objs.size f cdv)) →
      PSs (cxOf CX0 P wo K mg base N qual (defScope st) f cdv A outer s H EX).nox (defBody st) (tS K E00 g)) : FnOk P wo K mg base CX0 (k + 1) f fd ps (spD K W0 ps.length (runF N.length g)) := by
  refine F.ok S (fun vs H Q EX h => h.1) (fun cdv A outer s H vs Q EX hr h => ?_)
  refine ⟨_, hbody cdv A outer s H EX hr, ?_⟩
  obtain ⟨hl, ds, w, rfl, ok, rl, a⟩ := h
  refine ⟨startD N.length ds, w, w, rfl, Step.refl ok, SR.start rl, OF.start w _ _ _, ?_⟩
  unfold runF at a
  cases q : g (startD N.length ds) w.M with
  | next ρ M => rw [q] at a; exact fun w' σ s' _ eM _ _ => a w' s' eM .non .non
  | ret x M => rw [q] at a; exact fun w' v s' eM rv => a w' s' eM v rv
  | exc c d M => rw [q] at a; exact a
  | brk ρ M => rw [q] at a; exact a.elim
  | cont ρ M => rw [q] at a; exact a.elim
  | bad => rw [q] at a; exact a.elim
end
end TP
/-! TPh: chains, more statements, more walks. -/
namespace TP
open PySem L2
section
variable {K : PySem.W.Frag} {E : Wish} {X : Cx} {e : Expr} {st : Stmt}
def dChain (g g' : Store → D → D → Option Slot) (fa fb fc : FD) : FE := fun ρ M => (fa ρ M).bind fun x M => (fb ρ M).bind fun y M => match g M x y with
  | some (.val (.bl true)) => (fc ρ M).bind fun z M => R.of (g' M y z) M
  | some (.val (.bl false)) => .ok (.val (.bl false)) M
  | _ => .bad
theorem x_chain {r r' : R2} {g g' : Store → D → D → Option Slot} {fa fb fc : FD} (h : PE X e (tChain r r' (tR K E fa) (tR K E fb) (tR K E fc))) (p : Prim2 K r g) (p' : Prim2 K r' g') : PE X e (tE K E (dChain g g' fa fb fc)) := PE.wk h fun σ H Q ⟨ρ, w, e1, ok, sr, a⟩ =>
  ⟨ρ, w, e1, ok, sr, a.bind.imp fun x w1 s1 a1 vx rx => ⟨ρ, w1, rfl, s1.ok, sr.step s1, a1.bind.imp fun y w2 s2 a2 vy ry => by
    split at a2
    · rename_i eg
      refine p w2 vx vy x y _ _ s2.ok (rx.step s2) ry eg fun v w3 s3 e3 rv => ?_
      cases rv
      have s13 := (s1.trans s2).trans s3
      refine ⟨true, rfl, iteT ⟨ρ, w3, rfl, s3.ok, ((sr.step s1).step s2).step s3, ?_⟩⟩
      rw [e3]
      have a3 := a2.later s3
      exact a3.bind.imp fun z w4 s4 a4 vz rz => by
        obtain ⟨s, es, k⟩ := fin_of (s13.trans s4) a4
        exact p' w4 vy vz y z s Q s4.ok ((ry.step s3).step s4) rz es k
    · rename_i eg
      refine p w2 vx vy x y _ _ s2.ok (rx.step s2) ry eg fun v w3 s3 e3 rv => ?_
      cases rv
      exact ⟨false, rfl, iteF (a2 w3 s3 e3 _ (.bl _))⟩
    · exact a2.elim⟩⟩
/-- name = [comprehension] on one line -/
theorem s_setLc {i : Nat} {fi : FL} {b : D → EnvD → Option EnvD} {is : List Nat} {c : FB} {f : FD} {vs : List Nat} (hv : ∀ i ∈ is, i ∈ vs) (h : PS X st (tAsg (tLc (tI K E fi) (tG K b is) (tT K E00 c) (tF K E00 f) vs) (gName i))) : PS X st (tS K E (sSet i (dLc fi b c f vs))) :=
  s_set (PS.wk h fun D σ H z => lc_le hv σ H _ z)
/-- name op= e -/
def sAug (i : Nat) (g : Store → D → D → Option Slot) (f : FD) : FS := fun ρ M => match ρ[i]? with
  | some (.val x) => (f ρ M).out fun y M => match g M x y with
    | some (.val z) => .next (ρ.set i (.val z)) M
    | _ => .bad
  | _ => .bad
/-- what op= does by values, for plain data that is not changed in place -/
def PrimI (K : PySem.W.Frag) (r : TIp) (g : Store → D → D → Option Slot) : Prop := ∀ (w : Wd) (vx vy : V) (x y z : D) (Q : VK), w.Ok K → Rep K w.A w.G vx x → RepB K w vy y → g w.M x y = some (.val z) →
  (∀ v w', Step K w w' → w'.M = w.M → Rep K w'.A w'.G v z → Q v w'.H) → r vx vy w.H Q
theorem s_aug {i : Nat} {r : TIp} {g : Store → D → D → Option Slot} {f : FD} (h : PS X st (tAug i (tR K E f) r)) (p : PrimI K r g) : PS X st (tS K E (sAug i g f)) := PS.wk h fun D σ H ⟨ρ, w, w0, e1, s, sr, of, q⟩ => by
  subst e1
  unfold sAug at q
  split at q
  · rename_i x e2
    obtain ⟨v, h1, h2⟩ := sr.val i x e2
    refine ⟨v, h1, ρ, w, rfl, s.ok, sr, (out_after s q).imp fun y w1 s1 q1 vy ry => ?_⟩
    split at q1
    · rename_i z eg
      refine p w1 v vy x y z _ s1.ok (s1.rep h2) ry eg fun u w2 s2 e3 rz => ?_
      refine q1 w2 _ ((s.trans s1).trans s2) s2.le e3 (((sr.step s1).step s2).set i rz) (of.sub (OwnSub.set ρ σ i (fun _ z => by cases z) _))
    · exact q1.elim
  · exact q.elim
def iaddD (_ : Store) (x y : D) : Option Slot := match x, y with
  | .int i, .int j => some (.val (.int (i + j)))
  | _, _ => none
theorem p_iadd : PrimI K (ipI fun i j => i + j) iaddD := by
  intro w vx vy x y z Q ok rx ry h k
  unfold iaddD at h
  split at h
  · cases h
    cases rx
    cases int_at ry
    exact ⟨_, _, rfl, rfl, k _ w (Step.refl ok) rfl (.int _)⟩
  · cases h
/-! ### enumerate, zip, reversed -/
def enumL (ds : List D) : List D := (List.range ds.length).map fun i => .tup [.int (i : Nat), ds.getD i .non]
theorem it_enum {w : Wd} {a : Addr} {vs : List V} {ds : List D} (hs : SqL K w.G a vs) (rl : RepL K w.A w.G vs ds) : IterOk K w (Ite K a) (enumL ds) := fun w2 le ok2 i => by
  have h2 : SqL K w2.H a vs := ok2.sub.seq (le.2.seq hs)
  have r2 := le.repL rl
  refine ⟨fun d ed => ?_, fun hl => ⟨vs, h2, by rw [rl.length]; simpa [enumL] using hl⟩⟩
  unfold enumL at ed
  rw [List.getElem?_map] at ed
  by_cases hi : i < ds.length
  · rw [List.getElem?_range hi] at ed
    cases ed
    obtain ⟨v, ev, rv⟩ := r2.get (List.getElem?_eq_getElem hi)
    refine ⟨⟨vs, v, h2, ev⟩, fun x H' y => ?_⟩
    obtain ⟨T, x', rfl, hT, rfl, y⟩ := y
    have := y vs h2
    rw [ev] at this
    cases this
    have st := ok2.fresh hT (.tup [.int (i : Nat), v])
    refine ⟨_, st, rfl, rfl, .tup upd_same (.cons (.int _) (.one ?_))⟩
    rw [List.getD_eq_getElem?_getD, List.getElem?_eq_getElem hi]
    exact st.rep rv
  · rw [List.getElem?_eq_none (by simpa using hi)] at ed
    cases ed
def dEnum (fs : FL) : FL := fun ρ M => (fs ρ M).bind fun ds M => match ds with
  | [.lst es] => .ok (enumL es) M
  | [.fro es] => .ok (enumL es) M
  | _ => .bad
theorem x_enum {tg : Expr} {fs : FL} (h : PI X tg e (iEnum K (tAF K E fs))) : PI X tg e (tI K E (dEnum fs)) := PI.wk h fun σ H Q ⟨ρ, w, e1, ok, sr, a⟩ =>
  ⟨ρ, w, e1, ok, sr, a.bind.imp fun ds w1 s1 a1 vs rvs => by
    split at a1
    · cases rvs with
      | cons r1 r2 =>
        cases r2
        cases r1 with
        | lst hs rl => exact ⟨_, _, rfl, .inl (.inl (s1.ok.sub _ _ hs)), a1 w1 (Step.refl s1.ok) rfl _ (it_enum (.inl (.inl hs)) rl)⟩
    · cases rvs with
      | cons r1 r2 =>
        cases r2
        cases r1 with
        | fro hs rl => exact ⟨_, _, rfl, s1.ok.sub.seq hs, a1 w1 (Step.refl s1.ok) rfl _ (it_enum hs rl)⟩
    · exact a1.elim⟩
def zipL : List D → List D → List D
  | x :: xs, y :: ys => .tup [x, y] :: zipL xs ys
  | _, _ => []
theorem zipL_get : ∀ (xs ys : List D) (i : Nat) (d : D), (zipL xs ys)[i]? = some d → ∃ x y, xs[i]? = some x ∧ ys[i]? = some y ∧ d = .tup [x, y]
  | x :: xs, y :: ys, 0, d, h => by simp [zipL] at h; exact ⟨x, y, rfl, rfl, h.symm⟩
  | x :: xs, y :: ys, i + 1, d, h => by
    obtain ⟨a, b, h1, h2, h3⟩ := zipL_get xs ys i d (by simpa [zipL] using h)
    exact ⟨a, b, by simpa using h1, by simpa using h2, h3⟩
  | [], _, _, _, h => by simp [zipL] at h
  | _ :: _, [], _, _, h => by simp [zipL] at h
theorem zipL_len : ∀ (xs ys : List D), (zipL xs ys).length = min xs.length ys.length
  | x :: xs, y :: ys => by simp [zipL, zipL_len xs ys]
  | [], _ => by simp [zipL]
  | _ :: _, [] => by simp [zipL]
theorem it_zip {w : Wd} {a b : Addr} {vs us : List V} {ds es : List D} (hs : SqL K w.G a vs) (rl : RepL K w.A w.G vs ds) (hs' : SqL K w.G b us) (rl' : RepL K w.A w.G us es) : IterOk K w (Itz K a b) (zipL ds es) := fun w2 le ok2 i => by
  have h2 : SqL K w2.H a vs := ok2.sub.seq (le.2.seq hs)
  have h2' : SqL K w2.H b us := ok2.sub.seq (le.2.seq hs')
  refine ⟨fun d ed => ?_, fun hl => ⟨vs, us, h2, h2', by rw [zipL_len] at hl; rw [rl.length, rl'.length]; omega⟩⟩
  obtain ⟨x, y, ex, ey, rfl⟩ := zipL_get ds es i d ed
  obtain ⟨v, ev, rv⟩ := (le.repL rl).get ex
  obtain ⟨u, eu, ru⟩ := (le.repL rl').get ey
  refine ⟨⟨vs, us, v, u, h2, h2', ev, eu⟩, fun z H' hy => ?_⟩
  obtain ⟨T, x', y', rfl, hT, rfl, y1, y2⟩ := hy
  have q1 := y1 vs h2
  rw [ev] at q1
  cases q1
  have q2 := y2 us h2'
  rw [eu] at q2
  cases q2
  have st := ok2.fresh hT (.tup [v, u])
  exact ⟨_, st, rfl, rfl, .tup upd_same (.cons (st.rep rv) (.one (st.rep ru)))⟩
theorem it_zipT {w : Wd} {a b : Addr} {vs us : List V} {ds es : List D} (hs : SqT K w.G a vs) (rl : RepL K w.A w.G vs ds) (hs' : SqT K w.G b us) (rl' : RepL K w.A w.G us es) : IterOk K w (RZ.ItzT K a b) (zipL ds es) := fun w2 le ok2 i => by
  have h2 : SqT K w2.H a vs := sqT_mono ok2.sub (sqT_mono le.2 hs)
  have h2' : SqT K w2.H b us := sqT_mono ok2.sub (sqT_mono le.2 hs')
  refine ⟨fun d ed => ?_, fun hl => ⟨vs, us, h2, h2', by rw [zipL_len] at hl; rw [rl.length, rl'.length]; omega⟩⟩
  obtain ⟨x, y, ex, ey, rfl⟩ := zipL_get ds es i d ed
  obtain ⟨v, ev, rv⟩ := (le.repL rl).get ex
  obtain ⟨u, eu, ru⟩ := (le.repL rl').get ey
  refine ⟨⟨vs, us, v, u, h2, h2', ev, eu⟩, fun z H' hy => ?_⟩
  obtain ⟨T, x', y', rfl, hT, rfl, y1, y2⟩ := hy
  have q1 := y1 vs h2
  rw [ev] at q1
  cases q1
  have q2 := y2 us h2'
  rw [eu] at q2
  cases q2
  have st := ok2.fresh hT (.tup [v, u])
  exact ⟨_, st, rfl, rfl, .tup upd_same (.cons (st.rep rv) (.one (st.rep ru)))⟩
def dZip (fs : FL) : FL := fun ρ M => (fs ρ M).bind fun ds M => match ds with
  | [.lst xs, .lst ys] => .ok (zipL xs ys) M
  | [.tup xs, .tup ys] => .ok (zipL xs ys) M
  | _ => .bad
theorem x_zip {tg : Expr} {fs : FL} (h : PI X tg e (RZ.iZipA K (tAF K E fs))) : PI X tg e (tI K E (dZip fs)) := PI.wk h fun σ H Q ⟨ρ, w, e1, ok, sr, a⟩ =>
  ⟨ρ, w, e1, ok, sr, a.bind.imp fun ds w1 s1 a1 vs rvs => by
    split at a1
    · cases rvs with
      | cons r1 r2 =>
        cases r2 with
        | cons r2 r3 =>
          cases r3
          cases r1 with
          | lst hs rl =>
            cases r2 with
            | lst hs' rl' => exact ⟨_, _, _, _, rfl, .inl ⟨.inl (.inl (s1.ok.sub _ _ hs)), .inl (.inl (s1.ok.sub _ _ hs')), a1 w1 (Step.refl s1.ok) rfl _ (it_zip (.inl (.inl hs)) rl (.inl (.inl hs')) rl')⟩⟩
    · cases rvs with
      | cons r1 r2 =>
        cases r2 with
        | cons r2 r3 =>
          cases r3
          cases r1 with
          | tup hs rl =>
            cases r2 with
            | tup hs' rl' => exact ⟨_, _, _, _, rfl, .inr ⟨.inl (.inl (s1.ok.sub _ _ hs)), .inl (.inl (s1.ok.sub _ _ hs')), a1 w1 (Step.refl s1.ok) rfl _ (it_zipT (.inl (.inl hs)) rl (.inl (.inl hs')) rl')⟩⟩
    · exact a1.elim⟩
theorem it_rev {w : Wd} {a : Addr} {vs : List V} {ds : List D} (hs : SqL K w.G a vs) (rl : RepL K w.A w.G vs ds) : IterOk K w (Itv K a vs.length) ds.reverse := fun w2 le ok2 i => by
  have h2 : SqL K w2.H a vs := ok2.sub.seq (le.2.seq hs)
  refine ⟨fun d ed => ?_, fun hl => show vs.length ≤ i by rw [rl.length]; simpa using hl⟩
  have hi : i < ds.length := by have := (List.getElem?_eq_some_iff.mp ed).1; simpa using this
  rw [List.getElem?_reverse hi] at ed
  obtain ⟨v, ev, rv⟩ := (le.repL rl).get ed
  rw [← rl.length] at ev
  refine ⟨⟨by rw [rl.length]; exact hi, vs, v, h2, ev⟩, fun x H' y => ?_⟩
  obtain ⟨eH, y⟩ := y
  have q := y vs h2
  rw [ev] at q
  cases q
  exact ⟨w2, Step.refl ok2, rfl, eH.symm, rv⟩
theorem it_revT {w : Wd} {a : Addr} {vs : List V} {ds : List D} (hs : SqT K w.G a vs) (rl : RepL K w.A w.G vs ds) : IterOk K w (RT.ItvT K a vs.length) ds.reverse := fun w2 le ok2 i => by
  have h2 : SqT K w2.H a vs := sqT_mono ok2.sub (sqT_mono le.2 hs)
  refine ⟨fun d ed => ?_, fun hl => show vs.length ≤ i by rw [rl.length]; simpa using hl⟩
  have hi : i < ds.length := by have := (List.getElem?_eq_some_iff.mp ed).1; simpa using this
  rw [List.getElem?_reverse hi] at ed
  obtain ⟨v, ev, rv⟩ := (le.repL rl).get ed
  rw [← rl.length] at ev
  refine ⟨⟨by rw [rl.length]; exact hi, vs, v, h2, ev⟩, fun x H' y => ?_⟩
  obtain ⟨eH, y⟩ := y
  have q := y vs h2
  rw [ev] at q
  cases q
  exact ⟨w2, Step.refl ok2, rfl, eH.symm, rv⟩
def dRev (f : FD) : FL := fun ρ M => (f ρ M).bind fun d M => match d with
  | .lst xs => .ok xs.reverse M
  | .fro xs => .ok xs.reverse M
  | .tup xs => .ok xs.reverse M
  | _ => .bad
theorem x_rev {tg : Expr} {f : FD} (h : PI X tg e (RT.iRevA K (tF K E f))) : PI X tg e (tI K E (dRev f)) := PI.wk h fun σ H Q ⟨ρ, w, e1, ok, sr, a⟩ =>
  ⟨ρ, w, e1, ok, sr, a.bind.imp fun d w1 s1 a1 v rv => by
    split at a1
    · cases rv with
      | lst hs rl => exact ⟨_, _, rfl, .inl ⟨.inl (.inl (s1.ok.sub _ _ hs)), a1 w1 (Step.refl s1.ok) rfl _ (it_rev (.inl (.inl hs)) rl)⟩⟩
    · cases rv with
      | fro hs rl => exact ⟨_, _, rfl, .inl ⟨s1.ok.sub.seq hs, a1 w1 (Step.refl s1.ok) rfl _ (it_rev hs rl)⟩⟩
    · cases rv with
      | tup hs rl => exact ⟨_, _, rfl, .inr ⟨.inl (.inl (s1.ok.sub _ _ hs)), a1 w1 (Step.refl s1.ok) rfl _ (it_revT (.inl (.inl hs)) rl)⟩⟩
    · exact a1.elim⟩
end
/-! ### built-in names -/
theorem bt_len : bootBuiltins "len" = some (.builtin "len") := by decide +kernel
theorem bt_min : bootBuiltins "min" = some (.builtin "min") := by decide +kernel
theorem bt_max : bootBuiltins "max" = some (.builtin "max") := by decide +kernel
theorem bt_abs : bootBuiltins "abs" = some (.builtin "abs") := by decide +kernel
theorem bt_sum : bootBuiltins "sum" = some (.builtin "sum") := by decide +kernel
theorem bt_all : bootBuiltins "all" = some (.builtin "all") := by decide +kernel
theorem bt_any : bootBuiltins "any" = some (.builtin "any") := by decide +kernel
theorem bt_isinstance : bootBuiltins "isinstance" = some (.builtin "isinstance") := by decide +kernel
theorem bt_int : bootBuiltins "int" = some (.type "int") := by decide +kernel
theorem bt_str : bootBuiltins "str" = some (.type "str") := by decide +kernel
theorem bt_bool : bootBuiltins "bool" = some (.type "bool") := by decide +kernel
theorem bt_list : bootBuiltins "list" = some (.type "list") := by decide +kernel
theorem bt_tuple : bootBuiltins "tuple" = some (.type "tuple") := by decide +kernel
theorem bt_dict : bootBuiltins "dict" = some (.type "dict") := by decide +kernel
end TP
/-! TPi: what the printed proofs use besides. -/
namespace TP
open PySem L2
section
variable {K : PySem.W.Frag} {E : Wish} {X : Cx} {e : Expr}
theorem un_of {A : Around} {k : Nat} (hr : Room k A) : A.units + 200 < cLine := by have := hr.un; omega
def dYes : FB := fun _ M => .ok true M
theorem x_yes : PTs X [] (tT K E dYes) := ⟨fun pins s σ H Q I h => by
  obtain ⟨ρ, w, e1, ok, sr, a⟩ := h
  subst e1
  exact pts_nil.run pins s σ w.H Q I (a w (Step.refl ok) rfl)⟩
theorem x_test2 {r : R2} {g : Store → D → D → Option Slot} {fa fb : FD} (h : PT X e (tTest (tOp r (tR K E fa) (tR K E fb)))) (p : Prim2 K r g) : PT X e (tT K E (dBo (dOp2 g fa fb))) :=
  x_test h fun σ H Q ⟨ρ, w, e1, ok, sr, a⟩ =>
    ⟨ρ, w, e1, ok, sr, a.bind.imp fun x w1 s1 a1 vx rx => ⟨ρ, w1, rfl, s1.ok, sr.step s1, a1.bind.imp fun y w2 s2 a2 vy ry => by
      obtain ⟨s, es, k⟩ := fin_of (s1.trans s2) a2
      exact p w2 vx vy x y s Q s2.ok (rx.step s2) ry es k⟩⟩
theorem x_testC {r r' : R2} {g g' : Store → D → D → Option Slot} {fa fb fc : FD} (h : PT X e (tTest (tChain r r' (tR K E fa) (tR K E fb) (tR K E fc)))) (p : Prim2 K r g) (p' : Prim2 K r' g') : PT X e (tT K E (dBo (dChain g g' fa fb fc))) :=
  x_test h fun σ H Q ⟨ρ, w, e1, ok, sr, a⟩ =>
    ⟨ρ, w, e1, ok, sr, a.bind.imp fun x w1 s1 a1 vx rx => ⟨ρ, w1, rfl, s1.ok, sr.step s1, a1.bind.imp fun y w2 s2 a2 vy ry => by
      split at a2
      · rename_i eg
        refine p w2 vx vy x y _ _ s2.ok (rx.step s2) ry eg fun v w3 s3 e3 rv => ?_
        cases rv
        have s13 := (s1.trans s2).trans s3
        refine ⟨true, rfl, iteT ⟨ρ, w3, rfl, s3.ok, ((sr.step s1).step s2).step s3, ?_⟩⟩
        rw [e3]
        have a3 := a2.later s3
        exact a3.bind.imp fun z w4 s4 a4 vz rz => by
          obtain ⟨s, es, k⟩ := fin_of (s13.trans s4) a4
          exact p' w4 vy vz y z s Q s4.ok ((ry.step s3).step s4) rz es k
      · rename_i eg
        refine p w2 vx vy x y _ _ s2.ok (rx.step s2) ry eg fun v w3 s3 e3 rv => ?_
        cases rv
        exact ⟨false, rfl, iteF (a2 w3 s3 e3 _ (.bl _))⟩
      · exact a2.elim⟩⟩
/-- {} -/
def dNewK : FD := fun _ M => .ok (.ref M.length) (M ++ [.dK []])
theorem x_dnewK (h : PE X e tDNewK) : PE X e (tF K E dNewK) := PE.wk h fun σ H Q ⟨ρ, w, e1, ok, sr, a⟩ => by
  subst e1
  intro d hd
  have s0 := ok.fresh0 hd (.dK [])
  have hG : w.G d = none := ok.sub.free hd
  have ok2 := s0.ok.push (o := .dK []) hG (ok.notA hd) ⟨[], upd_same, .nil⟩
  have a' : ∀ w', Step K w w' → w'.M = w.M ++ [.dK []] → ∀ v, Rep K w'.A w'.G v (.ref w.M.length) → Q v w'.H := a
  refine a' ⟨w.A ++ [d], w.G, w.M ++ [.dK []], upd w.H d (.dK [])⟩ ⟨ok2, List.prefix_append _ _, Same.refl _, fun b o z1 z2 z3 => ?_⟩ rfl _ (.ref ?_)
  · refine ⟨?_, .inl z2, fun hm => (List.mem_append.mp hm).elim z3 fun z => by simp at z; subst z; rw [hd] at z1; cases z1⟩
    show upd w.H d (.dK []) b = some o
    rw [upd_ne (ne_of_none z1 hd)]
    exact z1
  · show (w.A ++ [d])[w.M.length]? = some d
    rw [← ok.len, List.getElem?_append_right (Nat.le_refl _), Nat.sub_self]
    rfl
theorem fn_zero {P : Program} {wo : World} {mg : Str → Option Value} {base : Heap} {f : Addr} {fd : FuncData} {ps : List Str} {n : Nat} (hn : n = ps.length := by rfl) : FnOk P wo K mg base CX0 0 f fd ps (spD K W0 n (fun _ _ => .bad)) :=
  ⟨fun vs H Q EX h => h.1.trans hn, fun A outer s H args us vs Q EX _ _ _ _ h => by
    obtain ⟨_, ds, w, _, _, _, a⟩ := h
    exact a.elim⟩
end
end TP
namespace TP
open PySem L2
/-! ### the top's constants -/
/-- an object of the written part is a tuple of these -/
def valIs (K : PySem.W.Frag) : Nat → Value → D → Bool
  | _, .none, .non => true
  | _, .bool b, .bl c => b == c
  | _, .int i _, .int j => decide (i = j)
  | _, .str x _, .str y => decide (x = y)
  | n + 1, .ref a, .kt ds => match K.lookup a with
    | some o => match o.cls, o.data with
      | .type c, .seq its _ => c == "tuple" && decide (its.size ≤ 1000) && valsIs its.toList ds (valIs K n)
      | _, _ => false
    | none => false
  | _, _, _ => false
where valsIs : List Value → List D → (Value → D → Bool) → Bool
  | [], [], _ => true
  | v :: vs, d :: ds, f => f v d && valsIs vs ds f
  | _, _, _ => false
def tupIs (K : PySem.W.Frag) (n : Nat) (o : Obj) (d : D) : Bool := match d with
  | .kt ds => match o.cls, o.data with
    | .type c, .seq its _ => c == "tuple" && decide (its.size ≤ 1000) && valIs.valsIs its.toList ds (valIs K n)
    | _, _ => false
  | _ => false
section
variable {K : PySem.W.Frag} {A : List Addr} {G : Hp}
theorem valsIs_rep {f : Value → D → Bool} (hf : ∀ v d, f v d = true → ∃ x, RelV x v ∧ Rep K A G x d) : ∀ {vs : List Value} {ds : List D}, valIs.valsIs vs ds f = true → ∃ xs, Vals xs vs ∧ RepL K A G xs ds
  | [], [], _ => ⟨[], .nil, .nil⟩
  | v :: vs, d :: ds, h => by
    unfold valIs.valsIs at h
    rw [Bool.and_eq_true] at h
    obtain ⟨x, h1, h2⟩ := hf v d h.1
    obtain ⟨xs, h3, h4⟩ := valsIs_rep hf h.2
    exact ⟨x :: xs, .cons h1 h3, .cons h2 h4⟩
  | [], _ :: _, h => by cases h
  | _ :: _, [], h => by cases h
theorem valIs_rep : ∀ (n : Nat) (v : Value) (d : D), valIs K n v d = true → ∃ x, RelV x v ∧ Rep K A G x d := by
  intro n
  induction n with
  | zero =>
    intro v d h
    unfold valIs at h
    split at h
    · exact ⟨.non, rfl, .non⟩
    · rw [beq_iff_eq] at h; subst h; exact ⟨.bl _, rfl, .bl _⟩
    · have := of_decide_eq_true h; subst this; exact ⟨.int _, ⟨_, rfl⟩, .int _⟩
    · have := of_decide_eq_true h; subst this; exact ⟨.str _, ⟨_, rfl⟩, .str _⟩
    · exfalso; omega
    · cases h
  | succ n ih =>
    intro v d h
    unfold valIs at h
    split at h
    · exact ⟨.non, rfl, .non⟩
    · rw [beq_iff_eq] at h; subst h; exact ⟨.bl _, rfl, .bl _⟩
    · have := of_decide_eq_true h; subst this; exact ⟨.int _, ⟨_, rfl⟩, .int _⟩
    · have := of_decide_eq_true h; subst this; exact ⟨.str _, ⟨_, rfl⟩, .str _⟩
    · rename_i m a ds q
      cases q
      split at h
      · rename_i o ho
        split at h
        · rename_i c its k hc hd
          simp only [Bool.and_eq_true, decide_eq_true_eq, beq_iff_eq] at h
          obtain ⟨⟨e1, e2⟩, e3⟩ := h
          subst e1
          obtain ⟨xs, h3, h4⟩ := valsIs_rep ih e3
          exact ⟨.ref a, rfl, .kt (.inr ⟨o, its, k, ho, hc, hd, Nat.le_trans e2 (by decide), h3⟩) h4⟩
        · cases h
      · cases h
    · cases h
theorem tupIs_rep {n : Nat} {q : Addr} {o : Obj} {d : D} (ho : K.lookup q = some o) (h : tupIs K n o d = true) : Rep K A G (.ref q) d := by
  unfold tupIs at h
  split at h
  · split at h
    · rename_i c its k hc hd
      simp only [Bool.and_eq_true, decide_eq_true_eq, beq_iff_eq] at h
      obtain ⟨⟨e1, e2⟩, e3⟩ := h
      subst e1
      obtain ⟨xs, h3, h4⟩ := valsIs_rep (valIs_rep n) e3
      exact .kt (.inr ⟨o, its, k, ho, hc, hd, Nat.le_trans e2 (by decide), h3⟩) h4
    · cases h
  · cases h
theorem repL_ints : ∀ ns : List Int, RepL K A G (ns.map V.int) (ns.map D.int)
  | [] => .nil
  | n :: ns => .cons (.int n) (repL_ints ns)
/-- the law's own promise: what it is asked, and True -/
theorem law_sp {H : Hp} {a : Addr} {ns : List Int} {m : Fn} {EX : XK} (hS : SqL K H a (ns.map V.int)) (h : ∃ M, m [.fro (ns.map D.int)] [] = .ok (.val (.bl true)) M) : spD K W0 1 m [.ref a] H (fun v _ => v = .bl true) EX := by
  obtain ⟨M, h⟩ := h
  refine ⟨rfl, [.fro (ns.map D.int)], ⟨[], H, [], H⟩, rfl, ⟨Same.refl _, List.nodup_nil, rfl, (fun a ha => by simp at ha), (fun k o e => by simp at e)⟩, .one (.fro hS (repL_ints ns)), ?_⟩
  show After K E00 _ (m [.fro (ns.map D.int)] []) _
  rw [h]
  intro w' _ _ v rv
  cases rv
  rfl
end
end TP
/-! TPj: dicts. -/
namespace TP
open PySem L2
section
variable {K : PySem.W.Frag} {E : Wish} {X : Cx} {e : Expr} {st : Stmt}
def keyD : D → Option Key
  | .int i => some (.inl i)
  | .str x => some (.inr x)
  | _ => none
def keysD : List D → Option (List Key)
  | [] => some []
  | d :: ds => match keyD d, keysD ds with
    | some k, some ks => some (k :: ks)
    | _, _ => none
section
variable {κ : Type} [DecidableEq κ]
def lookD (kvs : List (κ × D)) (k : κ) : Option D := (kvs.find? fun kv => decide (kv.1 = k)).map (·.2)
def putD (kvs : List (κ × D)) (k : κ) (v : D) : List (κ × D) :=
  if (kvs.any fun kv => decide (kv.1 = k)) = true then kvs.map (fun kv => if kv.1 = k then (kv.1, v) else kv) else kvs ++ [(k, v)]
theorem RepKV.val {R : V → D → Prop} : ∀ {vs : List (κ × V)} {ds : List (κ × D)} (k : κ), RepKV R vs ds → (∀ d, lookD ds k = some d → ∃ v, valV vs k = some v ∧ R v d) ∧ (lookD ds k = none → valV vs k = none)
  | _, _, k, .nil => ⟨fun d h => by simp [lookD] at h, fun _ => rfl⟩
  | (k', v') :: vs, (_, d') :: ds, k, .cons r t => by
    obtain ⟨h1, h2⟩ := RepKV.val k t
    unfold lookD valV at *
    by_cases hk : k' = k
    · refine ⟨fun d h => ?_, fun h => ?_⟩
      · rw [List.find?_cons_of_pos (by simpa using hk)] at h ⊢
        cases h
        exact ⟨v', rfl, r⟩
      · rw [List.find?_cons_of_pos (by simpa using hk)] at h
        cases h
    · rw [List.find?_cons_of_neg (by simpa using hk), List.find?_cons_of_neg (by simpa using hk)]
      exact ⟨h1, h2⟩
theorem RepKV.any {R : V → D → Prop} (p : κ → Bool) : ∀ {vs : List (κ × V)} {ds : List (κ × D)}, RepKV R vs ds → (vs.any fun kv => p kv.1) = ds.any fun kv => p kv.1
  | _, _, .nil => rfl
  | (k', v') :: vs, (_, d') :: ds, .cons r t => by rw [List.any_cons, List.any_cons, RepKV.any p t]
theorem RepKV.mapV {R : V → D → Prop} {v : V} {d : D} (r : R v d) (k : κ) : ∀ {vs : List (κ × V)} {ds : List (κ × D)}, RepKV R vs ds → RepKV R (vs.map fun kv => if kv.1 = k then (kv.1, v) else kv) (ds.map fun kv => if kv.1 = k then (kv.1, d) else kv)
  | _, _, .nil => .nil
  | (k', v') :: vs, (_, d') :: ds, .cons r' t => by
    rw [List.map_cons, List.map_cons]
    by_cases hk : k' = k
    · simp only [hk, if_true]
      exact .cons r (RepKV.mapV r k t)
    · simp only [hk, if_false]
      exact .cons r' (RepKV.mapV r k t)
theorem RepKV.append {R : V → D → Prop} : ∀ {vs us : List (κ × V)} {ds es : List (κ × D)}, RepKV R vs ds → RepKV R us es → RepKV R (vs ++ us) (ds ++ es)
  | _, _, _, _, .nil, s => s
  | _, _, _, _, .cons r t, s => .cons r (RepKV.append t s)
theorem RepKV.put {R : V → D → Prop} {v : V} {d : D} (r : R v d) (k : κ) {vs : List (κ × V)} {ds : List (κ × D)} (h : RepKV R vs ds) : RepKV R (putK vs k v) (putD ds k d) := by
  unfold putK putD
  rw [h.any fun x => decide (x = k)]
  split
  · exact h.mapV r k
  · exact h.append (.cons r .nil)
theorem RepKV.len {R : V → D → Prop} : ∀ {vs : List (κ × V)} {ds : List (κ × D)}, RepKV R vs ds → vs.length = ds.length
  | _, _, .nil => rfl
  | _ :: _, _ :: _, .cons _ t => by rw [List.length_cons, List.length_cons, RepKV.len t]
end
theorem key_at {A : List Addr} {G : Hp} {v : V} {d : D} {k : Key} (r : Rep K A G v d) (h : keyD d = some k) : v = kV k := by
  cases r <;> first | (cases h; rfl) | cases h
theorem keys_at {A : List Addr} {G : Hp} : ∀ {vs : List V} {ds : List D} {ks : List Key}, RepL K A G vs ds → keysD ds = some ks → vs = ks.map kV
  | [], [], _, _, h => by cases h; rfl
  | v :: vs, d :: ds, ks, .cons r t, h => by
    unfold keysD at h
    split at h
    · rename_i k ks' h1 h2
      cases h
      rw [key_at r h1, keys_at t h2]
      rfl
    · cases h
theorem keyB {w : Wd} {v : V} {d : D} {k : Key} (r : RepB K w v d) (h : keyD d = some k) : v = kV k := by
  rcases r with r | ⟨_, _, _, _, rfl, _⟩
  · exact key_at r h
  · cases h
/-- what a dict of the store has at a key: none, where it is no dict or no key -/
def dGetO (M : Store) (x y : D) : Option (Option D) := match x with
  | .ref k => match M[k]? with
    | some (.dK kvs) => (keyD y).map (lookD kvs)
    | some (.dT kvs) => match y with
      | .tup ds => (keysD ds).map (lookD kvs)
      | _ => none
    | _ => none
  | _ => none
theorem dget_at {w : Wd} (ok : w.Ok K) {vx vy : V} {x y : D} {o : Option D} (rx : RepB K w vx x) (ry : RepB K w vy y) (h : dGetO w.M x y = some o) :
    ∃ a ov, vx = .ref a ∧ DGet w.H a vy ov ∧ (∀ d, o = some d → ∃ v, ov = some v ∧ Rep K w.A w.G v d) ∧ (o = none → ov = none) := by
  unfold dGetO at h
  split at h
  · rename_i k
    obtain ⟨a, rfl, ea⟩ := ref_at rx
    split at h
    · rename_i kvs e2
      obtain ⟨a', ea', vs, hH, rk⟩ := ok.mos k _ e2
      rw [ea] at ea'; cases ea'
      cases q : keyD y with
      | none => rw [q] at h; cases h
      | some key =>
        rw [q] at h
        cases h
        obtain ⟨h1, h2⟩ := rk.val key
        refine ⟨a, valV vs key, rfl, ?_, h1, h2⟩
        rw [keyB ry q]
        exact .inl ⟨vs, key, .inl hH, rfl, rfl⟩
    · rename_i kvs e2
      obtain ⟨a', ea', vs, hH, rk⟩ := ok.mos k _ e2
      rw [ea] at ea'; cases ea'
      split at h
      · rename_i ds
        cases q : keysD ds with
        | none => rw [q] at h; cases h
        | some ks =>
          rw [q] at h
          cases h
          obtain ⟨h1, h2⟩ := rk.val ks
          obtain ⟨b, us, rfl, hb, rl⟩ := tupH_at ok ry
          refine ⟨a, valV vs ks, rfl, .inr ⟨vs, ks, b, .inl hH, rfl, ?_, rfl⟩, h1, h2⟩
          rw [← keys_at rl q]
          exact hb
      · cases h
    · cases h
  · cases h
def dgetD (M : Store) (x y : D) : Option Slot := match dGetO M x y with
  | some (some d) => some (.val d)
  | _ => none
theorem p_dget : Prim2 K (fun x y H Q => ∃ a v, x = .ref a ∧ DGet H a y (some v) ∧ Q v H) dgetD := by
  intro w vx vy x y s Q ok rx ry h k
  unfold dgetD at h
  split at h
  · rename_i d e1
    cases h
    obtain ⟨a, ov, rfl, g, h1, _⟩ := dget_at ok rx ry e1
    obtain ⟨v, rfl, rv⟩ := h1 d rfl
    exact ⟨a, v, rfl, g, k v w (Step.refl ok) rfl rv⟩
  · cases h
theorem x_dget {fa fb : FD} (h : PE X e (tDGet (tR K E fa) (tR K E fb))) : PE X e (tE K E (dOp2 dgetD fa fb)) := x_op2 (r := fun x y H Q => ∃ a v, x = .ref a ∧ DGet H a y (some v) ∧ Q v H) h p_dget
def dinD (M : Store) (y x : D) : Option Slot := (dGetO M x y).map fun o => .val (.bl o.isSome)
def dnotInD (M : Store) (y x : D) : Option Slot := (dGetO M x y).map fun o => .val (.bl (!o.isSome))
theorem isSome_at {o : Option D} {ov : Option V} {R : V → D → Prop} (h1 : ∀ d, o = some d → ∃ v, ov = some v ∧ R v d) (h2 : o = none → ov = none) : ov.isSome = o.isSome := by
  cases o with
  | none => rw [h2 rfl]; rfl
  | some d => obtain ⟨v, e, _⟩ := h1 d rfl; rw [e]; rfl
theorem p_din : Prim2 K (fun y x H Q => ∃ a o, x = .ref a ∧ DGet H a y o ∧ Q (.bl o.isSome) H) dinD := by
  intro w vx vy x y s Q ok rx ry h k
  unfold dinD at h
  cases q : dGetO w.M y x with
  | none => rw [q] at h; cases h
  | some o =>
    rw [q] at h
    cases h
    obtain ⟨a, ov, rfl, g, h1, h2⟩ := dget_at ok ry rx q
    refine ⟨a, ov, rfl, g, ?_⟩
    rw [isSome_at h1 h2]
    exact ans ok k fun _ _ => .bl _
theorem p_dnotIn : Prim2 K (fun y x H Q => ∃ a o, x = .ref a ∧ DGet H a y o ∧ Q (.bl (!o.isSome)) H) dnotInD := by
  intro w vx vy x y s Q ok rx ry h k
  unfold dnotInD at h
  cases q : dGetO w.M y x with
  | none => rw [q] at h; cases h
  | some o =>
    rw [q] at h
    cases h
    obtain ⟨a, ov, rfl, g, h1, h2⟩ := dget_at ok ry rx q
    refine ⟨a, ov, rfl, g, ?_⟩
    rw [isSome_at h1 h2]
    exact ans ok k fun _ _ => .bl _
theorem x_din {fa fb : FD} (h : PE X e (tDIn (tR K E fa) (tR K E fb))) : PE X e (tE K E (dOp2 dinD fa fb)) := x_op2 (r := fun y x H Q => ∃ a o, x = .ref a ∧ DGet H a y o ∧ Q (.bl o.isSome) H) h p_din
theorem x_dnotIn {fa fb : FD} (h : PE X e (tDNotIn (tR K E fa) (tR K E fb))) : PE X e (tE K E (dOp2 dnotInD fa fb)) := x_op2 (r := fun y x H Q => ∃ a o, x = .ref a ∧ DGet H a y o ∧ Q (.bl (!o.isSome)) H) h p_dnotIn
/-- as tests -/
theorem xt_din {fa fb : FD} (h : PT X e (tB (tDIn (tR K E fa) (tR K E fb)))) : PT X e (tT K E (dBo (dOp2 dinD fa fb))) := x_test2 (r := fun y x H Q => ∃ a o, x = .ref a ∧ DGet H a y o ∧ Q (.bl o.isSome) H) h p_din
theorem xt_dnotIn {fa fb : FD} (h : PT X e (tB (tDNotIn (tR K E fa) (tR K E fb)))) : PT X e (tT K E (dBo (dOp2 dnotInD fa fb))) := x_test2 (r := fun y x H Q => ∃ a o, x = .ref a ∧ DGet H a y o ∧ Q (.bl (!o.isSome)) H) h p_dnotIn
/-- d.get(k, x) -/
def isDD (M : Store) (x : D) : Bool := match x with
  | .ref k => match M[k]? with
    | some (.dK _) => true
    | some (.dT _) => true
    | _ => false
  | _ => false
theorem isD_at' {w : Wd} (ok : w.Ok K) {v : V} {x : D} (r : RepB K w v x) (h : isDD w.M x = true) : ∃ a, v = .ref a ∧ IsD w.H a := by
  unfold isDD at h
  split at h
  · rename_i k
    obtain ⟨a, rfl, ea⟩ := ref_at r
    refine ⟨a, rfl, ?_⟩
    split at h
    · rename_i kvs e2
      obtain ⟨a', ea', vs, hH, rk⟩ := ok.mos k _ e2
      rw [ea] at ea'; cases ea'
      exact .inl ⟨vs, .inl hH⟩
    · rename_i kvs e2
      obtain ⟨a', ea', vs, hH, rk⟩ := ok.mos k _ e2
      rw [ea] at ea'; cases ea'
      exact .inr ⟨vs, .inl hH⟩
    · cases h
  · cases h
def dGet2 (fo fk fd : FD) : FD := fun ρ M => (fo ρ M).bind fun x M => if isDD M x then (fk ρ M).bind fun y M => (fd ρ M).bind fun z M => match dGetO M x y with
  | some o => .ok (o.getD z) M
  | none => .bad else .bad
theorem x_dget2 {fo fk fd : FD} (h : PE X e (tDGet2 (tR K E fo) (tR K E fk) (tF K E fd))) : PE X e (tF K E (dGet2 fo fk fd)) := PE.wk h fun σ H Q ⟨ρ, w, e1, ok, sr, a⟩ =>
  ⟨ρ, w, e1, ok, sr, a.bind.imp fun x w1 s1 a1 vx rx => by
    split at a1
    · rename_i hd
      obtain ⟨p, rfl, ip⟩ := isD_at' s1.ok rx hd
      refine ⟨p, rfl, ip, ρ, w1, rfl, s1.ok, sr.step s1, a1.bind.imp fun y w2 s2 a2 vy ry => ⟨ρ, w2, rfl, s2.ok, (sr.step s1).step s2, a2.bind.imp fun z w3 s3 a3 vz rz => ?_⟩⟩
      split at a3
      · rename_i o eo
        obtain ⟨p', ov, e2, g, h1, h2⟩ := dget_at s3.ok ((rx.step s2).step s3) (ry.step s3) eo
        cases e2
        refine ⟨ov, g, ?_⟩
        cases o with
        | none => rw [h2 rfl]; exact a3 w3 (Step.refl s3.ok) rfl _ rz
        | some d => obtain ⟨v, e3, rv⟩ := h1 d rfl; rw [e3]; exact a3 w3 (Step.refl s3.ok) rfl _ rv
      · exact a3.elim
    · exact a1.elim⟩
def dGet1 (fo fk : FD) : FD := fun ρ M => (fo ρ M).bind fun x M => if isDD M x then (fk ρ M).bind fun y M => match dGetO M x y with
  | some o => .ok (o.getD .non) M
  | none => .bad else .bad
theorem x_dget1 {fo fk : FD} (h : PE X e (tDGet1 (tR K E fo) (tR K E fk))) : PE X e (tF K E (dGet1 fo fk)) := PE.wk h fun σ H Q ⟨ρ, w, e1, ok, sr, a⟩ =>
  ⟨ρ, w, e1, ok, sr, a.bind.imp fun x w1 s1 a1 vx rx => by
    split at a1
    · rename_i hd
      obtain ⟨p, rfl, ip⟩ := isD_at' s1.ok rx hd
      refine ⟨p, rfl, ip, ρ, w1, rfl, s1.ok, sr.step s1, a1.bind.imp fun y w2 s2 a2 vy ry => ?_⟩
      split at a2
      · rename_i o eo
        obtain ⟨p', ov, e2, g, h1, h2⟩ := dget_at s2.ok (rx.step s2) ry eo
        cases e2
        refine ⟨ov, g, ?_⟩
        cases o with
        | none => rw [h2 rfl]; exact a2 w2 (Step.refl s2.ok) rfl _ .non
        | some d => obtain ⟨v, e3, rv⟩ := h1 d rfl; rw [e3]; exact a2 w2 (Step.refl s2.ok) rfl _ rv
      · exact a2.elim
    · exact a1.elim⟩
/-- d[k] = v -/
def dPutM (M : Store) (x y z : D) : Option Store := match x with
  | .ref k => match M[k]? with
    | some (.dK kvs) => match keyD y with
      | some key => if kvs.length < sizeLine then some (M.set k (.dK (putD kvs key z))) else none
      | none => none
    | some (.dT kvs) => match y with
      | .tup ds => match keysD ds with
        | some ks => if kvs.length < sizeLine then some (M.set k (.dT (putD kvs ks z))) else none
        | none => none
      | _ => none
    | _ => none
  | _ => none
def sPutD (f fo fi : FD) : FS := fun ρ M => (f ρ M).out fun z M => (fo ρ M).out fun x M => (fi ρ M).out fun y M => match dPutM M x y z with
  | some M' => .next ρ M'
  | none => .bad
theorem dput_at {w : Wd} (ok : w.Ok K) {vx vy vz : V} {x y z : D} {M' : Store} (rx : RepB K w vx x) (ry : RepB K w vy y) (rz : Rep K w.A w.G vz z) (h : dPutM w.M x y z = some M') :
    ∃ a w', vx = .ref a ∧ DPut w.H a vy vz w'.H ∧ Step K w w' ∧ w'.M = M' := by
  unfold dPutM at h
  split at h
  · rename_i k
    obtain ⟨a, rfl, ea⟩ := ref_at rx
    split at h
    · rename_i kvs e2
      obtain ⟨a', ea', vs, hH, rk⟩ := ok.mos k _ e2
      rw [ea] at ea'; cases ea'
      split at h
      · rename_i key q
        split at h
        · rename_i hz
          cases h
          refine ⟨a, ⟨w.A, w.G, w.M.set k (.dK (putD kvs key z)), upd w.H a (.dK (putK vs key vz))⟩, rfl, .inl ⟨vs, key, hH, keyB ry q, by rw [rk.len]; exact hz, rfl⟩, ok.put ea ⟨_, upd_same, rk.put rz key⟩, rfl⟩
        · cases h
      · cases h
    · rename_i kvs e2
      obtain ⟨a', ea', vs, hH, rk⟩ := ok.mos k _ e2
      rw [ea] at ea'; cases ea'
      split at h
      · rename_i ds
        split at h
        · rename_i ks q
          split at h
          · rename_i hz
            cases h
            obtain ⟨b, us, rfl, hb, rl⟩ := tupH_at ok ry
            refine ⟨a, ⟨w.A, w.G, w.M.set k (.dT (putD kvs ks z)), upd w.H a (.dT (putK vs ks vz))⟩, rfl, .inr ⟨vs, ks, b, hH, rfl, by rw [← keys_at rl q]; exact hb, by rw [rk.len]; exact hz, rfl⟩, ok.put ea ⟨_, upd_same, rk.put rz ks⟩, rfl⟩
          · cases h
        · cases h
      · cases h
    · cases h
  · cases h
theorem s_putD {f fo fi : FD} (h : PS X st (sDPut (tR K E fo) (tR K E fi) (tF K E f))) : PS X st (tS K E (sPutD f fo fi)) := PS.wk h fun D σ H ⟨ρ, w, w0, e1, s, sr, of, p⟩ =>
  ⟨ρ, w, e1, s.ok, sr, (out_after s p).imp fun z w1 s1 p1 vz rz => ⟨ρ, w1, rfl, s1.ok, sr.step s1, (out_after (s.trans s1) p1).imp fun x w2 s2 p2 vx rx => ⟨ρ, w2, rfl, s2.ok, (sr.step s1).step s2, (out_after ((s.trans s1).trans s2) p2).imp fun y w3 s3 p3 vy ry => by
    split at p3
    · rename_i M' em
      obtain ⟨a, w4, rfl, dp, s4, e4⟩ := dput_at s3.ok (rx.step s3) ry ((s2.trans s3).rep rz) em
      refine ⟨a, w4.H, rfl, dp, ?_⟩
      exact p3 w4 σ ((((s.trans s1).trans s2).trans s3).trans s4) s4.le e4 ((((sr.step s1).step s2).step s3).step s4) of
    · exact p3.elim⟩⟩⟩
/-- {} with tuple keys -/
def dNewT : FD := fun _ M => .ok (.ref M.length) (M ++ [.dT []])
theorem new_obj {w : Wd} (ok : w.Ok K) {d : Addr} (hd : w.H d = none) {o : HO} {m : MO} (hm : MoR K ⟨w.A, w.G, w.M, upd w.H d o⟩ d m) : Step K w ⟨w.A ++ [d], w.G, w.M ++ [m], upd w.H d o⟩ ∧ (w.A ++ [d])[w.M.length]? = some d := by
  have s0 := ok.fresh0 hd o
  have hG : w.G d = none := ok.sub.free hd
  have ok2 := s0.ok.push (o := m) hG (ok.notA hd) hm
  refine ⟨⟨ok2, List.prefix_append _ _, Same.refl _, fun b o' z1 z2 z3 => ?_⟩, ?_⟩
  · refine ⟨?_, .inl z2, fun hm => (List.mem_append.mp hm).elim z3 fun z => by simp at z; subst z; rw [hd] at z1; cases z1⟩
    show upd w.H d o b = some o'
    rw [upd_ne (ne_of_none z1 hd)]
    exact z1
  · rw [← ok.len, List.getElem?_append_right (Nat.le_refl _), Nat.sub_self]
    rfl
theorem x_dnewT (h : PE X e tDNewT) : PE X e (tF K E dNewT) := PE.wk h fun σ H Q ⟨ρ, w, e1, ok, sr, a⟩ => by
  subst e1
  intro d hd
  obtain ⟨st, hA⟩ := new_obj (o := .dT []) (m := .dT []) ok hd ⟨[], upd_same, .nil⟩
  have a' : ∀ w', Step K w w' → w'.M = w.M ++ [.dT []] → ∀ v, Rep K w'.A w'.G v (.ref w.M.length) → Q v w'.H := a
  exact a' _ st rfl _ (.ref hA)
/-! ### a display with keys that are texts -/
def tPrs (ks : List Str) (fs : List TE) : List (TE × TE) := ks.zipWith (fun k f => (tC (.str k), f)) fs
/-- the values, in order -/
def dVals : List FD → FL
  | [] => dNil
  | f :: fs => dCons f (dVals fs)
def mergeD (ks : List Str) (ds : List D) : List (Key × D) := (ks.zip ds).foldl (fun acc kv => putD acc (Sum.inr kv.1) kv.2) []
def dDisp (ks : List Str) (fs : List FD) : FD := fun ρ M => (dVals fs ρ M).bind fun ds M => if ds.length = ks.length ∧ ks.length ≤ 15 then .ok (.ref M.length) (M ++ [.dK (mergeD ks ds)]) else .bad
theorem pairs_ok {σ : L2.St} {ρ : EnvD} : ∀ (ks : List Str) (fs : List FD) (w w0 : Wd) (Q : List (V × V) → Hp → Prop), ks.length = fs.length → Step K w0 w → SR K w ρ σ →
    After K E w (dVals fs ρ w.M) (fun ds w' => ∀ vs, RepL K w'.A w'.G vs ds → Q (ks.zipWith (fun k v => (V.str k, v)) vs) w'.H) → tPairs (tPrs ks (fs.map (tF K E))) σ w.H Q
  | [], [], w, w0, Q, _, s, sr, a => by
    have a' : ∀ w', Step K w w' → w'.M = w.M → ∀ vs, RepL K w'.A w'.G vs [] → Q ([].zipWith (fun k v => (V.str k, v)) vs) w'.H := a
    exact a' w (Step.refl s.ok) rfl [] .nil
  | k :: ks, f :: fs, w, w0, Q, hl, s, sr, a => by
    refine ⟨ρ, w, rfl, s.ok, sr, ?_⟩
    have a1 : After K E w (dCons f (dVals fs) ρ w.M) _ := a
    refine a1.bind.imp fun d w1 s1 a2 v rv => ?_
    refine pairs_ok ks fs w1 w0 _ (by simpa using hl) (s.trans s1) (sr.step s1) (a2.bind.imp fun ds w2 s2 a3 vs rvs => ?_)
    exact a3 w2 (Step.refl s2.ok) rfl (v :: vs) (.cons (s2.rep rv) rvs)
  | [], _ :: _, _, _, _, hl, _, _, _ => by cases hl
  | _ :: _, [], _, _, _, hl, _, _, _ => by cases hl
theorem merge_rep {R : V → D → Prop} : ∀ (ks : List Str) (vs : List V) (ds : List D) (av : List (Key × V)) (ad : List (Key × D)), (∀ (i : Nat) (v : V), vs[i]? = some v → ∃ d, ds[i]? = some d ∧ R v d) → vs.length = ds.length → RepKV R av ad →
    RepKV R (mergeK av ((ks.zip vs).map fun kv => ((Sum.inr kv.1 : Key), kv.2))) ((ks.zip ds).foldl (fun acc kv => putD acc (Sum.inr kv.1) kv.2) ad)
  | [], _, _, _, _, _, _, h => by simpa [mergeK] using h
  | k :: ks, [], [], av, ad, _, _, h => by simpa [mergeK] using h
  | k :: ks, v :: vs, d :: ds, av, ad, hr, hl, h => by
    obtain ⟨d', e, r⟩ := hr 0 v rfl
    cases e
    have := merge_rep ks vs ds (putK av (Sum.inr k) v) (putD ad (Sum.inr k) d) (fun i x hx => by
      obtain ⟨y, h1, h2⟩ := hr (i + 1) x (by simpa using hx)
      exact ⟨y, by simpa using h1, h2⟩) (by simpa using hl) (h.put r (Sum.inr k))
    simpa [mergeK] using this
  | k :: ks, [], _ :: _, _, _, _, hl, _ => by cases hl
  | k :: ks, _ :: _, [], _, _, _, hl, _ => by cases hl
theorem zip_pairs : ∀ (ks : List Str) (vs : List V), ks.zipWith (fun k v => (V.str k, v)) vs = ((ks.zip vs).map fun kv => ((Sum.inr kv.1 : Key), kv.2)).map fun kv => (kV kv.1, kv.2)
  | [], _ => rfl
  | _ :: _, [] => rfl
  | k :: ks, v :: vs => by rw [List.zipWith_cons_cons, zip_pairs ks vs]; rfl
theorem x_disp {ks : List Str} {fs : List FD} (hl : ks.length = fs.length) (h : PE X e (tDisp (tPrs ks (fs.map (tF K E))))) : PE X e (tF K E (dDisp ks fs)) := PE.wk h fun σ H Q ⟨ρ, w, e1, ok, sr, a⟩ => by
  subst e1
  intro p hp
  have s0 := ok.fresh0 hp (.dK [])
  have hG : w.G p = none := ok.sub.free hp
  have hA := ok.notA hp
  refine pairs_ok ks fs ⟨w.A, w.G, w.M, upd w.H p (.dK [])⟩ w _ hl s0 (sr.step s0) ?_
  have a1 := (show After K E w ((dVals fs ρ w.M).bind _) _ from a).bind
  cases q : dVals fs ρ w.M with
  | bad => rw [q] at a1; exact a1
  | exc c d M => rw [q] at a1; exact fun w' s' e => a1 w' (s0.trans s') e
  | ok ds M =>
    rw [q] at a1
    intro w1 s1 eM vs rvs
    have s01 := s0.trans s1
    obtain ⟨k1, k2, k3⟩ := s1.keepN p (.dK []) upd_same hG hA
    have a2 := (show After K E w (dDisp ks fs ρ w.M) _ from a)
    have ed : dDisp ks fs ρ w.M = if ds.length = ks.length ∧ ks.length ≤ 15 then .ok (.ref M.length) (M ++ [.dK (mergeD ks ds)]) else .bad := by unfold dDisp; rw [q]; rfl
    rw [ed] at a2
    split at a2
    · rename_i hc
      refine ⟨k1, (ks.zip vs).map fun kv => ((Sum.inr kv.1 : Key), kv.2), zip_pairs ks vs, by simp; omega, ?_⟩
      have hrep : RepKV (Rep K w1.A w1.G) (mergeK [] ((ks.zip vs).map fun kv => ((Sum.inr kv.1 : Key), kv.2))) (mergeD ks ds) :=
        merge_rep ks vs ds [] [] (fun i v hv => rvs.get' hv) rvs.length .nil
      have okA := setOwn_ok (o := .dK (mergeK [] ((ks.zip vs).map fun kv => ((Sum.inr kv.1 : Key), kv.2)))) s1.ok k1 k2 k3
      have ok2 := okA.push (o := .dK (mergeD ks ds)) k2 k3 ⟨_, upd_same, hrep⟩
      have a3 : ∀ w', Step K w w' → w'.M = M ++ [.dK (mergeD ks ds)] → ∀ v, Rep K w'.A w'.G v (.ref M.length) → Q v w'.H := a2
      refine a3 ⟨w1.A ++ [p], w1.G, w1.M ++ [.dK (mergeD ks ds)], upd w1.H p (.dK (mergeK [] ((ks.zip vs).map fun kv => ((Sum.inr kv.1 : Key), kv.2))))⟩ ⟨ok2, s01.pre.trans (List.prefix_append _ _), s01.fro, fun b o z1 z2 z3 => ?_⟩ (by rw [eM]) _ (.ref ?_)
      · obtain ⟨c1, c2, c3⟩ := s01.keep b o z1 z2 z3
        refine ⟨?_, c2, fun hm => (List.mem_append.mp hm).elim c3 fun z => by simp at z; subst z; rw [hp] at z1; cases z1⟩
        show upd w1.H p _ b = some o
        rw [upd_ne (ne_of_none z1 hp)]
        exact c1
      · show (w1.A ++ [p])[M.length]? = some p
        have hl := s1.ok.len
        rw [eM] at hl
        rw [← hl, List.getElem?_append_right (Nat.le_refl _), Nat.sub_self]
        rfl
    · exact a2.elim
/-! ### a dict of the top, its keys texts -/
def tabFind (tab : List (Str × D)) (z : Str) : Option D := (tab.find? fun kv => decide (kv.1 = z)).map (·.2)
def dTab (tab : List (Str × D)) (f : FD) : FD := fun ρ M => (f ρ M).bind fun y M => match y with
  | .str z => R.of (tabFind tab z) M
  | _ => .bad
structure TabOk (K : PySem.W.Frag) (w : World) (q : Addr) (tab : List (Str × D)) : Prop where
  at_ : ∀ z d, tabFind tab z = some d → ∃ v, KDct K w q z v ∧ ∀ A G, Rep K A G v d
theorem x_tab {q : Addr} {tab : List (Str × D)} {f : FD} (T : TabOk X.K X.w q tab) (hK : X.K = K) (h : PE X e (tOp (rIxD X.K X.w) (tC (.ref q)) (tR K E f))) : PE X e (tF K E (dTab tab f)) := PE.wk h fun σ H Q ⟨ρ, w, e1, ok, sr, a⟩ => by
  subst e1
  refine ⟨ρ, w, rfl, ok, sr, a.bind.imp fun y w1 s1 a1 vy ry => ?_⟩
  split at a1
  · rename_i z
    obtain ⟨d, ed, k⟩ := a1.of (Step.refl s1.ok) rfl
    obtain ⟨v, kd, rv⟩ := T.at_ z d ed
    exact ⟨q, z, v, rfl, str_at ry, kd, k v (hK ▸ rv _ _)⟩
  · exact a1.elim
def tabIs (K : PySem.W.Frag) (q : Addr) (tab : List (Str × D)) : Bool := tab.all fun kv => match PySem.W.nsIn K q kv.1 with
  | some (some u) => valIs K 9 u kv.2
  | _ => false
theorem tab_ok {w : World} {q : Addr} {tab : List (Str × D)} {es : Array DictEntry} {n : Nat} (hl : K.lookup q = some ⟨.type "dict", none, .dict es n, #[]⟩) (hk : PySem.W.KeysLit w.params es.toList) (ht : tabIs K q tab = true) : TabOk K w q tab := by
  refine ⟨fun z d h => ?_⟩
  unfold tabFind at h
  cases q1 : tab.find? fun kv => decide (kv.1 = z) with
  | none => rw [q1] at h; cases h
  | some kv =>
    rw [q1] at h
    cases h
    have hm := List.mem_of_find?_eq_some q1
    have hz : kv.1 = z := by have := List.find?_some q1; simpa using this
    have h1 := List.all_eq_true.mp ht kv hm
    subst hz
    split at h1
    · rename_i u hu
      obtain ⟨x, rx, _⟩ := valIs_rep (K := K) (A := []) (G := fun _ => none) 9 u kv.2 h1
      refine ⟨x, ⟨es, n, u, hl, hk, hu, rx⟩, fun A G => ?_⟩
      obtain ⟨x', rx', rp⟩ := valIs_rep (K := K) (A := A) (G := G) 9 u kv.2 h1
      rw [rx.inj rx']
      exact rp
    · cases h1
end
end TP
/-! TPm: reckoning with the mirrors. -/
namespace TP
open PySem L2
@[simp] theorem R.bind_ok {α β : Type} (a : α) (M : Store) (f : α → Store → R β) : (R.ok a M).bind f = f a M := rfl
@[simp] theorem R.map_ok {α β : Type} (a : α) (M : Store) (f : α → β) : (R.ok a M).map f = .ok (f a) M := rfl
@[simp] theorem R.out_ok {α : Type} (a : α) (M : Store) (f : α → Store → Out) : (R.ok a M).out f = f a M := rfl
@[simp] theorem R.of_some {α : Type} (a : α) (M : Store) : R.of (some a) M = .ok a M := rfl
@[simp] theorem szL : sizeLine = 16777216 := sizeLine_eq
@[simp] theorem Slot.d_val (d : D) : (Slot.val d).d = d := rfl
@[simp] theorem Slot.d_own (ds : List D) : (Slot.own ds).d = .lst ds := rfl
@[simp] theorem sNil_eq (ρ : EnvD) (M : Store) : sNil ρ M = .next ρ M := rfl
@[simp] theorem dC_eq (d : D) (ρ : EnvD) (M : Store) : dC d ρ M = .ok d M := rfl
@[simp] theorem dNil_eq (ρ : EnvD) (M : Store) : dNil ρ M = .ok [] M := rfl
@[simp] theorem dYes_eq (ρ : EnvD) (M : Store) : dYes ρ M = .ok true M := rfl

/-! ### what the pieces do, for simp -/
section
variable (ρ : EnvD) (M : Store)
@[simp] theorem dVar_eq (i : Nat) : dVar i ρ M = match ρ[i]? with
  | some (.val d) => .ok d M
  | _ => .bad := rfl
@[simp] theorem dVarB_eq (i : Nat) : dVarB i ρ M = match ρ[i]? with
  | some (.val d) => .ok d M
  | some (.own ds) => .ok (.lst ds) M
  | _ => .bad := rfl
@[simp] theorem dEF_eq (f : FE) : dEF f ρ M = (f ρ M).map Slot.d := rfl
@[simp] theorem dFE_eq (f : FD) : dFE f ρ M = (f ρ M).map Slot.val := rfl
@[simp] theorem dOp1_eq (g : Store → D → Option Slot) (f : FD) : dOp1 g f ρ M = (f ρ M).bind fun x M => R.of (g M x) M := rfl
@[simp] theorem dOp2_eq (g : Store → D → D → Option Slot) (fa fb : FD) : dOp2 g fa fb ρ M = (fa ρ M).bind fun x M => (fb ρ M).bind fun y M => R.of (g M x y) M := rfl
@[simp] theorem dPr_eq (g : Store → List D → Option Slot) (fs : FL) : dPr g fs ρ M = (fs ρ M).bind fun ds M => R.of (g M ds) M := rfl
@[simp] theorem dCons_eq (f : FD) (fs : FL) : dCons f fs ρ M = (f ρ M).bind fun d M => (fs ρ M).bind fun ds M => .ok (d :: ds) M := rfl
@[simp] theorem dTup_eq (fs : FL) : dTup fs ρ M = (fs ρ M).bind fun ds M => if ds.length ≤ sizeLine then .ok (.tup ds) M else .bad := rfl
@[simp] theorem dLst_eq (fs : FL) : dLst fs ρ M = (fs ρ M).bind fun ds M => if ds.length ≤ sizeLine then .ok (.own ds) M else .bad := rfl
@[simp] theorem dTru_eq (f : FD) : dTru f ρ M = (f ρ M).bind fun x M => R.of (truD M x) M := rfl
@[simp] theorem dBo_eq (f : FE) : dBo f ρ M = (f ρ M).bind fun x M => R.of (boD x.d) M := rfl
@[simp] theorem dNot_eq (f : FB) : dNot f ρ M = (f ρ M).map fun b => !b := rfl
@[simp] theorem dAnd_eq (f g : FB) : dAnd f g ρ M = (f ρ M).bind fun b M => if b then g ρ M else .ok false M := rfl
@[simp] theorem dOr_eq (f g : FB) : dOr f g ρ M = (f ρ M).bind fun b M => if b then .ok true M else g ρ M := rfl
@[simp] theorem dIf_eq (c : FB) (f g : FE) : dIf c f g ρ M = (c ρ M).bind fun b M => if b then f ρ M else g ρ M := rfl
@[simp] theorem dAndV_eq (f g : FE) : dAndV f g ρ M = (f ρ M).bind fun x M => match x with
  | .val (.bl true) => g ρ M
  | .val (.bl false) => .ok (.val (.bl false)) M
  | _ => .bad := rfl
@[simp] theorem dOrV_eq (f g : FE) : dOrV f g ρ M = (f ρ M).bind fun x M => match x with
  | .val (.bl true) => .ok (.val (.bl true)) M
  | .val (.bl false) => g ρ M
  | _ => .bad := rfl
@[simp] theorem dNotV_eq (f : FE) : dNotV f ρ M = (f ρ M).bind fun x M => match x with
  | .val (.bl b) => .ok (.val (.bl (!b))) M
  | _ => .bad := rfl
@[simp] theorem dMeth_eq (T : String) (g : Store → D → List D → Option Slot) (fo : FD) (fs : FL) : dMeth T g fo fs ρ M = (fo ρ M).bind fun x M => if tyD M x = some T then (fs ρ M).bind fun ds M => R.of (g M x ds) M else .bad := rfl
@[simp] theorem dMeth0_eq (T : String) (g : Store → D → List D → Option Slot) (fo : FD) : dMeth0 T g fo ρ M = (fo ρ M).bind fun x M => if tyD M x = some T then R.of (g M x []) M else .bad := rfl
@[simp] theorem dNo_eq : dNo ρ M = .ok none M := rfl
@[simp] theorem dSo_eq (f : FD) : dSo f ρ M = (f ρ M).bind fun x M => match x with
  | .int i => .ok (some i) M
  | _ => .bad := rfl
@[simp] theorem dSl_eq (g : Store → D → Option Int → Option Int → Option Slot) (f : FD) (lo hi : FO) : dSl g f lo hi ρ M = (f ρ M).bind fun x M => (lo ρ M).bind fun l M => (hi ρ M).bind fun u M => R.of (g M x l u) M := rfl
@[simp] theorem dCall_eq (n : Nat) (m : Fn) (fs : FL) : dCall n m fs ρ M = (fs ρ M).bind fun ds M => if ds.length = n then m ds M else .bad := rfl
@[simp] theorem dIt_eq (f : FD) : dIt f ρ M = (f ρ M).bind fun x M => R.of (itemsD x) M := rfl
@[simp] theorem dRng1_eq (fs : FL) : dRng1 fs ρ M = (fs ρ M).bind fun ds M => R.of (rng1D ds) M := rfl
@[simp] theorem dRng2_eq (fs : FL) : dRng2 fs ρ M = (fs ρ M).bind fun ds M => R.of (rng2D ds) M := rfl
@[simp] theorem dEnum_eq (fs : FL) : dEnum fs ρ M = (fs ρ M).bind fun ds M => match ds with
  | [.lst es] => .ok (enumL es) M
  | [.fro es] => .ok (enumL es) M
  | _ => .bad := rfl
@[simp] theorem dZip_eq (fs : FL) : dZip fs ρ M = (fs ρ M).bind fun ds M => match ds with
  | [.lst xs, .lst ys] => .ok (zipL xs ys) M
  | [.tup xs, .tup ys] => .ok (zipL xs ys) M
  | _ => .bad := rfl
@[simp] theorem dRev_eq (f : FD) : dRev f ρ M = (f ρ M).bind fun d M => match d with
  | .lst xs => .ok xs.reverse M
  | .fro xs => .ok xs.reverse M
  | .tup xs => .ok xs.reverse M
  | _ => .bad := rfl
@[simp] theorem dLc_eq (fi : FL) (b : D → EnvD → Option EnvD) (c : FB) (f : FD) (vs : List Nat) : dLc fi b c f vs ρ M = (fi ρ M).bind fun items M => (lcGo b c f (wipeD ρ vs) items [] M).map Slot.own := rfl
@[simp] theorem dChain_eq (g g' : Store → D → D → Option Slot) (fa fb fc : FD) : dChain g g' fa fb fc ρ M = (fa ρ M).bind fun x M => (fb ρ M).bind fun y M => match g M x y with
  | some (.val (.bl true)) => (fc ρ M).bind fun z M => R.of (g' M y z) M
  | some (.val (.bl false)) => .ok (.val (.bl false)) M
  | _ => .bad := rfl
@[simp] theorem dRef_eq (f : FE) : dRef f ρ M = (f ρ M).bind fun x M => match x with
  | .own ds => .ok (.val (.ref M.length)) (M ++ [.lst ds])
  | _ => .bad := rfl
@[simp] theorem dNewK_eq : dNewK ρ M = .ok (.ref M.length) (M ++ [.dK []]) := rfl
@[simp] theorem bName_eq (i : Nat) (d : D) : bName i d ρ = some (ρ.set i (.val d)) := rfl
@[simp] theorem sSeq_eq (g h : FS) : sSeq g h ρ M = match g ρ M with
  | .next ρ M => h ρ M
  | o => o := rfl
@[simp] theorem sExpr_eq (f : FE) : sExpr f ρ M = (f ρ M).out fun _ M => .next ρ M := rfl
@[simp] theorem sRet_eq (f : FE) : sRet f ρ M = (f ρ M).out fun x M => .ret x M := rfl
@[simp] theorem sRetN_eq : sRetN ρ M = .ret (.val .non) M := rfl
@[simp] theorem sRetV_eq (i : Nat) : sRetV i ρ M = match ρ[i]? with
  | some (.val d) => .ret (.val d) M
  | some (.own ds) => .ret (.own ds) M
  | _ => .bad := rfl
@[simp] theorem sSet_eq (i : Nat) (f : FE) : sSet i f ρ M = (f ρ M).out fun x M => match x with
  | .un => .bad
  | x => .next (ρ.set i x) M := rfl
@[simp] theorem sAsg_eq (b : D → EnvD → Option EnvD) (f : FD) : sAsg b f ρ M = (f ρ M).out fun x M => match b x ρ with
  | some ρ' => .next ρ' M
  | none => .bad := rfl
@[simp] theorem sPar_eq (i j : Nat) (fs : FL) : sPar i j fs ρ M = (fs ρ M).out fun ds M => match ds with
  | [x, y] => .next ((ρ.set i (.val x)).set j (.val y)) M
  | _ => .bad := rfl
@[simp] theorem sIf_eq (c : FB) (g h : FS) : sIf c g h ρ M = (c ρ M).out fun b M => if b then g ρ M else h ρ M := rfl
@[simp] theorem sFor_eq (fi : FL) (b : D → EnvD → Option EnvD) (body : FS) : sFor fi b body ρ M = (fi ρ M).out fun items M => forGo b body items ρ M := rfl
@[simp] theorem sApp_eq (i : Nat) (f : FD) : sApp i f ρ M = match ρ[i]? with
  | some (.own ds) => (f ρ M).out fun d M => if ds.length < sizeLine then .next (ρ.set i (.own (ds ++ [d]))) M else .bad
  | _ => .bad := rfl
@[simp] theorem sExt_eq (i : Nat) (f : FD) : sExt i f ρ M = match ρ[i]? with
  | some (.own ds) => (f ρ M).out fun d M => match lstOf M d with
    | some es => if ds.length + es.length ≤ sizeLine then .next (ρ.set i (.own (ds ++ es))) M else .bad
    | none => .bad
  | _ => .bad := rfl
@[simp] theorem sFz_eq (i : Nat) (g : FS) : sFz i g ρ M = match ρ[i]? with
  | some (.own ds) => g (ρ.set i (.val (.lst ds))) M
  | _ => g ρ M := rfl
@[simp] theorem sAug_eq (i : Nat) (g : Store → D → D → Option Slot) (f : FD) : sAug i g f ρ M = match ρ[i]? with
  | some (.val x) => (f ρ M).out fun y M => match g M x y with
    | some (.val z) => .next (ρ.set i (.val z)) M
    | _ => .bad
  | _ => .bad := rfl
@[simp] theorem sPutR_eq (f fo fi : FD) : sPutR f fo fi ρ M = (f ρ M).out fun x M => (fo ρ M).out fun o M => (fi ρ M).out fun i M => match o, i with
  | .ref k, .int j => match M[k]? with
    | some (.lst ds) => match ixN ds.length j with
      | some n => .next ρ (M.set k (.lst (ds.set n x)))
      | none => .bad
    | _ => .bad
  | _, _ => .bad := rfl
end
/-! ### primitives -/
section
variable (M : Store)
@[simp] theorem addD_int (i j : Int) : addD M (.int i) (.int j) = some (.val (.int (i + j))) := rfl
@[simp] theorem subD_int (i j : Int) : subD M (.int i) (.int j) = some (.val (.int (i - j))) := rfl
@[simp] theorem mulD_int (i j : Int) : mulD M (.int i) (.int j) = if mulOk i j then some (.val (.int (i * j))) else none := rfl
@[simp] theorem fdivD_int (i j : Int) : fdivD M (.int i) (.int j) = if 0 < j ∧ j < 1073741824 then some (.val (.int (i / j))) else if 0 < j ∧ j.natAbs.log2 < 9000 then some (.val (.int (i / j))) else if j ≠ 0 ∧ j.natAbs < 1073741824 then some (.val (.int (i.fdiv j))) else if j ≠ 0 ∧ j.natAbs.log2 < 9000 then some (.val (.int (i.fdiv j))) else none := rfl
@[simp] theorem modD_int (i j : Int) : modD M (.int i) (.int j) = if 0 < j then some (.val (.int (i % j))) else if j ≠ 0 then some (.val (.int (i.fmod j))) else none := rfl
@[simp] theorem powD_int (i j : Int) : powD M (.int i) (.int j) = if 0 ≤ j ∧ j ≤ 1000000 ∧ i.natAbs < 2 ^ 64 then some (.val (.int (i ^ j.toNat))) else none := rfl
@[simp] theorem negD_int (i : Int) : negD M (.int i) = some (.val (.int (-i))) := rfl
@[simp] theorem cmpD_int (p : Int → Int → Bool) (i j : Int) : cmpD p M (.int i) (.int j) = some (.val (.bl (p i j))) := rfl
@[simp] theorem boD_bl (b : Bool) : boD (.bl b) = some b := rfl
@[simp] theorem truD_bl (b : Bool) : truD M (.bl b) = some b := rfl
@[simp] theorem idxD_tup (ds : List D) (i : Int) : idxD M (.tup ds) (.int i) = (atI ds i).map Slot.val := rfl
@[simp] theorem idxD_kt (ds : List D) (i : Int) : idxD M (.kt ds) (.int i) = (atI ds i).map Slot.val := rfl
@[simp] theorem idxD_lst (ds : List D) (i : Int) : idxD M (.lst ds) (.int i) = (atI ds i).map Slot.val := rfl
@[simp] theorem idxD_str (z : Str) (i : Int) : idxD M (.str z) (.int i) = if z.length ≤ sizeLine then (atI z.cps.toList i).map fun c => .val (.str ⟨#[c]⟩) else none := rfl
@[simp] theorem lenD_lst (ds : List D) : lenD M [.lst ds] = some (.val (.int ds.length)) := rfl
@[simp] theorem lenD_fro (ds : List D) : lenD M [.fro ds] = some (.val (.int ds.length)) := rfl
@[simp] theorem lenD_tup (ds : List D) : lenD M [.tup ds] = some (.val (.int ds.length)) := rfl
@[simp] theorem lenD_str (z : Str) : lenD M [.str z] = if z.length ≤ sizeLine then some (.val (.int z.length)) else none := rfl
theorem idxD_ref {k : Nat} {ds : List D} (h : M[k]? = some (.lst ds)) (i : Int) : idxD M (.ref k) (.int i) = (atI ds i).map Slot.val := by
  simp [idxD, seqOf, lstOf, h]
end
@[simp] theorem rng1D_int (j : Int) : rng1D [.int j] = if -(2 ^ 62) ≤ j ∧ j < 2 ^ 62 then some (rngL 0 j.toNat) else none := rfl
@[simp] theorem rng2D_int (i j : Int) : rng2D [.int i, .int j] = if -(2 ^ 62) ≤ i ∧ i < 2 ^ 62 ∧ -(2 ^ 62) ≤ j ∧ j < 2 ^ 62 then some (rngL i (j - i).toNat) else none := rfl
theorem rng1_ok {j : Int} (h0 : -(2 ^ 62) ≤ j) (h1 : j < 2 ^ 62) : rng1D [.int j] = some (rngL 0 j.toNat) := by rw [rng1D_int, if_pos ⟨h0, h1⟩]
theorem rngL_get {lo : Int} {n i : Nat} {d : D} (h : (rngL lo n)[i]? = some d) : i < n ∧ d = .int (lo + i) := by
  have hi : i < n := by have := (List.getElem?_eq_some_iff.mp h).1; rwa [rngL_len] at this
  unfold rngL at h
  rw [List.getElem?_map, List.getElem?_range hi] at h
  cases h
  exact ⟨hi, rfl⟩
section
variable (M : Store)
theorem eqvD_int (i j : Int) : eqvD (.int i) (.int j) = decide (i = j) := by
  rw [Bool.eq_iff_iff]; simp [eqvD]
theorem eqvD_bl (i j : Bool) : eqvD (.bl i) (.bl j) = decide (i = j) := by
  rw [Bool.eq_iff_iff]; simp [eqvD]
theorem eqvD_str (i j : Str) : eqvD (.str i) (.str j) = decide (i = j) := by
  rw [Bool.eq_iff_iff]; simp [eqvD]
@[simp] theorem eqD_int (i j : Int) : eqD M (.int i) (.int j) = some (.val (.bl (decide (i = j)))) := by
  have h : eqD M (.int i) (.int j) = some (.val (.bl (eqvD (.int i) (.int j)))) := rfl
  rw [h, eqvD_int]
@[simp] theorem neD_int (i j : Int) : neD M (.int i) (.int j) = some (.val (.bl (!decide (i = j)))) := by
  have h : neD M (.int i) (.int j) = some (.val (.bl (!eqvD (.int i) (.int j)))) := rfl
  rw [h, eqvD_int]
@[simp] theorem eqD_bl (i j : Bool) : eqD M (.bl i) (.bl j) = some (.val (.bl (decide (i = j)))) := by
  have h : eqD M (.bl i) (.bl j) = some (.val (.bl (eqvD (.bl i) (.bl j)))) := rfl
  rw [h, eqvD_bl]
@[simp] theorem neD_bl (i j : Bool) : neD M (.bl i) (.bl j) = some (.val (.bl (!decide (i = j)))) := by
  have h : neD M (.bl i) (.bl j) = some (.val (.bl (!eqvD (.bl i) (.bl j)))) := rfl
  rw [h, eqvD_bl]
/-- signs as they are -/
def okStr (x : Str) : Bool := x.cps.all (· < 0x110000)
theorem eqS (i j : Str) : eqD M (.str i) (.str j) = some (.val (.bl (decide (i = j)))) := rfl
theorem neS (i j : Str) : neD M (.str i) (.str j) = some (.val (.bl (!decide (i = j)))) := rfl
theorem eqD_str {i j : Str} (hi : okStr i = true) (hj : okStr j = true) : eqD M (.str i) (.str j) = some (.val (.bl (decide (i = j)))) := rfl
theorem neD_str {i j : Str} (hi : okStr i = true) (hj : okStr j = true) : neD M (.str i) (.str j) = some (.val (.bl (!decide (i = j)))) := rfl
theorem strP_eqv {x y : D} {b : Bool} (h : strP x y = some b) : b = eqvD x y := by
  obtain ⟨i, j, rfl, rfl, rfl⟩ := strP_at h
  rw [eqvD_str]
theorem eqD_of {x y : D} (hx : goodD x = true) (hy : goodD y = true) (hd : dpD x ≤ 190) : eqD M x y = some (.val (.bl (eqvD x y))) := by
  unfold eqD
  split
  · rename_i b hb
    rw [strP_eqv hb]
  · rw [der_good M hx, der_good M hy, hx, hy, if_pos (by simp; omega)]
theorem neD_of {x y : D} (hx : goodD x = true) (hy : goodD y = true) (hd : dpD x ≤ 190) : neD M x y = some (.val (.bl (!eqvD x y))) := by
  unfold neD
  split
  · rename_i b hb
    rw [strP_eqv hb]
  · rw [der_good M hx, der_good M hy, hx, hy, if_pos (by simp; omega)]
end
theorem mulOk_l {i j : Int} (h : -(2 ^ 64) < i) (h' : i < 2 ^ 64) : mulOk i j = true := by
  unfold mulOk
  rw [decide_eq_true (show -(2 ^ 64) < i ∧ i < 2 ^ 64 from ⟨h, h'⟩)]
  rfl
theorem mulOk_r {i j : Int} (h : -(2 ^ 64) < j) (h' : j < 2 ^ 64) : mulOk i j = true := by
  unfold mulOk
  rw [decide_eq_true (show -(2 ^ 64) < j ∧ j < 2 ^ 64 from ⟨h, h'⟩), Bool.or_true]
  rfl
/-! ### comprehensions -/
theorem lcGo_fm {b : D → EnvD → Option EnvD} {c : FB} {f : FD} {ρ0 : EnvD} {M : Store} (p : D → Bool) (g : D → D) : ∀ (items acc : List D),
    (∀ d ∈ items, ∃ ρ1, b d ρ0 = some ρ1 ∧ c ρ1 M = .ok (p d) M ∧ (p d = true → f ρ1 M = .ok (g d) M)) → acc.length + items.length ≤ sizeLine → lcGo b c f ρ0 items acc M = .ok (acc ++ (items.filter p).map g) M
  | [], acc, _, _ => by simp [lcGo]
  | d :: ds, acc, h, hl => by
    obtain ⟨ρ1, h1, h2, h3⟩ := h d List.mem_cons_self
    unfold lcGo
    rw [h1]
    simp only
    rw [h2]
    rw [List.length_cons] at hl
    cases hp : p d with
    | false =>
      simp only
      rw [lcGo_fm p g ds acc (fun x hx => h x (List.mem_cons_of_mem _ hx)) (by omega), List.filter_cons_of_neg (by rw [hp]; decide)]
    | true =>
      simp only
      rw [h3 hp]
      simp only
      rw [if_pos (by omega), lcGo_fm p g ds (acc ++ [g d]) (fun x hx => h x (List.mem_cons_of_mem _ hx)) (by rw [List.length_append, List.length_singleton]; omega), List.filter_cons_of_pos hp, List.map_cons, List.append_assoc]
      rfl
theorem lcGo_map {b : D → EnvD → Option EnvD} {f : FD} {ρ0 : EnvD} {M : Store} (g : D → D) (items : List D) (h : ∀ d ∈ items, ∃ ρ1, b d ρ0 = some ρ1 ∧ f ρ1 M = .ok (g d) M) (hl : items.length ≤ sizeLine) : lcGo b dYes f ρ0 items [] M = .ok (items.map g) M := by
  rw [lcGo_fm (fun _ => true) g items [] (fun d hd => by obtain ⟨ρ1, h1, h2⟩ := h d hd; exact ⟨ρ1, h1, rfl, fun _ => h2⟩) (by simpa using hl)]
  rw [List.filter_eq_self.mpr (fun _ _ => rfl), List.nil_append]
/-- by an invariant over the turn, what is made so far, the store -/
theorem lcGo_inv {b : D → EnvD → Option EnvD} {f : FD} {ρ0 : EnvD} (I : Nat → List D → Store → Prop) (items : List D) (hl : items.length ≤ sizeLine)
    (step : ∀ i d acc M, items[i]? = some d → I i acc M → ∃ ρ1, b d ρ0 = some ρ1 ∧ ∃ y M', f ρ1 M = .ok y M' ∧ I (i + 1) (acc ++ [y]) M') :
    ∀ (n i : Nat) (acc : List D) (M : Store), n + i = items.length → acc.length = i → I i acc M → ∃ res M', lcGo b dYes f ρ0 (items.drop i) acc M = .ok res M' ∧ I items.length res M' ∧ res.length = items.length
  | 0, i, acc, M, e, ha, h => by
    have ei : i = items.length := by omega
    subst ei
    rw [List.drop_length]
    exact ⟨acc, M, rfl, h, ha⟩
  | n + 1, i, acc, M, e, ha, h => by
    have hi : i < items.length := by omega
    rw [List.drop_eq_getElem_cons hi]
    obtain ⟨ρ1, h1, y, M', h2, h3⟩ := step i items[i] acc M (List.getElem?_eq_getElem hi) h
    unfold lcGo
    rw [h1]
    simp only [dYes_eq]
    rw [h2]
    simp only
    rw [if_pos (by omega)]
    exact lcGo_inv I items hl step n (i + 1) (acc ++ [y]) M' (by omega) (by rw [List.length_append, ha]; rfl) h3
/-! ### loops -/
/-- a loop that goes on to its end -/
theorem forGo_inv {b : D → EnvD → Option EnvD} {body : FS} (I : Nat → EnvD → Store → Prop) (items : List D)
    (step : ∀ i d ρ M, items[i]? = some d → I i ρ M → ∃ ρ1, b d ρ = some ρ1 ∧ ((∃ ρ2 M2, body ρ1 M = .next ρ2 M2 ∧ I (i + 1) ρ2 M2) ∨ ∃ ρ2 M2, body ρ1 M = .cont ρ2 M2 ∧ I (i + 1) ρ2 M2)) :
    ∀ (n i : Nat) (ρ : EnvD) (M : Store), n + i = items.length → I i ρ M → ∃ ρ' M', forGo b body (items.drop i) ρ M = .next ρ' M' ∧ I items.length ρ' M'
  | 0, i, ρ, M, e, h => by
    have ei : i = items.length := by omega
    subst ei
    rw [List.drop_length]
    exact ⟨ρ, M, rfl, h⟩
  | n + 1, i, ρ, M, e, h => by
    have hi : i < items.length := by omega
    rw [List.drop_eq_getElem_cons hi]
    obtain ⟨ρ1, h1, h2⟩ := step i items[i] ρ M (List.getElem?_eq_getElem hi) h
    unfold forGo
    rw [h1]
    simp only
    rcases h2 with ⟨ρ2, M2, h2, h3⟩ | ⟨ρ2, M2, h2, h3⟩
    · rw [h2]
      exact forGo_inv I items step n (i + 1) ρ2 M2 (by omega) h3
    · rw [h2]
      exact forGo_inv I items step n (i + 1) ρ2 M2 (by omega) h3
theorem forGo_all {b : D → EnvD → Option EnvD} {body : FS} (I : Nat → EnvD → Store → Prop) (items : List D) {ρ : EnvD} {M : Store} (h0 : I 0 ρ M)
    (step : ∀ i d ρ M, items[i]? = some d → I i ρ M → ∃ ρ1, b d ρ = some ρ1 ∧ ∃ ρ2 M2, body ρ1 M = .next ρ2 M2 ∧ I (i + 1) ρ2 M2) : ∃ ρ' M', forGo b body items ρ M = .next ρ' M' ∧ I items.length ρ' M' := by
  have := forGo_inv (b := b) (body := body) I items (fun i d ρ M hd h => by obtain ⟨ρ1, h1, h2⟩ := step i d ρ M hd h; exact ⟨ρ1, h1, .inl h2⟩) items.length 0 ρ M rfl h0
  simpa using this
theorem size_ok {n : Nat} (h : n ≤ 1000000) : n ≤ sizeLine := Nat.le_trans h (by decide)
end TP
/-! TPn: the laws' own numbers. -/
namespace TP
open PySem L2
def cellM : FS := (sSeq (sPutR (dEF (dOp2 addD (dEF (dOp2 idxD (dVarB 1) (dC (.int 0)))) (dC (.int 1)))) (dVarB 1) (dC (.int 0))) (sSeq (sSet 2 (dFE (dEF (dOp2 idxD (dVarB 1) (dC (.int 0)))))) (sSeq (sSet 3 (dFE (dEF (dOp2 addD (dEF (dOp2 mulD (dEF (dOp2 mulD (dC (.int 31)) (dVarB 2))) (dVarB 2))) (dEF (dOp2 mulD (dC (.int 7919)) (dVarB 2))))))) (sSeq (sIf (dAnd (dBo (dOp2 (cmpD fun i j => decide (j < i)) (dEF (dPr lenD (dCons (dVarB 0) dNil))) (dC (.int 0)))) (dAnd (dBo (dOp2 (cmpD fun i j => decide (j ≤ i)) (dEF (dOp2 idxD (dVarB 0) (dEF (dOp2 modD (dVarB 2) (dEF (dPr lenD (dCons (dVarB 0) dNil))))))) (dEF (dOp2 powD (dC (.int 10)) (dC (.int 18)))))) (dBo (dOp2 (cmpD fun i j => decide (i < j)) (dEF (dOp2 fdivD (dVarB 2) (dEF (dPr lenD (dCons (dVarB 0) dNil))))) (dC (.int 60)))))) (sSeq (sSet 4 (dFE (dEF (dOp2 idxD (dVarB 0) (dEF (dOp2 modD (dVarB 2) (dEF (dPr lenD (dCons (dVarB 0) dNil))))))))) (sSeq (sFor (dRng1 (dCons (dEF (dOp2 fdivD (dVarB 2) (dEF (dPr lenD (dCons (dVarB 0) dNil))))) dNil)) (bName 5) (sSeq (sSet 4 (dFE (dEF (dOp2 fdivD (dVarB 4) (dC (.int 306783379)))))) sNil)) (sSeq (sIf (dBo (dOp2 (cmpD fun i j => decide (j < i)) (dVarB 4) (dC (.int 0)))) (sSeq (sRet (dOp2 modD (dVarB 4) (dC (.int 306783379)))) sNil) sNil) sNil))) sNil) (sSeq (sIf (dBo (dOp2 (cmpD fun i j => decide (j < i)) (dEF (dPr lenD (dCons (dVarB 0) dNil))) (dC (.int 0)))) (sSeq (sSet 3 (dFE (dEF (dOp2 addD (dVarB 3) (dEF (dOp2 mulD (dEF (dOp2 modD (dEF (dOp2 idxD (dVarB 0) (dEF (dOp2 modD (dVarB 2) (dEF (dPr lenD (dCons (dVarB 0) dNil))))))) (dC (.int 2147483629)))) (dEF (dOp2 addD (dC (.int 1)) (dEF (dOp2 fdivD (dVarB 2) (dEF (dPr lenD (dCons (dVarB 0) dNil))))))))))))) sNil) sNil) (sSeq (sRet (dOp2 fdivD (dEF (dOp2 modD (dEF (dOp2 mulD (dEF (dOp2 modD (dEF (dOp2 mulD (dVarB 3) (dC (.int 48271)))) (dC (.int 2147483647)))) (dC (.int 69621)))) (dC (.int 2147483629)))) (dC (.int 7)))) sNil))))))
theorem atI_ints {ns : List Int} {i : Int} (h0 : 0 ≤ i) (h1 : i < ns.length) : ∃ v, atI (ns.map D.int) i = some (.int v) := by
  have hi : i.toNat < ns.length := by omega
  have e : ((i.toNat : Nat) : Int) = i := by omega
  generalize i.toNat = j at hi e
  subst e
  refine ⟨ns[j], ?_⟩
  exact atI_nat (by rw [List.getElem?_map, List.getElem?_eq_getElem hi]; rfl)
set_option maxHeartbeats 2000000 in
theorem cell_genB (c : D) (ns : List Int) (hlen : ∀ M, lenD M [c] = some (.val (.int ns.length))) (hidx : ∀ M i, idxD M c (.int i) = (atI (ns.map D.int) i).map Slot.val) (j : Nat) (k : Int) (M : Store) (hns : ns.length ≤ 63) (hj : M[j]? = some (.lst [.int k])) (h0 : -1 ≤ k) (h1 : k < 2 ^ 40) :
    ∃ r : Int, (0 ≤ r ∧ r < 306783379) ∧ runF 6 cellM [c, .ref j] M = .ok (.val (.int r)) (M.set j (.lst [.int (k + 1)])) := by
  have hjl : j < M.length := (List.getElem?_eq_some_iff.mp hj).1
  have hM : (M.set j (.lst [.int (k + 1)]))[j]? = some (.lst [.int (k + 1)]) := List.getElem?_set_self hjl
  have a0 : ∀ d : D, atI [d] 0 = some d := fun d => rfl
  have i0 : ixN 1 0 = some 0 := rfl
  have m1 : mulOk 31 (k + 1) = true := mulOk_l (by decide) (by decide)
  have m2 : mulOk (31 * (k + 1)) (k + 1) = true := mulOk_r (by omega) (by omega)
  have m3 : mulOk 7919 (k + 1) = true := mulOk_l (by decide) (by decide)
  have m4 : ∀ x, mulOk x 48271 = true := fun x => mulOk_r (by decide) (by decide)
  have m5 : ∀ x, mulOk x 69621 = true := fun x => mulOk_r (by decide) (by decide)
  have fin : ∀ b : Int, 0 ≤ b * 48271 % 2147483647 * 69621 % 2147483629 / 7 ∧ b * 48271 % 2147483647 * 69621 % 2147483629 / 7 < 306783379 := fun b => by omega
  unfold runF cellM startD
  cases ns with
  | nil =>
    simp [hlen, hidx, idxD_ref _ hj, idxD_ref _ hM, hj, a0, i0, m1, m2, m3, m4, m5]
    exact fin _
  | cons n ns =>
    have hl : 0 < (n :: ns).length := by simp
    generalize hL : ((n :: ns).length : Nat) = L at hl hns
    generalize hA : n :: ns = all at hL hlen hidx
    have hp1 : 0 ≤ (k + 1) % (L : Int) := Int.emod_nonneg _ (by omega)
    have hp2 : (k + 1) % (L : Int) < L := Int.emod_lt_of_pos _ (by omega)
    obtain ⟨v, hv⟩ := atI_ints (ns := all) hp1 (by omega)
    have m6 : mulOk (v % 2147483629) (1 + (k + 1) / (L : Int)) = true := mulOk_l (by omega) (by omega)
    have hdiv : (L : Int) < 1073741824 := by omega
    have hq0 : 0 ≤ (k + 1) / (L : Int) := Int.ediv_nonneg (by omega) (by omega)
    have hq1 : (k + 1) / (L : Int) ≤ k + 1 := Int.ediv_le_self _ (by omega)
    simp only [List.replicate, List.map_cons, List.map_nil, List.length_cons, List.length_nil]
    by_cases hv2 : 1000000000000000000 ≤ v ∧ (k + 1) / (L : Int) < 60
    · -- its own digits
      have hr : -4611686018427387904 ≤ (k + 1) / (L : Int) ∧ (k + 1) / (L : Int) < 4611686018427387904 := ⟨by omega, by omega⟩
      obtain ⟨ρ', M', e1, ⟨x, y, e2⟩, e3⟩ := forGo_all (b := bName 5) (body := (sSeq (sSet 4 (dFE (dEF (dOp2 fdivD (dVarB 4) (dC (D.int 306783379)))))) sNil))
        (fun _ ρ N => (∃ (x : Int) (y : Slot), ρ = [Slot.val c, Slot.val (D.ref j), Slot.val (D.int (k + 1)), Slot.val (D.int (31 * (k + 1) * (k + 1) + 7919 * (k + 1))), Slot.val (D.int x), y]) ∧ N = M.set j (.lst [.int (k + 1)]))
        (rngL 0 ((k + 1) / (L : Int)).toNat) (ρ := [Slot.val c, Slot.val (D.ref j), Slot.val (D.int (k + 1)), Slot.val (D.int (31 * (k + 1) * (k + 1) + 7919 * (k + 1))), Slot.val (D.int v), .un]) (M := M.set j (.lst [.int (k + 1)])) ⟨⟨v, .un, rfl⟩, rfl⟩
        (fun i d ρ N hd ⟨⟨x, y, e⟩, eN⟩ => by
          subst e eN
          refine ⟨_, rfl, _, _, by simp; rfl, ⟨x / 306783379, .val d, by simp⟩, rfl⟩)
      subst e2 e3
      by_cases hx : 0 < x
      · refine ⟨x % 306783379, by omega, ?_⟩
        simp [hlen, hidx, idxD_ref _ hj, idxD_ref _ hM, hj, a0, i0, m1, m2, m3, m4, m5, m6, hL, hv, hdiv, hl, hv2.1, hv2.2, hr, e1, hx]
      · simp [hlen, hidx, idxD_ref _ hj, idxD_ref _ hM, hj, a0, i0, m1, m2, m3, m4, m5, m6, hL, hv, hdiv, hl, hv2.1, hv2.2, hr, e1, hx]
        exact fin _
    · have hv3 : (if 1000000000000000000 ≤ v then decide ((k + 1) / (L : Int) < 60) else false) = false := by
        split
        · exact decide_eq_false fun z => hv2 ⟨by assumption, z⟩
        · rfl
      by_cases hv4 : 1000000000000000000 ≤ v
      · have hv5 : ¬ (k + 1) / (L : Int) < 60 := fun z => hv2 ⟨hv4, z⟩
        simp [hlen, hidx, idxD_ref _ hj, idxD_ref _ hM, hj, a0, i0, m1, m2, m3, m4, m5, m6, hL, hv, hdiv, hl, hv4, hv5]
        exact fin _
      · simp [hlen, hidx, idxD_ref _ hj, idxD_ref _ hM, hj, a0, i0, m1, m2, m3, m4, m5, m6, hL, hv, hdiv, hl, hv4]
        exact fin _

theorem cell_gen (c : D) (ns : List Int) (hlen : ∀ M, lenD M [c] = some (.val (.int ns.length))) (hidx : ∀ M i, idxD M c (.int i) = (atI (ns.map D.int) i).map Slot.val) (j : Nat) (k : Int) (M : Store) (hns : ns.length ≤ 63) (hj : M[j]? = some (.lst [.int k])) (h0 : -1 ≤ k) (h1 : k < 2 ^ 40) :
    ∃ r : Int, 0 ≤ r ∧ runF 6 cellM [c, .ref j] M = .ok (.val (.int r)) (M.set j (.lst [.int (k + 1)])) := by
  obtain ⟨r, h, e⟩ := cell_genB c ns hlen hidx j k M hns hj h0 h1
  exact ⟨r, h.1, e⟩

theorem cell_fro (ns : List Int) (j : Nat) (k : Int) (M : Store) (hns : ns.length ≤ 63) (hj : M[j]? = some (.lst [.int k])) (h0 : -1 ≤ k) (h1 : k < 2 ^ 40) :
    ∃ r : Int, 0 ≤ r ∧ runF 6 cellM [.fro (ns.map .int), .ref j] M = .ok (.val (.int r)) (M.set j (.lst [.int (k + 1)])) :=
  cell_gen _ ns (fun M => by show some (Slot.val (D.int (List.map D.int ns).length)) = _; rw [List.length_map]) (fun M i => rfl) j k M hns hj h0 h1
theorem cell_ok (ns : List Int) (j : Nat) (k : Int) (M : Store) (hns : ns.length ≤ 63) (hj : M[j]? = some (.lst [.int k])) (h0 : -1 ≤ k) (h1 : k < 2 ^ 40) :
    ∃ r : Int, 0 ≤ r ∧ runF 6 cellM [.lst (ns.map .int), .ref j] M = .ok (.val (.int r)) (M.set j (.lst [.int (k + 1)])) :=
  cell_gen _ ns (fun M => by show some (Slot.val (D.int (List.map D.int ns).length)) = _; rw [List.length_map]) (fun M i => rfl) j k M hns hj h0 h1
theorem cell_okB (ns : List Int) (j : Nat) (k : Int) (M : Store) (hns : ns.length ≤ 63) (hj : M[j]? = some (.lst [.int k])) (h0 : -1 ≤ k) (h1 : k < 2 ^ 40) :
    ∃ r : Int, (0 ≤ r ∧ r < 306783379) ∧ runF 6 cellM [.lst (ns.map .int), .ref j] M = .ok (.val (.int r)) (M.set j (.lst [.int (k + 1)])) :=
  cell_genB _ ns (fun M => by show some (Slot.val (D.int (List.map D.int ns).length)) = _; rw [List.length_map]) (fun M i => rfl) j k M hns hj h0 h1
end TP
/-! TPo: more for reckoning: dicts, the laws' numbers out of any row. -/
namespace TP
open PySem L2
section
variable (ρ : EnvD) (M : Store)
@[simp] theorem dTab_eq (tab : List (Str × D)) (f : FD) : dTab tab f ρ M = (f ρ M).bind fun y M => match y with
  | .str z => R.of (tabFind tab z) M
  | _ => .bad := rfl
@[simp] theorem dNewT_eq : dNewT ρ M = .ok (.ref M.length) (M ++ [.dT []]) := rfl
@[simp] theorem sPutD_eq (f fo fi : FD) : sPutD f fo fi ρ M = (f ρ M).out fun z M => (fo ρ M).out fun x M => (fi ρ M).out fun y M => match dPutM M x y z with
  | some M' => .next ρ M'
  | none => .bad := rfl
@[simp] theorem dDisp_eq (ks : List Str) (fs : List FD) : dDisp ks fs ρ M = (dVals fs ρ M).bind fun ds M => if ds.length = ks.length ∧ ks.length ≤ 15 then .ok (.ref M.length) (M ++ [.dK (mergeD ks ds)]) else .bad := rfl
end
end TP
/-! TPk: promises of defs where no repr is under way (guards), calls by them, the law's end. -/
namespace TP
open PySem L2
/-- a def's promise, wherever no repr is under way -/
structure GOk (P : Program) (wo : World) (K : PySem.W.Frag) (mg : Str → Option Value) (base : Heap) (CX : CXT) (k : Nat) (f : Addr) (fd : FuncData) (ps : List Str) (sp : Sp) : Prop where
  len : ∀ vs H Q EX, sp vs H Q EX → vs.length = ps.length
  go : ∀ (A : Around) (outer : List Env) (s : Shared) (H : Hp) (ar : Args) (us : List Value) (vs : List V) (Q : VK) (EX : XK),
    Room k A → A.guards = some [] → Env0 P wo K mg base A outer s H → BindsTo s fd ar (ps.zip us) → Vals vs us → sp vs H Q EX →
    codeAny (model P wo) A (.call (.ref f) ar) (CR CX outer P wo H s Q EX) s
section
variable {X : Cx} {CX : CXT} {k : Nat} {f C : Addr} {fd : FuncData} {ps : List Str} {sp : Sp} {EX : XK} {x m : Str} {p pos apos : Pos} {e o : Expr} {es : List Expr} {ta : TE} {t : TA}
theorem g_run {pins : List (Addr × Obj)} {σ : St} {H : Hp} {s : Shared} {Q : VK} {us : List Value} {vs : List V} (F : GOk X.prog X.w X.K X.mg X.base CX k f fd ps sp) (hr : Room k X.A) (hq : X.A.guards = some [])
    (hb : Binds X.K fd ps []) (hx : Passes CX X EX) (I : Inv X pins σ H s) (r : Vals vs us) (h : sp vs H Q EX) : wpAny (model X.prog X.w) X.A (call (.ref f) us) (EP X pins σ Q) X.xe s := by
  have hl : (us ++ []).length = ps.length := by
    rw [List.append_nil, ← r.length]
    exact F.len _ _ _ _ h
  have hb' := hb s us I.kIn hl
  rw [List.append_nil] at hb'
  refine wpAny_call (codeAny_mono (F.go X.A X.stack s H ⟨us, []⟩ us vs Q EX hr hq I.env0 hb' r h) fun z s' hz => ?_)
  match z, hz with
  | .error er, hz => exact hx pins σ H s er s' I hz
  | .ok (.ret u), hz => exact I.after hz
  | .ok .next, hz => exact False.elim hz
  | .ok .brk, hz => exact False.elim hz
  | .ok .cont, hz => exact False.elim hz
/-- f(e, ..) -/
theorem g_call (F : GOk X.prog X.w X.K X.mg X.base CX k f fd ps sp) (hr : Room k X.A) (hq : X.A.guards = some []) (hg : Gl X x) (hm : X.mg x = some (.ref f)) (hk : PySem.W.keepIn X.K (.ref f) = true) (hb : Binds X.K fd ps [])
    (hx : Passes CX X EX) (ha : PA X (e :: es) t) (hdb : (x == ("__debug__" : Str)) = false := by decide) (he : starEach (e :: es) X.env = (false, eval e X.env) :: starEach es X.env := by rfl)
    (hpl : (backTo pos (starEach es X.env)).any (·.1) = false := by rfl) : PE X (.Call (.Name x p) (e :: es) [] pos) (tCall sp [] EX t) :=
  ⟨fun pins s σ H Q I h => wpAny_Call_Name_kw (ld_glob I hg hm (PySem.W.callWith_K (h₀ := X.base) I.ok.mod.kin hk
    (thn (ha.run pos pins s σ H _ I h) fun us s1 ⟨vs, H1, I1, r, q⟩ => ⟨I1.kIn, g_run F hr hq hb hx I1 r (by have q' : sp (vs ++ []) H1 Q EX := q; rw [List.append_nil] at q'; exact q')⟩) he hpl) hdb)⟩
/-- f() -/
theorem g_call0 (F : GOk X.prog X.w X.K X.mg X.base CX k f fd ps sp) (hr : Room k X.A) (hq : X.A.guards = some []) (hg : Gl X x) (hm : X.mg x = some (.ref f)) (hk : PySem.W.keepIn X.K (.ref f) = true) (hb : Binds X.K fd ps [])
    (hx : Passes CX X EX) (hdb : (x == ("__debug__" : Str)) = false := by decide) : PE X (.Call (.Name x p) [] [] pos) (tCall sp [] EX tNil) :=
  ⟨fun pins s σ H Q I h => wpAny_Call_Name_kw (ld_glob I hg hm (PySem.W.callWith_K0 I.kIn hk (g_run (us := []) F hr hq hb hx I .nil h)) hdb)⟩
/-- o.m(e, ..) -/
theorem g_meth {pl : Sem Bool} (he : PE X o ta) (c : Cls X.K C) (hm : Meth X.K C m f) (F : GOk X.prog X.w X.K X.mg X.base CX k f fd ps sp) (hr : Room k X.A) (hq : X.A.guards = some []) (hb : Binds X.K fd ps []) (hx : Passes CX X EX)
    (ha : PA X (e :: es) t) (hst : starEach (e :: es) X.env = (false, eval e X.env) :: starEach es X.env := by rfl) (hpl : (backTo pos (starEach es X.env)).any (·.1) = false := by rfl)
    (ht : eval (.Call (.Attribute o m apos) (e :: es) [] pos) X.env = (do
      let ov ← eval o X.env
      standAt apos.atName
      let (fv, first) ← holding [ov] (getMethod ov m pl)
      callWith pos fv first (backTo pos (starEach (e :: es) X.env)) (backToKw pos (keywordEach [] X.env))) := by rfl) :
    PE X (.Call (.Attribute o m apos) (e :: es) [] pos) (tMeth C m sp [] EX ta t) := by
  constructor
  intro pins s σ H Q I h
  refine PySem.W.methodCall_KW (pl := pl) (thn (he.run pins s σ H _ I h) ?_) ht
  rintro u s1 ⟨_, H1, I1, rx, a, dx, fs, rfl, ea, l, q⟩
  obtain rfl : u = Value.ref a := rx
  refine getmeth_ok I1 ea c hm l (PySem.W.callWith_K (first := [.ref a]) (h₀ := X.base) I.ok.mod.kin hm.kp (thn (ha.run pos pins s1 σ H1 _ I1 q) ?_) hst hpl)
  rintro us s2 ⟨vs, H2, I2, r, q2⟩
  have q2' : sp (V.ref a :: (vs ++ [])) H2 Q EX := q2
  rw [List.append_nil] at q2'
  exact ⟨I2.kIn, g_run (us := .ref a :: us) (vs := .ref a :: vs) F hr hq hb hx I2 (.cons rfl r) q2'⟩
/-- o.m() -/
theorem g_meth0 {pl : Sem Bool} (he : PE X o ta) (c : Cls X.K C) (hm : Meth X.K C m f) (F : GOk X.prog X.w X.K X.mg X.base CX k f fd ps sp) (hr : Room k X.A) (hq : X.A.guards = some []) (hb : Binds X.K fd ps []) (hx : Passes CX X EX)
    (ht : eval (.Call (.Attribute o m apos) [] [] pos) X.env = (do
      let ov ← eval o X.env
      standAt apos.atName
      let (fv, first) ← holding [ov] (getMethod ov m pl)
      callWith pos fv first (backTo pos (starEach [] X.env)) (backToKw pos (keywordEach [] X.env))) := by rfl) :
    PE X (.Call (.Attribute o m apos) [] [] pos) (tMeth C m sp [] EX ta tNil) := by
  constructor
  intro pins s σ H Q I h
  refine PySem.W.methodCall_KW (pl := pl) (thn (he.run pins s σ H _ I h) ?_) ht
  rintro u s1 ⟨_, H1, I1, rx, a, dx, fs, rfl, ea, l, q⟩
  obtain rfl : u = Value.ref a := rx
  exact getmeth_ok I1 ea c hm l (PySem.W.callWith_K0 (first := [.ref a]) I1.kIn hm.kp (g_run (us := [.ref a]) (vs := [.ref a]) F hr hq hb hx I1 (.cons rfl .nil) q))
theorem make_guards {A : Around} {us : List Value} {kw : List (Str × Value)} (h : A.guards = some []) : (A.under (.builtin "type.__call__" ⟨.ref C :: us, kw⟩)).guards = some [] := by
  first | exact h | simp [Around.under, Code.guards, Code.isGuard, pushGuards, guardIds, h]
theorem g_mk {pins : List (Addr × Obj)} {σ : St} {H : Hp} {s : Shared} {Q : VK} {us : List Value} {vs : List V} (M : Mk X.K C f) (F : GOk X.prog X.w X.K X.mg X.base CX k f fd ps sp) (hr : Room (k + 1) X.A) (hq : X.A.guards = some [])
    (hb : Binds X.K fd ps []) (hx : Passes CX X EX) (I : Inv X pins σ H s) (r : Vals vs us)
    (h : ∀ y dx, H y = none → H dx = none → dx ≠ y → sp (.ref y :: vs) (upd (upd H dx (.own y)) y (.ins C dx [])) (fun v H2 => v = .non ∧ Q (.ref y) H2) EX) :
    wpAny (model X.prog X.w) X.A (call (.ref C) us) (EP X pins σ Q) X.xe s := by
  generalize hz : s.heap.objs.size = z at *
  have f0 : H z = none := I.hok.fresh (by omega)
  have f1 : H (z + 1) = none := I.hok.fresh (by omega)
  have h1 := h (z + 1) z f1 f0 (Nat.ne_of_lt (Nat.lt_succ_self z))
  have I2 := Inv.made (C := C) I
  rw [hz] at I2
  have r2 : Vals (V.ref (z + 1) :: vs) (Value.ref (z + 1) :: us) := .cons rfl r
  have hl : ((Value.ref (z + 1) :: us) ++ []).length = ps.length := by
    rw [List.append_nil, ← r2.length]
    exact F.len _ _ _ _ h1
  have hb' := hb _ (Value.ref (z + 1) :: us) I2.kIn hl
  rw [List.append_nil] at hb'
  refine wpAny_call (make_map (f := f) I.kIn M.makes M.init (beq_iff_eq.mp M.fn) ?_)
  rw [hz]
  refine codeAny_mono (F.go _ X.stack _ _ ⟨Value.ref (z + 1) :: us, []⟩ (Value.ref (z + 1) :: us) _ _ EX (hr.make C us []) (make_guards hq) (I2.env0.make C us []) hb' r2 h1) fun w s' hw => ?_
  match w, hw with
  | .error er, hw => exact hx pins σ _ _ er s' I2 hw
  | .ok .next, hw => exact False.elim hw
  | .ok .brk, hw => exact False.elim hw
  | .ok .cont, hw => exact False.elim hw
  | .ok (.ret u), hw =>
    obtain ⟨v, H', I3, rv, ev, q3⟩ := I2.after hw
    subst ev
    exact ⟨rv, V.ref (z + 1), H', I3, rfl, q3⟩
/-- C(e, ..) -/
theorem g_make (M : Mk X.K C f) (F : GOk X.prog X.w X.K X.mg X.base CX k f fd ps sp) (hr : Room (k + 1) X.A) (hq : X.A.guards = some []) (hg : Gl X x) (hm : X.mg x = some (.ref C)) (hb : Binds X.K fd ps []) (hx : Passes CX X EX)
    (ha : PA X (e :: es) t) (hdb : (x == ("__debug__" : Str)) = false := by decide) (he : starEach (e :: es) X.env = (false, eval e X.env) :: starEach es X.env := by rfl)
    (hpl : (backTo pos (starEach es X.env)).any (·.1) = false := by rfl) : PE X (.Call (.Name x p) (e :: es) [] pos) (tMake C sp [] EX t) :=
  ⟨fun pins s σ H Q I h => wpAny_Call_Name_kw (ld_glob I hg hm (PySem.W.callWith_K (h₀ := X.base) I.ok.mod.kin M.kp
    (thn (ha.run pos pins s σ H _ I h) fun us s1 ⟨vs, H1, I1, r, q⟩ => ⟨I1.kIn, g_mk M F hr hq hb hx I1 r fun y dx h1 h2 h3 => by have := q y dx h1 h2 h3; rw [List.append_nil] at this; exact this⟩) he hpl) hdb)⟩
end
section
open PySem.Spec PyProof.Rows
variable {K : PySem.W.Frag}
/-- a def by its body, wherever no repr is under way -/
theorem g_of {CX : CXT} {P : Program} {wo : World} {mg : Str → Option Value} {base : Heap} {x qual : Str} {st : Stmt} {f : Addr} {fd : FuncData} {N ps : List Str} {k : Nat} {sp : Sp} (F : Fun K x qual st f fd) (S : FnScope N ps (defScope st))
    (len : ∀ vs H Q EX, sp vs H Q EX → vs.length = ps.length)
    (hbody : ∀ (cdv : Value) (A : Around) (outer : List Env) (s : Shared) (H : Hp) (vs : List V) (Q : VK) (EX : XK), Room k (A.deeper (envOfC qual (defScope st) s.heap.objs.size f cdv)) → (A.deeper (envOfC qual (defScope st) s.heap.objs.size f cdv)).guards = some [] → sp vs H Q EX →
      ∃ t, PSs (cxOf CX P wo K mg base N qual (defScope st) f cdv A outer s H EX) (defBody st) t ∧ t { nx := fun _ H' => Q .non H', rt := Q } (L2.start N vs) H) : GOk P wo K mg base CX (k + 1) f fd ps sp := by
  obtain ⟨oc, od, kV, doc, pm, an, cdv, ct, osl, rfl, lk, hcd⟩ := F.ex
  refine ⟨len, ?_⟩
  intro A outer s H ar us vs Q EX hr hq e0 hb r hsp
  have hl := len _ _ _ _ hsp
  have kin : K.In s.heap := e0.mod.kin.keeps fun b o z => (e0.bs b o z).1
  have nl : s.heap.NoLimit := e0.mod.nolimit.keeps fun b o z => (e0.bs b o z).1
  have kinds : ∀ y ∈ ps.zip us, (defScope st).names.lookup y.1 = some .local
      ∨ ((defScope st).names.lookup y.1 = some .cell ∧ ((cellsFrom (s.heap.objs.size + 1) (defScope st).names []).lookup y.1).isSome = true) := by
    rintro ⟨n, v⟩ hy
    exact (S.par n (List.of_mem_zip hy).1).imp id fun z => ⟨z, PySem.W.cellsFrom_some _ _ _ (.inl z)⟩
  refine codeAny_call_function hr.depth (kin _ _ lk) rfl S.co S.gen rfl (PySem.W.codeRec_of kin hcd) (hb _ _ _ _ ?_)
  refine wpAny_newFunctionEnv_cells S.kind kinds ?_
  rintro env rfl s1 xc
  refine ⟨nl.keeps xc.toInCall.keep, codeAny_func ?_⟩
  obtain ⟨t, ht, hg⟩ := hbody cdv A outer s H vs Q EX (hr.deeper _) hq hsp
  refine wpAny_mono (ht.run [] s1 (L2.start N vs) H _ (inv_start S hr.hd e0 hl r xc) hg) (fun fl s' hs => ?_) fun er s' hs => hs
  match fl, hs with
  | .ret u, ⟨v, σ', H', J, rv, q⟩ => exact ⟨v, H', J.os, J.bare, J.base, J.hok, rv, q⟩
  | .next, ⟨σ', H', J, q⟩ => exact ⟨V.non, H', J.os, J.bare, J.base, J.hok, rfl, q⟩
  | .brk, ⟨_, _, _, q⟩ => exact False.elim q
  | .cont, ⟨_, _, _, q⟩ => exact False.elim q
/-- a def that lets no exception out -/
theorem g_fn {P : Program} {wo : World} {mg : Str → Option Value} {base : Heap} {x qual : Str} {st : Stmt} {f : Addr} {fd : FuncData} {N ps : List Str} {k : Nat} {g : FS} (F : Fun K x qual st f fd) (S : FnScope N ps (defScope st))
    (hbody : ∀ (cdv : Value) (A : Around) (outer : List Env) (s : Shared) (H : Hp) (EX : XK), Room k (A.deeper (envOfC qual (defScope st) s.heap.objs.size f cdv)) → (A.deeper (envOfC qual (defScope st) s.heap.objs.size f cdv)).guards = some [] →
      PSs (cxOf CX0 P wo K mg base N qual (defScope st) f cdv A outer s H EX).nox (defBody st) (tS K E00 g)) : GOk P wo K mg base CX0 (k + 1) f fd ps (spD K W0 ps.length (runF N.length g)) := by
  refine g_of F S (fun vs H Q EX h => h.1) (fun cdv A outer s H vs Q EX hr hq h => ?_)
  refine ⟨_, (hbody cdv A outer s H EX hr hq).nox, ?_⟩
  obtain ⟨hl, ds, w, rfl, ok, rl, a⟩ := h
  refine ⟨startD N.length ds, w, w, rfl, Step.refl ok, SR.start rl, OF.start w _ _ _, ?_⟩
  unfold runF at a
  cases q : g (startD N.length ds) w.M with
  | next ρ M => rw [q] at a; exact fun w' σ s' _ eM _ _ => a w' s' eM .non .non
  | ret y M => rw [q] at a; exact fun w' v s' eM rv => a w' s' eM v rv
  | exc c d M => rw [q] at a; exact a
  | brk ρ M => rw [q] at a; exact a.elim
  | cont ρ M => rw [q] at a; exact a.elim
  | bad => rw [q] at a; exact a.elim
theorem g_zero {P : Program} {wo : World} {mg : Str → Option Value} {base : Heap} {f : Addr} {fd : FuncData} {ps : List Str} {n : Nat} (hn : n = ps.length := by rfl) : GOk P wo K mg base CX0 0 f fd ps (spD K W0 n (fun _ _ => .bad)) :=
  ⟨fun vs H Q EX h => h.1.trans hn, fun A outer s H args us vs Q EX _ _ _ _ _ h => by
    obtain ⟨_, ds, w, _, _, _, a⟩ := h
    exact a.elim⟩
/-- the law's def at the heap behind the top -/
theorem g_law {P : Program} {wo : World} {mg mb : Str → Option Value} {CX : CXT} {k : Nat} {fa a : Addr} {fd : FuncData} {x : Str} {sp : Sp} {s₁ : Shared} {vs : List Value} {ns : List Int}
    (KX : K.In s₁.heap) (hns : s₁.heap.Ns mainGlobals mg) (hb : s₁.heap.Ns builtinsNs mb) (hbb : ∀ y : Str, y ≠ "__name__" → mb y = bootBuiltins y) (hlim : s₁.heap.NoLimit) (hg : s₁.gens = #[])
    (ha : s₁.heap.get? a = some { cls := .type "list", data := .seq vs.toArray }) (hi : IntsAre vs ns) (hl : ns.length ≤ sizeLine) (hr : Room k callerA)
    (F : ∀ base : Heap, K.In base → base.Ns mainGlobals mg → GOk P wo K mg base CX k fa fd [x] sp) (hbind : ∀ (s : Shared) (u : Value), BindsTo s fd ⟨[u], []⟩ [(x, u)])
    (hsp : ∀ H : Hp, Only H → SqL K H a (ns.map V.int) → sp [.ref a] H (fun v _ => v = .bl true) fun _ _ _ => False)
    (hCX : ∀ H er s', CX [] H s₁ (fun _ _ _ => False) er s' → False) :
    codeAny (model P wo) callerA (.call (.ref fa) ⟨[.ref a], []⟩) (fun z s' => z = .ok (.ret (.bool true)) ∧ OldK s₁.heap s'.heap ∧ s'.os = s₁.os ∧ AllBare s'.gens) s₁ := by
  have key : ∀ H : Hp, Only H → SqL K H a (ns.map V.int) → HOk P wo H s₁.heap → (∀ b, H b ≠ none → b = a) → (H a ≠ none → K.lookup a = none) →
      codeAny (model P wo) callerA (.call (.ref fa) ⟨[.ref a], []⟩) (fun z s' => z = .ok (.ret (.bool true)) ∧ OldK s₁.heap s'.heap ∧ s'.os = s₁.os ∧ AllBare s'.gens) s₁ := by
    intro H hO hS hok hA hK
    have free : ∀ {b : Addr}, b ≠ a → H b = none := fun {b} hb => by
      by_cases q : H b = none
      · exact q
      · exact absurd (hA b q) hb
    have keepNs : ∀ {b : Addr} {m : Str → Option Value}, s₁.heap.Ns b m → (hidT s₁.heap H).Ns b m := by
      rintro b m ⟨o, es, ep, h1, h2, h3⟩
      refine ⟨o, es, ep, hidT_get h1 (free fun hz => ?_), h2, h3⟩
      subst hz
      rw [ha] at h1
      cases h1
      cases h2
    have hKb : K.In (hidT s₁.heap H) := by
      intro b o hbo
      refine hidT_get (KX b o hbo) ?_
      by_cases q : H b = none
      · exact q
      · have hz := hA b q
        subst hz
        rw [hK q] at hbo
        cases hbo
    have M0 : Mod K mg (hidT s₁.heap H) := by
      obtain ⟨mc, l1, l2⟩ := hlim
      exact ⟨hKb, keepNs hns, ⟨mb, keepNs hb, hbb⟩, mc, keepNs l1, l2⟩
    have e0 : Env0 P wo K mg (hidT s₁.heap H) callerA [] s₁ H :=
      { frames := rfl, mod := M0, bs := fun b o z => of_hidT z, bsz := Nat.le_of_eq (hidT_size _ _), funs := trivial,
        frf := fun b z => (List.not_mem_nil (show b ∈ ([] : List Addr) from z)).elim, hok := hok, bare := .of_eq hg }
    refine codeAny_mono ((F _ hKb (keepNs hns)).go callerA [] s₁ H ⟨[.ref a], []⟩ [.ref a] [.ref a] _ _ hr rfl e0 (hbind s₁ (.ref a)) (.cons rfl .nil) (hsp H hO hS)) fun z s' h => ?_
    match z, h with
    | .error er, h => exact (hCX H er s' h).elim
    | .ok .next, h => exact False.elim h
    | .ok .brk, h => exact False.elim h
    | .ok .cont, h => exact False.elim h
    | .ok (.ret u), ⟨v, H', os, bare, un, hok', rv, (q : v = .bl true)⟩ =>
      subst q
      obtain rfl : u = Value.bool true := rv
      refine ⟨rfl, OldK.of_keep fun b o hbo => ?_, os, bare⟩
      rcases hO b with hn | ⟨ob, xs, hs⟩
      · exact un.keep b o hbo hn (fun z => (List.not_mem_nil (show b ∈ ([] : List Addr) from z)).elim) (by simp)
      · have h1 := (hok b _ hs).1
        have h2 := (hok' b _ (un.frzs b ob _ hs)).1
        rw [hbo] at h1
        cases h1
        exact h2
  have rv : Vals (ns.map V.int) vs := vals_ints hi
  by_cases hk : K.lookup a = none
  · have at_a : ∀ b, (if b = a then some (HO.frz { cls := .type "list", data := .seq vs.toArray } (.lst (ns.map V.int))) else none) ≠ none → b = a := fun b hb => by
      by_cases z : b = a
      · exact z
      · exact absurd (if_neg z) hb
    refine key (fun b => if b = a then some (.frz { cls := .type "list", data := .seq vs.toArray } (.lst (ns.map V.int))) else none) (fun b => ?_) (.inl (.inr ⟨_, if_pos rfl⟩)) (fun b u hu => ?_) at_a fun _ => hk
    · by_cases z : b = a
      · exact .inr ⟨_, _, if_pos z⟩
      · exact .inl (if_neg z)
    · have z := at_a b (fun hz => by have hu' := hz.symm.trans hu; cases hu')
      subst z
      have hu' := (if_pos rfl).symm.trans hu
      cases hu'
      exact ⟨ha, by rw [List.length_map]; exact hl, vs, _, rv, ha⟩
  · obtain ⟨o, ho⟩ := Option.ne_none_iff_exists'.mp hk
    have h1 := KX a o ho
    rw [ha] at h1
    cases h1
    refine key (fun _ => none) (fun _ => .inl rfl) (.inr ⟨_, vs.toArray, _, ho, rfl, rfl, rfl, by rw [List.size_toArray, hi.length]; exact hl, by simpa using rv⟩) (fun b u hu => ?_) (fun b z => absurd rfl z) fun z => absurd rfl z
    exact absurd hu (fun z => by cases z)
end
open PySem.Spec PyProof.Rows in
/-- the end of a law -/
theorem g_walk {l : PySem.W.OpenLaw} {n k : Nat} {q : Program} {loose : List Str} {XP : (Str → Option Value) → Heap → Prop} {YP : World → Heap → Prop} {d : DefRec} {K : Params → PySem.W.Frag} {CX : World → CXT} {sp : World → Sp} {x : Str}
    (hn : l.most = some n) (hn2 : n ≤ sizeLine) (hdf : d.params.defaults = []) (hr : Room k callerA) (hY : ∀ (w : World) (h : Heap), YP w h → (K w.params).In h)
    (F : ∀ (w : World) (mg : Str → Option Value) (fa : Addr) (h : Heap), (K w.params).In h → h.Ns mainGlobals mg → mg d.name = some (.ref fa) →
      ∃ fd : FuncData, (∀ (s : Shared) (u : Value), BindsTo s fd ⟨[u], []⟩ [(x, u)]) ∧ ∀ base : Heap, (K w.params).In base → base.Ns mainGlobals mg → GOk l.prog w (K w.params) mg base (CX w) k fa fd [x] (sp w))
    (hsp : ∀ (w : World) (H : Hp) (a : Addr) (ns : List Int), ns.length ≤ n → Only H → SqL (K w.params) H a (ns.map V.int) → sp w [.ref a] H (fun v _ => v = .bl true) fun _ _ _ => False)
    (hCX : ∀ (w : World) (H : Hp) (s : Shared) (e : Value) (s' : Shared), CX w [] H s (fun _ _ _ => False) e s' → False) :
    PySem.W.WalkO q loose XP YP l.row.toRowW d [] (fun f vs => PySem.call f vs) := by
  refine Att.attach_call hn hdf ?_
  intro w s₀ s₁ mg mb fa o pm cd doc a vs ns G Y ho hd hcd hmg hobj hints hlen hgens
  have kin := hY w _ Y
  obtain ⟨fd, hbd, hF⟩ := F w mg fa _ kin G.T.g hmg
  exact g_law kin G.T.g G.T.b G.T.builtins G.T.nolimit hgens hobj hints (Nat.le_trans hlen hn2) hr hF hbd (fun H hO hS => hsp w H a ns hlen hO hS) (fun H er s' => hCX w H s₁ er s')
end TP
/-! TPl: repr. -/
namespace TP
open PySem L2
section
variable {K : PySem.W.Frag} {E : Wish} {X : Cx} {e : Expr}
def rRepr (K : PySem.W.Frag) : List V → Hp → VK → Prop := fun xs H Q => ∃ x d, xs = [x] ∧ Dp K H x d ∧ d.canLay0 = true ∧ d.showable = true ∧ d.depth ≤ 190 ∧ d.shown.length ≤ sizeLine ∧ Q (.str d.shown) H
theorem call_repr (hu : X.A.units + 200 < cLine) (hq : X.A.guards = some []) : CallR X (.builtin "repr") (rRepr X.K) := by
  intro pins s σ H xs us Q I r h
  obtain ⟨x, d, rfl, hd, hl, hs, hdp, hz, q⟩ := h
  obtain ⟨u, rfl, ru⟩ := vals1 r
  obtain ⟨as, rd⟩ := Dp.reads I d x u hd ru
  have fin : ∀ h' t tk, (∀ b o, s.heap.get? b = some o → h'.get? b = some o) → EP X pins σ Q (.str d.shown t) { s with heap := h', toks := tk } := fun h' t tk hk => ⟨.str _, H, I.kept hk, ⟨_, rfl⟩, q⟩
  cases hd with
  | non => cases ru; exact PySem.P.repr_of_none (fin s.heap _ _ fun _ _ z => z)
  | bl b => cases ru; exact PySem.P.repr_of_bool (fin s.heap _ _ fun _ _ z => z)
  | int i =>
    obtain ⟨t, rfl⟩ := ru
    exact PySem.P.repr_of_int (by simpa [PyData.showable] using hs) (fin s.heap _ _ fun _ _ z => z)
  | str y =>
    obtain ⟨t, rfl⟩ := ru
    exact PySem.P.repr_of_str (fin s.heap _ _ fun _ _ z => z) (by simpa [PyData.shown] using hz)
  | lst h1 h2 =>
    cases ru
    exact repr_of_reads' rd hs (PyData.noDict_hsm (PyData.hasDict_of_canLay _ hl)) hq (by omega) (fun _ _ z => z) (fun h' t tk hk => fin h' t tk hk) hz
  | tup h1 h2 =>
    cases ru
    exact repr_of_reads' rd hs (PyData.noDict_hsm (PyData.hasDict_of_canLay _ hl)) hq (by omega) (fun _ _ z => z) (fun h' t tk hk => fin h' t tk hk) hz
/-- may it be shown -/
def shwD (y : D) : Bool := goodD y && (toPy y).showable && decide (dpD y ≤ 190) && decide ((toPy y).shown.length ≤ sizeLine)
def reprD (M : Store) (ds : List D) : Option Slot := match ds with
  | [x] => if shwD (derD M x) then some (.val (.str (toPy (derD M x)).shown)) else none
  | _ => none
theorem p_repr : PrimN K (rRepr K) reprD := by
  intro w vs ds s Q ok rl h k
  unfold reprD at h
  split at h
  · split at h
    · rename_i x hs
      cases h
      obtain ⟨v, rfl, rv⟩ := rl.one
      simp only [shwD, Bool.and_eq_true, decide_eq_true_eq] at hs
      obtain ⟨⟨⟨h1, h2⟩, h3⟩, h4⟩ := hs
      exact ⟨v, _, rfl, rv.dp ok h1, lay_py _ h1, h2, by rw [dp_py _ h1]; exact h3, h4, ans ok k fun _ _ => .str _⟩
    · cases h
  · cases h
end
theorem bt_repr : bootBuiltins "repr" = some (.builtin "repr") := by decide +kernel
theorem bt_sorted : bootBuiltins "sorted" = some (.builtin "sorted") := by decide +kernel
end TP
/-! TPq: instances: fields, methods, new ones; lists of the store that are changed through an expression. -/
namespace TP
open PySem L2
section
variable {K : PySem.W.Frag} {E : Wish} {X : Cx} {e : Expr} {st : Stmt}
theorem kv_look {R : V → D → Prop} (f : Str) : ∀ {vs : List (Str × V)} {fs : List (Str × D)}, RepKV R vs fs → (∀ d, fs.lookup f = some d → ∃ v, vs.lookup f = some v ∧ R v d) ∧ (fs.lookup f = none → vs.lookup f = none)
  | _, _, .nil => ⟨fun d h => by simp at h, fun _ => rfl⟩
  | (k, v) :: vs, (_, d) :: fs, .cons r t => by
    obtain ⟨h1, h2⟩ := kv_look f t
    rw [List.lookup_cons, List.lookup_cons]
    cases f == k with
    | true => exact ⟨fun d' h => by cases h; exact ⟨v, rfl, r⟩, fun h => by cases h⟩
    | false => exact ⟨h1, h2⟩
theorem look_mem {f : Str} {d : D} : ∀ {fs : List (Str × D)}, fs.lookup f = some d → ∃ y ∈ fs, y.1 = f
  | [], h => by simp at h
  | y :: fs, h => by
    rw [List.lookup_cons] at h
    cases hb : f == y.1 with
    | true => exact ⟨y, List.mem_cons_self, (beq_iff_eq.mp hb).symm⟩
    | false =>
      rw [hb] at h
      obtain ⟨z, hz, e⟩ := look_mem h
      exact ⟨z, List.mem_cons_of_mem _ hz, e⟩
def putFd (f : Str) (d : D) : List (Str × D) → List (Str × D)
  | [] => [(f, d)]
  | (g, x) :: r => if g = f then (g, d) :: r else (g, x) :: putFd f d r
theorem kv_put {R : V → D → Prop} {f : Str} {v : V} {d : D} (r : R v d) : ∀ {vs : List (Str × V)} {fs : List (Str × D)}, RepKV R vs fs → RepKV R (putF f v vs) (putFd f d fs)
  | _, _, .nil => .cons r .nil
  | (k, v') :: vs, (_, d') :: fs, .cons q t => by
    unfold putF putFd
    by_cases h : k = f
    · rw [if_pos h, if_pos h]; exact .cons r t
    · rw [if_neg h, if_neg h]; exact .cons q (kv_put r t)
theorem putFd_mem {f : Str} {d : D} : ∀ {fs : List (Str × D)} {x : Str × D}, x ∈ putFd f d fs → x.1 = f ∨ x ∈ fs ∨ ∃ y ∈ fs, y.1 = x.1
  | [], x, h => by
    rw [putFd, List.mem_singleton] at h
    subst h
    exact .inl rfl
  | (g, y) :: r, x, h => by
    unfold putFd at h
    split at h
    · rename_i hg
      rcases List.mem_cons.mp h with rfl | h
      · exact .inl hg
      · exact .inr (.inl (List.mem_cons_of_mem _ h))
    · rcases List.mem_cons.mp h with rfl | h
      · exact .inr (.inl List.mem_cons_self)
      · rcases putFd_mem h with h | h | ⟨z, hz, e⟩
        · exact .inl h
        · exact .inr (.inl (List.mem_cons_of_mem _ h))
        · exact .inr (.inr ⟨z, List.mem_cons_of_mem _ hz, e⟩)
theorem kv_len {R : V → D → Prop} : ∀ {vs : List (Str × V)} {fs : List (Str × D)}, RepKV R vs fs → vs.length = fs.length
  | _, _, .nil => rfl
  | _, _, .cons _ t => by rw [List.length_cons, List.length_cons, kv_len t]
/-! ### e.f -/
def dFld (f : Str) (fo : FD) : FD := fun ρ M => (fo ρ M).bind fun x M => match x with
  | .ref k => match M[k]? with
    | some (.ins _ fs) => R.of (fs.lookup f) M
    | _ => .bad
  | _ => .bad
theorem x_fld {f : Str} {fo : FD} (h : PE X e (tFld K (tR K E fo) f)) : PE X e (tF K E (dFld f fo)) := PE.wk h fun σ H Q ⟨ρ, w, e1, ok, sr, a⟩ =>
  ⟨ρ, w, e1, ok, sr, a.bind.imp fun x w1 s1 a1 vx rx => by
    split at a1
    · rename_i k
      split at a1
      · rename_i c fs e2
        obtain ⟨d, hd, q⟩ := a1.of (Step.refl s1.ok) rfl
        obtain ⟨p, rfl, ea⟩ := ref_at rx
        obtain ⟨p', ea', io, vs, dx, hH, rk⟩ := s1.ok.mos k _ e2
        rw [ea] at ea'
        cases ea'
        obtain ⟨v, hv, rv⟩ := (kv_look f rk).1 d hd
        obtain ⟨y, hy, e3⟩ := look_mem hd
        have na := io.2 y hy
        rw [e3] at na
        exact ⟨p, _, dx, vs, v, rfl, hH, io.1, na, hv, q v rv⟩
      · exact a1.elim
    · exact a1.elim⟩
/-! ### e.f = value -/
def sFldS (c f : Str) (fv fo : FD) : FS := fun ρ M => (fv ρ M).out fun y M => (fo ρ M).out fun x M => match x with
  | .ref k => match M[k]? with
    | some (.ins c' fs) => if c' = c ∧ fs.length < 1000 then .next ρ (M.set k (.ins c' (putFd f y fs))) else .bad
    | _ => .bad
  | _ => .bad
theorem s_fldS {c f : Str} {fv fo : FD} (hn : NoAttr K (clsAt K c) f) (h : PS X st (sFld K (tR K E fo) (tF K E fv) f)) : PS X st (tS K E (sFldS c f fv fo)) := PS.wk h fun D σ H ⟨ρ, w, w0, e1, s, sr, of, p⟩ =>
  ⟨ρ, w, e1, s.ok, sr, (out_after s p).imp fun y w1 s1 p1 vy ry => ⟨ρ, w1, rfl, s1.ok, sr.step s1, (out_after (s.trans s1) p1).imp fun x w2 s2 p2 vx rx => by
    split at p2
    · rename_i k
      split at p2
      · rename_i c' fs e2
        split at p2
        · rename_i hc
          obtain ⟨hc1, hc2⟩ := hc
          subst hc1
          obtain ⟨q, rfl, ea⟩ := ref_at rx
          obtain ⟨q', ea', io, vs, dx, hH, rk⟩ := s2.ok.mos k _ e2
          rw [ea] at ea'
          cases ea'
          refine ⟨q, _, dx, vs, rfl, hH, io.1, hn, by rw [kv_len rk]; exact hc2, ?_⟩
          have io2 : InsOk K c' (putFd f y fs) := ⟨io.1, fun z hz => by
            rcases putFd_mem hz with h | h | ⟨u, hu, e⟩
            · rw [h]; exact hn
            · exact io.2 z h
            · rw [← e]; exact io.2 u hu⟩
          have st3 := s2.ok.put (o := .ins c' (putFd f y fs)) (ho := .ins (clsAt K c') dx (putF f vy vs)) ea ⟨io2, _, dx, upd_same, kv_put (s2.rep ry) rk⟩
          have sall := (s.trans s1).trans s2
          exact p2 _ σ (sall.trans st3) st3.le rfl (((sr.step s1).step s2).step st3) of
        · exact p2.elim
      · exact p2.elim
    · exact p2.elim⟩⟩
/-! ### o.m(..), by the class of o -/
def dMethC (n : Nat) (m : Str) (tab : List (Str × Nat)) (Φ : Nat → Fn) (fo : FD) (fs : FL) : FE := fun ρ M => (fo ρ M).bind fun x M => match x with
  | .ref k => match M[k]? with
    | some (.ins c fds) => match fds.lookup m, tab.lookup c with
      | none, some i => (fs ρ M).bind fun ds M => if ds.length + 1 = n then Φ i (.ref k :: ds) M else .bad
      | _, _ => .bad
    | _ => .bad
  | _ => .bad
theorem x_methC {We : XK → Wish} {n : Nat} {m : Str} {tab : List (Str × Nat)} {Φ : Nat → Fn} {EX : XK} {fo : FD} {fs : FL} (hE : We EX = E) (h0 : ∃ c i, tab.lookup c = some i)
    (h : ∀ c i, tab.lookup c = some i → PE X e (tMeth (clsAt K c) m (spD K We n (Φ i)) [] EX (tR K E fo) (tAF K E fs))) : PE X e (tE K E (dMethC n m tab Φ fo fs)) := by
  constructor
  intro pins s σ H Q I ⟨ρ, w, e1, ok, sr, a⟩
  unfold dMethC at a
  cases hfo : fo ρ w.M with
  | bad => rw [hfo] at a; exact a.elim
  | exc c d M1 =>
    rw [hfo] at a
    obtain ⟨c0, i0, hc0⟩ := h0
    refine (h c0 i0 hc0).run pins s σ H Q I ⟨ρ, w, e1, ok, sr, ?_⟩
    rw [hfo]
    exact a
  | ok x M1 =>
    rw [hfo] at a
    have a' := a
    simp only [R.bind_ok] at a'
    split at a'
    · rename_i k
      split at a'
      · rename_i c fds e2
        split at a'
        · rename_i hl1 hl2
          rename_i i
          refine (h c i hl2).run pins s σ H Q I ⟨ρ, w, e1, ok, sr, ?_⟩
          rw [hfo]
          intro w1 s1 eM vx rx
          obtain ⟨p, rfl, ea⟩ := ref_at rx
          rw [← eM] at e2 a'
          obtain ⟨p', ea', io, vs, dx, hH, rk⟩ := s1.ok.mos k _ e2
          rw [ea] at ea'
          cases ea'
          refine ⟨p, dx, vs, rfl, hH, (kv_look m rk).2 hl1, ρ, w1, rfl, s1.ok, sr.step s1, ?_⟩
          refine (a'.later s1).bind.imp fun ds w2 s2 a2 us ru => ?_
          show spD K We n (Φ i) (V.ref p :: (us ++ [])) w2.H Q EX
          rw [List.append_nil]
          split at a2
          · rename_i hn
            refine ⟨by rw [List.length_cons, ru.length]; exact hn, .ref k :: ds, w2, rfl, s2.ok, .cons (s2.rep (.ref ea)) ru, ?_⟩
            rw [hE]
            exact a2.imp fun sl w3 s3 q v rv => q v (rv.back (s1.trans s2))
          · exact a2.elim
        · exact a'.elim
      · exact a'.elim
    · exact a'.elim
/-! ### C(..) -/
def dMake (c : Str) (n : Nat) (m : Fn) (fs : FL) : FE := fun ρ M => (fs ρ M).bind fun ds M => if ds.length + 1 = n then (m (.ref M.length :: ds) (M ++ [.ins c []])).bind fun s M' => match s with
  | .val .non => .ok (.val (.ref M.length)) M'
  | _ => .bad else .bad
theorem x_make {We : XK → Wish} {c : Str} {n : Nat} {m : Fn} {EX : XK} {fs : FL} (hE : We EX = E) (hc : Cls K (clsAt K c)) (h : PE X e (tMake (clsAt K c) (spD K We n m) [] EX (tAF K E fs))) : PE X e (tE K E (dMake c n m fs)) := PE.wk h fun σ H Q ⟨ρ, w, e1, ok, sr, a⟩ =>
  ⟨ρ, w, e1, ok, sr, a.bind.imp fun ds w1 s1 a1 us ru => by
    intro y dx hy hdx hne
    split at a1
    · rename_i hn
      have f0 := s1.ok.fresh0 hdx (.own y)
      have hy2 : upd w1.H dx (.own y) y = none := by rw [upd_ne (fun z => hne z.symm)]; exact hy
      have f1 := f0.ok.fresh0 (p := y) hy2 (.ins (clsAt K c) dx [])
      have hG : w1.G y = none := s1.ok.sub.free hy
      have okp := f1.ok.push (o := .ins c []) hG (s1.ok.notA hy) ⟨⟨hc, fun x hx => by cases hx⟩, [], dx, upd_same, .nil⟩
      have st : Step K w1 ⟨w1.A ++ [y], w1.G, w1.M ++ [.ins c []], upd (upd w1.H dx (.own y)) y (.ins (clsAt K c) dx [])⟩ := by
        refine ⟨okp, List.prefix_append _ _, Same.refl _, fun b o z1 z2 z3 => ?_⟩
        obtain ⟨k1, k2, k3⟩ := (f0.trans f1).keep b o z1 z2 z3
        exact ⟨k1, k2, fun hm => (List.mem_append.mp hm).elim z3 fun z => by simp at z; subst z; rw [hy] at z1; cases z1⟩
      have hlen : (w1.A ++ [y])[w1.M.length]? = some y := by
        rw [← s1.ok.len, List.getElem?_append_right (Nat.le_refl _), Nat.sub_self]; rfl
      show spD K We n m (V.ref y :: (us ++ [])) _ _ EX
      rw [List.append_nil]
      refine ⟨by rw [List.length_cons, ru.length]; exact hn, .ref w1.M.length :: ds, _, rfl, st.ok, .cons (.ref hlen) (st.repL ru), ?_⟩
      rw [hE]
      refine (a1.later st).bind.imp fun sl w3 s3 a3 v rv => ?_
      split at a3
      · cases rv
        have q := a3 w3 (Step.refl s3.ok) rfl (.ref y) (.ref (pre_get s3.pre hlen))
        exact ⟨rfl, q⟩
      · exact a3.elim
    · exact a1.elim⟩
/-! ### lists of the store -/
def sAppR (fo f : FD) : FS := fun ρ M => (fo ρ M).out fun x M => match x with
  | .ref k => match M[k]? with
    | some (.lst _) => (f ρ M).out fun y M => match M[k]? with
      | some (.lst ds) => if ds.length < sizeLine then .next ρ (M.set k (.lst (ds ++ [y]))) else .bad
      | _ => .bad
    | _ => .bad
  | _ => .bad
theorem s_appR {fo f : FD} (h : PS X st (tDrop (tBM K "list" rAppend (tR K E fo) (tCons (tF K E f) tNil)))) : PS X st (tS K E (sAppR fo f)) := PS.wk h fun D σ H ⟨ρ, w, w0, e1, s, sr, of, p⟩ =>
  ⟨ρ, w, e1, s.ok, sr, (out_after s p).imp fun x w1 s1 p1 vx rx => by
    split at p1
    · rename_i k
      split at p1
      · rename_i ds0 e0
        obtain ⟨q, rfl, ea⟩ := ref_at rx
        obtain ⟨q', ea', vs0, hH0, _⟩ := s1.ok.mos k _ e0
        rw [ea] at ea'
        cases ea'
        refine ⟨.inl ⟨rfl, vs0, .inl (.inl hH0)⟩, ρ, w1, rfl, s1.ok, sr.step s1, (out_after (s.trans s1) p1).imp fun y w2 s2 p2 vy ry => ?_⟩
        split at p2
        · rename_i ds e2
          split at p2
          · rename_i hz
            have ea2 : w2.A[k]? = some q := pre_get s2.pre ea
            obtain ⟨q', ea', vs, hH, rl⟩ := s2.ok.mos k _ e2
            rw [ea2] at ea'
            cases ea'
            refine ⟨q, vs, vy, rfl, rfl, hH, by rw [rl.length]; exact hz, ?_⟩
            have st3 := s2.ok.put (o := .lst (ds ++ [y])) (ho := .lst (vs ++ [vy])) ea2 ⟨_, upd_same, rl.append (.one ry)⟩
            exact p2 _ σ (((s.trans s1).trans s2).trans st3) st3.le rfl (((sr.step s1).step s2).step st3) of
          · exact p2.elim
        · exact p2.elim
      · exact p1.elim
    · exact p1.elim⟩
def dPopR (fo : FD) : FD := fun ρ M => (fo ρ M).bind fun x M => match x with
  | .ref k => match M[k]? with
    | some (.lst ds) => match ds.getLast? with
      | some y => .ok y (M.set k (.lst ds.dropLast))
      | none => .bad
    | _ => .bad
  | _ => .bad
theorem x_popR {fo : FD} (h : PE X e (tBM0 K "list" rPop (tR K E fo))) : PE X e (tF K E (dPopR fo)) := PE.wk h fun σ H Q ⟨ρ, w, e1, ok, sr, a⟩ =>
  ⟨ρ, w, e1, ok, sr, a.bind.imp fun x w1 s1 a1 vx rx => by
    split at a1
    · rename_i k
      split at a1
      · rename_i ds e2
        split at a1
        · rename_i y hy
          obtain ⟨q, rfl, ea⟩ := ref_at rx
          obtain ⟨q', ea', vs, hH, rl⟩ := s1.ok.mos k _ e2
          rw [ea] at ea'
          cases ea'
          rw [List.getLast?_eq_getElem?] at hy
          obtain ⟨v, hv, rv⟩ := rl.get hy
          have st3 := s1.ok.put (o := .lst ds.dropLast) (ho := .lst vs.dropLast) ea ⟨_, upd_same, rl.dropLast⟩
          exact ⟨.inl ⟨rfl, vs, .inl (.inl hH)⟩, q, vs, v, rfl, rfl, hH, by rw [rl.length]; exact hv, a1 _ st3 rfl v (st3.rep rv)⟩
        · exact a1.elim
      · exact a1.elim
    · exact a1.elim⟩
def dClearR (fo : FD) : FD := fun ρ M => (fo ρ M).bind fun x M => match x with
  | .ref k => match M[k]? with
    | some (.lst _) => .ok .non (M.set k (.lst []))
    | _ => .bad
  | _ => .bad
theorem x_clearR {fo : FD} (h : PE X e (tBM0 K "list" rClear (tR K E fo))) : PE X e (tF K E (dClearR fo)) := PE.wk h fun σ H Q ⟨ρ, w, e1, ok, sr, a⟩ =>
  ⟨ρ, w, e1, ok, sr, a.bind.imp fun x w1 s1 a1 vx rx => by
    split at a1
    · rename_i k
      split at a1
      · rename_i ds e2
        obtain ⟨q, rfl, ea⟩ := ref_at rx
        obtain ⟨q', ea', vs, hH, rl⟩ := s1.ok.mos k _ e2
        rw [ea] at ea'
        cases ea'
        have st3 := s1.ok.put (o := .lst []) (ho := .lst []) ea ⟨_, upd_same, .nil⟩
        exact ⟨.inl ⟨rfl, vs, .inl (.inl hH)⟩, q, vs, rfl, rfl, hH, a1 _ st3 rfl .non .non⟩
      · exact a1.elim
    · exact a1.elim⟩
/-! ### what is not looked at -/
def dBadE : FE := fun _ _ => .bad
def dBadF : FD := fun _ _ => .bad
theorem x_badE : PE X e (tE K E dBadE) := ⟨fun pins s σ H Q I ⟨ρ, w, e1, ok, sr, a⟩ => a.elim⟩
theorem x_badF : PE X e (tF K E dBadF) := ⟨fun pins s σ H Q I ⟨ρ, w, e1, ok, sr, a⟩ => a.elim⟩
def sBad : FS := fun _ _ => .bad
theorem s_bad : PS X st (tS K E sBad) := ⟨fun pins s σ H D I ⟨ρ, w, w0, e1, ok, sr, of, p⟩ => p.elim⟩
end
end TP
/-! TPt: dict(zip(a, b)) over any two iterators, at the library's level. -/
namespace TP
open PySem
section
variable {prog : Program} {w : World} {A : Around} {E : Value → Shared → Prop} {s : Shared} {z TI TO T i1 i2 : Addr} {fp1 fp2 : List Addr} {n1 n2 i : Nat} {P1 P2 : Nat → Value → Prop} {St1 St2 : Nat → Heap → Prop} {f : Bool} {oT : Obj}
/-- the next pair, the one ahead still held -/
theorem zipH_item {Q : Value → Shared → Prop} (S : ZipSep2 z TI TO i1 i2 fp1 fp2) (D1 : Draws prog w A i1 fp1 n1 P1 St1) (D2 : Draws prog w A i2 fp2 n2 P2 St2)
    (hz : IsZipHeld s.heap z TI TO T f) (hT : s.heap.get? T = some oT) (hTI : IsTupOf2 s.heap TI (.ref i1) (.ref i2)) (st1 : St1 i s.heap) (st2 : St2 i s.heap) (l1 : i < n1) (l2 : i < n2)
    (hQ : ∀ x y h' tk, P1 i x → P2 i y → IsZipHeld h' z TI TO T true → St1 (i + 1) h' → St2 (i + 1) h' → IsTupOf2 h' s.heap.objs.size x y → h'.objs.size = s.heap.objs.size + 1 →
      (∀ c o, c ≠ z → c ≠ i1 → c ≠ i2 → s.heap.get? c = some o → h'.get? c = some o) → Q (.ref s.heap.objs.size) { s with heap := h', toks := tk }) :
    wpAny (model prog w) A (Builtin.«zip.__next__» ⟨[.ref z], []⟩) (fun fin s' => ∃ v, fin = .done (.ret v) ∧ Q v s') E s := by
  obtain ⟨h0, gs, dr, t0, os⟩ := s
  show wpAny _ _ (field (.ref z) 2 >>= _) _ _ _
  refine wpAny_bind (wpAny_field hz rfl (x := .bool false) rfl ?_)
  show wpAny _ _ (field (.ref z) 3 >>= _) _ _ _
  refine wpAny_bind (wpAny_field hz rfl (x := .ref TI) rfl (wpAny_bind (wpAny_seqItems hTI rfl ?_)))
  show wpAny _ _ (Builtin.SmallTypes.ownedTupleIsFree (.ref z) >>= _) _ _ _
  refine wpAny_bind (wpAny_tupleHeld_zip hz hT ?_)
  intro ha za sa
  replace sa : Heap.SameBut z h0 ha := sa
  simp only [Bool.false_eq_true, if_false]
  refine wpAny_bind ?_
  rw [← Array.forIn_toList]
  simp only [List.forIn_cons, List.forIn_nil]
  refine wpAny_bind (wpAny_bind (wpAny_holding ?_))
  show wpAny _ _ (Builtin.SmallTypes.nextOf (.ref i1) >>= _) _ _ ⟨ha, gs, dr, t0, os⟩
  refine wpAny_bind (D1.item i _ _ _ l1 (D1.over st1 sa S.zf1) ?_)
  intro x hb t1 px sn1 sb
  replace sb : Heap.SameBut i1 ha hb := sb
  refine wpAny_pure (wpAny_pure (wpAny_bind (wpAny_bind (wpAny_holding ?_))))
  show wpAny _ _ (Builtin.SmallTypes.nextOf (.ref i2) >>= _) _ _ ⟨hb, gs, dr, t1, os⟩
  refine wpAny_bind (D2.item i _ _ _ l2 (D2.over (D2.over st2 sa S.zf2) sb S.sep1_2) ?_)
  intro y hc t2 py sn2 sc
  replace sc : Heap.SameBut i2 hb hc := sc
  refine wpAny_pure (wpAny_pure (wpAny_pure ?_))
  show wpAny _ _ (newTuple [x, y] >>= _) _ _ ⟨hc, gs, dr, t2, os⟩
  refine wpAny_bind (wpAny_newTuple (wpAny_pure ⟨_, rfl, ?_⟩))
  have size : hc.objs.size = h0.objs.size := by rw [sc.1, sb.1, sa.1]
  have i1z : i1 ≠ z := fun q => S.zf1 (q ▸ S.mem1)
  have i2z : i2 ≠ z := fun q => S.zf2 (q ▸ S.mem2)
  have zc : IsZipHeld hc z TI TO T true := sc.extBut _ _ i2z.symm (sb.extBut _ _ i1z.symm za)
  have keep : ∀ c o, c ≠ z → c ≠ i1 → c ≠ i2 → h0.get? c = some o → hc.get? c = some o := fun c o c1 c2 c3 e => sc.extBut _ _ c3 (sb.extBut _ _ c2 (sa.extBut _ _ c1 e))
  show Q (.ref hc.objs.size) ⟨hc.push { cls := .type "tuple", data := .seq #[x, y] }, gs, dr, t2, os⟩
  have tp : IsTupOf2 (hc.push { cls := .type "tuple", data := .seq #[x, y] }) hc.objs.size x y := Heap.get?_push_size _ rfl
  have sz : (hc.push { cls := .type "tuple", data := .seq #[x, y] }).objs.size = hc.objs.size + 1 := Heap.size_push ..
  rw [size] at tp sz ⊢
  exact hQ x y _ t2 px py (Heap.get?_push_of_some _ zc) (D1.frame _ _ _ (D1.over sn1 sc S.sep2_1) fun b _ o e => Heap.get?_push_of_some _ e) (D2.frame _ _ _ sn2 fun b _ o e => Heap.get?_push_of_some _ e) tp sz
    fun c o c1 c2 c3 e => Heap.get?_push_of_some _ (keep c o c1 c2 c3 e)
theorem zipH_end {Q : Fin → Shared → Prop} (S : ZipSep2 z TI TO i1 i2 fp1 fp2) (D1 : Draws prog w A i1 fp1 n1 P1 St1) (D2 : Draws prog w A i2 fp2 n2 P2 St2)
    (hz : IsZipHeld s.heap z TI TO T f) (hT : s.heap.get? T = some oT) (hTI : IsTupOf2 s.heap TI (.ref i1) (.ref i2)) (st1 : St1 i s.heap) (st2 : St2 i s.heap) (l1 : i ≤ n1) (l2 : i ≤ n2) (hend : i = n1 ∨ i = n2)
    (hE : ∀ h' tk e, (∀ c o, c ≠ z → c ≠ i1 → c ≠ i2 → s.heap.get? c = some o → h'.get? c = some o) → (∃ o, h'.get? e = some o ∧ o.cls = .type "StopIteration") → E (.ref e) { s with heap := h', toks := tk }) :
    wpAny (model prog w) A (Builtin.«zip.__next__» ⟨[.ref z], []⟩) Q E s := by
  obtain ⟨h0, gs, dr, t0, os⟩ := s
  show wpAny _ _ (field (.ref z) 2 >>= _) _ _ _
  refine wpAny_bind (wpAny_field hz rfl (x := .bool false) rfl ?_)
  show wpAny _ _ (field (.ref z) 3 >>= _) _ _ _
  refine wpAny_bind (wpAny_field hz rfl (x := .ref TI) rfl (wpAny_bind (wpAny_seqItems hTI rfl ?_)))
  show wpAny _ _ (Builtin.SmallTypes.ownedTupleIsFree (.ref z) >>= _) _ _ _
  refine wpAny_bind (wpAny_tupleHeld_zip hz hT ?_)
  intro ha za sa
  replace sa : Heap.SameBut z h0 ha := sa
  simp only [Bool.false_eq_true, if_false]
  refine wpAny_bind ?_
  rw [← Array.forIn_toList]
  simp only [List.forIn_cons, List.forIn_nil]
  refine wpAny_bind (wpAny_bind (wpAny_holding ?_))
  show wpAny _ _ (Builtin.SmallTypes.nextOf (.ref i1) >>= _) _ _ ⟨ha, gs, dr, t0, os⟩
  by_cases k1 : i < n1
  · refine wpAny_bind (D1.item i _ _ _ k1 (D1.over st1 sa S.zf1) ?_)
    intro x hb t1 px sn1 sb
    replace sb : Heap.SameBut i1 ha hb := sb
    refine wpAny_pure (wpAny_pure (wpAny_bind (wpAny_bind (wpAny_holding ?_))))
    show wpAny _ _ (Builtin.SmallTypes.nextOf (.ref i2) >>= _) _ _ ⟨hb, gs, dr, t1, os⟩
    have e2 : i = n2 := by omega
    refine wpAny_bind (D2.done ⟨hb, gs, dr, t1, os⟩ _ _ (by rw [← e2]; exact D2.over (D2.over st2 sa S.zf2) sb S.sep1_2) ?_)
    intro hc e sc he
    exact hE hc t1 e (fun c o c1 c2 c3 q => sc _ _ c3 (sb.extBut _ _ c2 (sa.extBut _ _ c1 q))) he
  · have e1 : i = n1 := by omega
    refine wpAny_bind (D1.done ⟨ha, gs, dr, t0, os⟩ _ _ (by rw [← e1]; exact D1.over st1 sa S.zf1) ?_)
    intro hb e sb he
    exact hE hb t0 e (fun c o c1 c2 _ q => sb _ _ c2 (sa.extBut _ _ c1 q)) he
theorem next_zipH_item {Q : Option Value → Shared → Prop} (S : ZipSep2 z TI TO i1 i2 fp1 fp2) (D1 : Draws prog w A.in1 i1 fp1 n1 P1 St1) (D2 : Draws prog w A.in1 i2 fp2 n2 P2 St2)
    (hz : IsZipHeld s.heap z TI TO T f) (hT : s.heap.get? T = some oT) (hTI : IsTupOf2 s.heap TI (.ref i1) (.ref i2)) (st1 : St1 i s.heap) (st2 : St2 i s.heap) (l1 : i < n1) (l2 : i < n2)
    (hQ : ∀ x y h' tk, P1 i x → P2 i y → IsZipHeld h' z TI TO T true → St1 (i + 1) h' → St2 (i + 1) h' → IsTupOf2 h' s.heap.objs.size x y → h'.objs.size = s.heap.objs.size + 1 →
      (∀ c o, c ≠ z → c ≠ i1 → c ≠ i2 → s.heap.get? c = some o → h'.get? c = some o) → Q (some (.ref s.heap.objs.size)) { s with heap := h', toks := tk }) :
    wpAny (model prog w) A (pyNext (.ref z)) Q E s := by
  have ty : s.TypeIs (.ref z) "zip" := ⟨_, hz, rfl⟩
  unfold pyNext
  exact wpAny_bind (wpAny_attempt (wpAny_callSpecial?_slot (name := Str.ofString "__next__") ty F.slot_zip_next
    (wpAny_call_entry F.slot_zip_next ty F.entry_zip_next
      (zipH_item S D1 D2 hz hT hTI st1 st2 l1 l2 fun x y h' tk a b c d e g k m => wpAny_pure (hQ x y h' tk a b c d e g k m)) (F.args_zip_next_1 _))))
theorem next_zipH_end {Q : Option Value → Shared → Prop} (S : ZipSep2 z TI TO i1 i2 fp1 fp2) (D1 : Draws prog w A.in1 i1 fp1 n1 P1 St1) (D2 : Draws prog w A.in1 i2 fp2 n2 P2 St2)
    (hz : IsZipHeld s.heap z TI TO T f) (hT : s.heap.get? T = some oT) (hTI : IsTupOf2 s.heap TI (.ref i1) (.ref i2)) (st1 : St1 i s.heap) (st2 : St2 i s.heap) (l1 : i ≤ n1) (l2 : i ≤ n2) (hend : i = n1 ∨ i = n2)
    (hQ : ∀ h' tk, (∀ c o, c ≠ z → c ≠ i1 → c ≠ i2 → s.heap.get? c = some o → h'.get? c = some o) → Q none { s with heap := h', toks := tk }) : wpAny (model prog w) A (pyNext (.ref z)) Q E s := by
  have ty : s.TypeIs (.ref z) "zip" := ⟨_, hz, rfl⟩
  unfold pyNext
  refine wpAny_bind (wpAny_attempt (wpAny_callSpecial?_slot (name := Str.ofString "__next__") ty F.slot_zip_next
    (wpAny_call_entry F.slot_zip_next ty F.entry_zip_next (zipH_end S D1 D2 hz hT hTI st1 st2 l1 l2 hend ?_) (F.args_zip_next_1 _))))
  rintro h' tk e hk ⟨o, ho, hc⟩
  exact wpAny_bind (wpAny_isInstance (T := "StopIteration") (b := true) ⟨o, ho, hc⟩ isSubtype_stop (wpAny_pure (hQ _ _ hk)))
end
theorem ZipSep2.z1 {z TI TO i1 i2 : Addr} {fp1 fp2 : List Addr} (S : ZipSep2 z TI TO i1 i2 fp1 fp2) : i1 ≠ z ∧ i2 ≠ z ∧ TO ≠ i1 ∧ TO ≠ i2 :=
  ⟨fun q => S.zf1 (q ▸ S.mem1), fun q => S.zf2 (q ▸ S.mem2), fun q => S.Tf1 (q ▸ S.mem1), fun q => S.Tf2 (q ▸ S.mem2)⟩
/-- a zip of two iterators as the argument of dict() -/
theorem zipArg {prog : Program} {w : World} {z TI TO i1 i2 : Addr} {fp1 fp2 : List Addr} {n1 n2 : Nat} {P1 P2 : Nat → Value → Prop} {St1 St2 : Nat → Heap → Prop} (S : ZipSep2 z TI TO i1 i2 fp1 fp2)
    (D1 : ∀ A : Around, A.handled = none → Draws prog w A i1 fp1 n1 P1 St1) (D2 : ∀ A : Around, A.handled = none → Draws prog w A i2 fp2 n2 P2 St2)
    (L1 : ∀ i h, St1 i h → ∀ b ∈ fp1, ∃ o, h.get? b = some o) (L2 : ∀ i h, St2 i h → ∀ b ∈ fp2, ∃ o, h.get? b = some o) :
    PairArg prog w "zip" z (z :: TI :: TO :: (fp1 ++ fp2)) [z, TO, i1, i2] (min n1 n2) (fun i k v => P1 i k ∧ P2 i v)
      (fun h => IsZip h z TI TO .none ∧ IsTupOf2 h TI (.ref i1) (.ref i2) ∧ (∃ a b, IsTupOf2 h TO a b) ∧ St1 0 h ∧ St2 0 h) where
  type := fun s ok => ⟨_, ok.1, rfl⟩
  notDict := by decide
  keep := fun h h' ⟨a, b, ⟨c, d, e⟩, f, g⟩ hk => ⟨hk _ _ a, hk _ _ b, ⟨c, d, hk _ _ e⟩, (D1 {} rfl).frame _ _ _ f fun b _ o e => hk b o e, (D2 {} rfl).frame _ _ _ g fun b _ o e => hk b o e⟩
  there := fun h ⟨a, b, ⟨c, d, e⟩, f, g⟩ x hx => by
    rcases List.mem_cons.mp hx with rfl | hx
    · exact ⟨_, a⟩
    rcases List.mem_cons.mp hx with rfl | hx
    · exact ⟨_, b⟩
    rcases List.mem_cons.mp hx with rfl | hx
    · exact ⟨_, e⟩
    rcases List.mem_append.mp hx with hx | hx
    · exact L1 _ _ f x hx
    · exact L2 _ _ g x hx
  sub := fun b hb => by
    simp only [List.mem_cons, List.not_mem_nil, or_false] at hb
    rcases hb with rfl | rfl | rfl | rfl
    · exact List.mem_cons_self
    · exact List.mem_cons_of_mem _ (List.mem_cons_of_mem _ List.mem_cons_self)
    · exact List.mem_cons_of_mem _ (List.mem_cons_of_mem _ (List.mem_cons_of_mem _ (List.mem_append_left _ S.mem1)))
    · exact List.mem_cons_of_mem _ (List.mem_cons_of_mem _ (List.mem_cons_of_mem _ (List.mem_append_right _ S.mem2)))
  noKeys := fun A s Q E hA ok h => getAttrOr_miss_zip ok.1 rfl rfl rfl zip_no_keys (by decide +kernel) hA h
  iter := fun A s d Q E hA ok hd hdf h => by
    obtain ⟨hz, hTI, ⟨a, b, hTO⟩, h1, h2⟩ := ok
    have dz : d ≠ z := fun q => hdf (q ▸ List.mem_cons_self)
    have dTI : d ≠ TI := fun q => hdf (q ▸ List.mem_cons_of_mem _ List.mem_cons_self)
    have dTO : d ≠ TO := fun q => hdf (q ▸ List.mem_cons_of_mem _ (List.mem_cons_of_mem _ List.mem_cons_self))
    have d1 : d ∉ fp1 := fun q => hdf (List.mem_cons_of_mem _ (List.mem_cons_of_mem _ (List.mem_cons_of_mem _ (List.mem_append_left _ q))))
    have d2 : d ∉ fp2 := fun q => hdf (List.mem_cons_of_mem _ (List.mem_cons_of_mem _ (List.mem_cons_of_mem _ (List.mem_append_right _ q))))
    obtain ⟨s1z, s2z, sT1, sT2⟩ := ZipSep2.z1 S
    have hA1 : A.in1.handled = none := hA
    refine wpAny_pyIter_zip hz (h z [z, TO, i1, i2] (fun i h => IsTupOf2 h TI (.ref i1) (.ref i2) ∧ St1 i h ∧ St2 i h ∧
      ((IsZip h z TI TO .none ∧ ∃ a b, IsTupOf2 h TO a b) ∨ ∃ T f oT, IsZipHeld h z TI TO T f ∧ h.get? T = some oT ∧ T ≠ z ∧ T ≠ i1 ∧ T ≠ i2 ∧ T ≠ d)) s.heap s.toks ?_
      ⟨hTI, h1, h2, .inl ⟨hz, a, b, hTO⟩⟩ (fun _ _ e => e) fun b hb => .inl hb)
    refine { off := fun hm => ?_, frame := fun i ha hb st hk => ?_, item := fun i s1 Q1 E1 hi st hds hQ => ?_, done := fun s1 Q1 E1 st hQ => ?_ }
    · simp only [List.mem_cons, List.not_mem_nil, or_false] at hm
      rcases hm with e | e | e | e
      · exact dz e
      · exact dTO e
      · exact d1 (e ▸ S.mem1)
      · exact d2 (e ▸ S.mem2)
    · obtain ⟨q1, q2, q3, q4⟩ := st
      refine ⟨hk _ _ (Ne.symm dTI) q1, (D1 A hA).frame _ _ _ q2 fun b hb o e => hk b o (fun z => d1 (z ▸ hb)) e, (D2 A hA).frame _ _ _ q3 fun b hb o e => hk b o (fun z => d2 (z ▸ hb)) e, ?_⟩
      rcases q4 with ⟨q4, a, b, q5⟩ | ⟨T, f, oT, q4, q5, r1, r2, r3, r4⟩
      · exact .inl ⟨hk _ _ (Ne.symm dz) q4, a, b, hk _ _ (Ne.symm dTO) q5⟩
      · exact .inr ⟨T, f, oT, hk _ _ (Ne.symm dz) q4, hk _ _ r4 q5, r1, r2, r3, r4⟩
    · obtain ⟨q1, q2, q3, q4⟩ := st
      have k1 : i < n1 := Nat.lt_of_lt_of_le hi (Nat.min_le_left ..)
      have k2 : i < n2 := Nat.lt_of_lt_of_le hi (Nat.min_le_right ..)
      have new : ∀ {c o}, s1.heap.get? c = some o → s1.heap.objs.size ≠ c := fun e => Nat.ne_of_gt (Heap.lt_size e)
      obtain ⟨o1, g1⟩ := L1 _ _ q2 i1 S.mem1
      obtain ⟨o2, g2⟩ := L2 _ _ q3 i2 S.mem2
      rcases q4 with ⟨q4, a, b, q5⟩ | ⟨T, f, oT, q4, q5, r1, r2, r3, r4⟩
      · refine wpAny_pyNext_zipD2_item S (D1 _ hA1) (D2 _ hA1) q4 q1 q5 q2 q3 k1 k2 fun x y h' tk px py a1 a2 a3 a4 a5 a6 hk => ?_
        exact hQ s1.heap.objs.size x y h' tk ⟨px, py⟩ (.inl ⟨_, a5, rfl, _, rfl⟩)
          ⟨hk _ _ S.TIz S.TITO S.TIi1 S.TIi2 q1, a3, a4, .inr ⟨s1.heap.objs.size, false, _, a1, a5, new q4, new g1, new g2, Nat.ne_of_gt hds⟩⟩
          fun c o hc e => hk c o (fun x => hc (by simp [x])) (fun x => hc (by simp [x])) (fun x => hc (by simp [x])) (fun x => hc (by simp [x])) e
      · refine next_zipH_item S (D1 _ hA1) (D2 _ hA1) q4 q5 q1 q2 q3 k1 k2 fun x y h' tk px py a1 a3 a4 a5 a6 hk => ?_
        exact hQ s1.heap.objs.size x y h' tk ⟨px, py⟩ (.inl ⟨_, a5, rfl, _, rfl⟩)
          ⟨hk _ _ S.TIz S.TIi1 S.TIi2 q1, a3, a4, .inr ⟨T, true, oT, a1, hk _ _ r1 r2 r3 q5, r1, r2, r3, r4⟩⟩
          fun c o hc e => hk c o (fun x => hc (by simp [x])) (fun x => hc (by simp [x])) (fun x => hc (by simp [x])) e
    · obtain ⟨q1, q2, q3, q4⟩ := st
      have hend : min n1 n2 = n1 ∨ min n1 n2 = n2 := by omega
      rcases q4 with ⟨q4, a, b, q5⟩ | ⟨T, f, oT, q4, q5, r1, r2, r3, r4⟩
      · exact wpAny_pyNext_zipD2_end S (D1 _ hA1) (D2 _ hA1) q4 q1 q5 q2 q3 (Nat.min_le_left ..) (Nat.min_le_right ..) hend fun h' tk hk => hQ h' tk fun c o hc e => hk c o (fun x => hc (by simp [x])) (fun x => hc (by simp [x])) (fun x => hc (by simp [x])) (fun x => hc (by simp [x])) e
      · exact next_zipH_end S (D1 _ hA1) (D2 _ hA1) q4 q5 q1 q2 q3 (Nat.min_le_left ..) (Nat.min_le_right ..) hend fun h' tk hk => hQ h' tk fun c o hc e => hk c o (fun x => hc (by simp [x])) (fun x => hc (by simp [x])) (fun x => hc (by simp [x])) e
end TP
/-! TPu: new dicts: dict(d), dict(pairs), dict(zip(a, b)). -/
namespace TP
open PySem L2
section
variable {X : Cx}
/-! ### dict(zip(a, b)) of two tuples -/
def tDictZip (K : PySem.W.Frag) (t : TA) : TE := fun σ H Q => t σ H fun vs H1 => ∃ (a b : Addr) (ks : List Key) (ys : List V), vs = [.ref a, .ref b] ∧ SqT K H1 a (ks.map kV) ∧ SqT K H1 b ys ∧ ∀ p, H1 p = none → Q (.ref p) (upd H1 p (.dK (mergeK [] (ks.zip ys))))
theorem kv_zip : ∀ (ks : List Key) {ys : List V} {us : List Value}, Vals ys us → KV (ks.zip ys) (ks.zip us)
  | [], _, _, _ => .nil
  | _ :: _, _, _, .nil => .nil
  | k :: ks, _, _, .cons h t => .cons ⟨rfl, h⟩ (kv_zip ks t)
open PySem.Spec PyProof.Rows in
theorem pe_dictzip {e1 e2 : Expr} {t : TA} {p1 p2 pos1 pos2 : Pos} (ha : PA X [e1, e2] t) (hc : X.calm = true) (hgd : Gl X "dict") (hmd : X.mg "dict" = none) (hgz : Gl X "zip") (hmz : X.mg "zip" = none)
    (he1 : starEach [e1, e2] X.env = (false, eval e1 X.env) :: starEach [e2] X.env := by rfl) (hp1 : (backTo pos2 (starEach [e2] X.env)).any (·.1) = false := by rfl)
    (he2 : starEach [.Call (.Name "zip" p2) [e1, e2] [] pos2] X.env = (false, eval (.Call (.Name "zip" p2) [e1, e2] [] pos2) X.env) :: starEach [] X.env := by rfl) :
    PE X (.Call (.Name "dict" p1) [.Call (.Name "zip" p2) [e1, e2] [] pos2] [] pos1) (tDictZip X.K t) := by
  have bd : bootBuiltins "dict" = some (.type "dict") := by decide +kernel
  have bz : bootBuiltins "zip" = some (.type "zip") := by decide +kernel
  constructor
  intro pins s σ H Q I h
  refine wpAny_Call_Name_kw (ld_blt I hgd hmd bd (callWith_type1 ?_ he2 (by rfl)))
  rw [he2]
  show wpAny _ _ (spliced ((false, eval (.Call (.Name "zip" p2) [e1, e2] [] pos2) X.env) :: backTo pos1 (starEach [] X.env))) _ _ s
  refine Calls.spliced_cons (wpAny_Call_Name_kw (ld_blt I hgz hmz bz (callWith_type1 (thn (ha.run pos2 pins s σ H _ I h) ?_) he1 hp1)))
  rintro us s1 ⟨vs, H1, I1, r, a, b, ks, ys, rfl, ta, tb, q⟩
  obtain ⟨u1, u2, rfl, r1, r2⟩ := vals2 r
  obtain rfl : u1 = Value.ref a := r1
  obtain rfl : u2 = Value.ref b := r2
  obtain ⟨its1, rv1, h1, l1⟩ := I1.tuple ta
  obtain ⟨its2, rv2, h2, l2⟩ := I1.tuple tb
  generalize hN : s1.heap.objs.size = N
  refine zip_begins2 (begins_tuple a its1.toArray) (begins_tuple b its2.toArray) h1 h2 ?_
  intro h' hz hTI hTO g1 g2 hsz hk
  rw [hN] at hz hTI hTO g1 g2 hsz ⊢
  have la : a < N := by rw [← hN]; exact Heap.lt_size h1.choose_spec.1
  have lb : b < N := by rw [← hN]; exact Heap.lt_size h2.choose_spec.1
  refine Calls.spliced_nil ?_
  have hh : X.A.handled = none := I1.ok.hd hc
  have S := zip_sep2 (N := N) (fp1 := [a]) (fp2 := [b]) (fun c hc => by rw [List.mem_singleton] at hc; subst hc; exact la) (fun c hc => by rw [List.mem_singleton] at hc; subst hc; exact lb)
  have P := zipArg (prog := X.prog) (w := X.w) S (fun A hA => Draws.tuple hA N a (Nat.ne_of_lt la) its1.toArray) (fun A hA => Draws.tuple hA (N + 1) b (Nat.ne_of_lt (Nat.lt_succ_of_lt lb)) its2.toArray)
    (fun i h st c hc => by
      obtain ⟨⟨o, ho, _⟩, ⟨o2, ho2, _⟩⟩ := st
      simp only [List.mem_cons, List.not_mem_nil, or_false] at hc
      rcases hc with rfl | rfl
      · exact ⟨o, ho⟩
      · exact ⟨o2, ho2⟩)
    (fun i h st c hc => by
      obtain ⟨⟨o, ho, _⟩, ⟨o2, ho2, _⟩⟩ := st
      simp only [List.mem_cons, List.not_mem_nil, or_false] at hc
      rcases hc with rfl | rfl
      · exact ⟨o, ho⟩
      · exact ⟨o2, ho2⟩)
  have rel : KV (ks.zip ys) (ks.zip its2) := kv_zip ks rv2
  have lk : its1.length = ks.length := by rw [← rv1.length, List.length_map]
  refine call_dict_pairs (knd := mixKind X.prog X.w) (kvs := ks.zip its2) P hh ⟨hz, hTI, ⟨_, _, hTO⟩, ⟨⟨_, g1, rfl, rfl⟩, h1.keeps hk⟩, ⟨⟨_, g2, rfl, rfl⟩, h2.keeps hk⟩⟩ ⟨?_, ?_⟩ ?_ ?_
  · rw [List.length_zip, List.size_toArray, List.size_toArray, lk]
  · rintro i key v ⟨k1, k2⟩
    rw [List.getElem?_toArray] at k1 k2
    have hi : i < its1.length := (List.getElem?_eq_some_iff.mp k1).1
    have hik : i < ks.length := by omega
    obtain ⟨u, hu, ru⟩ := rv1.get (i := i) (x := kV ks[i]) (by rw [List.getElem?_map, List.getElem?_eq_getElem hik]; rfl)
    rw [k1] at hu
    cases hu
    exact ⟨ks[i], by rw [List.getElem?_zip_eq_some]; exact ⟨List.getElem?_eq_getElem hik, k2⟩, kV_is ru⟩
  · rw [List.size_toArray, List.size_toArray]
    have := rv2.length
    omega
  · intro h'' tk hd hk2
    have hbig : sysModules < N := by rw [← hN]; exact I1.big
    have hb : N + 5 ≠ sysModules := Nat.ne_of_gt (Nat.lt_of_lt_of_le hbig (Nat.le_add_right N 5))
    have hm : ((N + 5 : Addr) == sysModules) = false := beq_eq_false_iff_ne.mpr hb
    rw [hsz] at hd ⊢
    have hlen : (mergeK [] (ks.zip ys)).length ≤ sizeLine := by
      refine Nat.le_trans (length_mergeK (ks.zip ys) []) ?_
      rw [List.length_nil, Nat.zero_add, List.length_zip]
      have := rv2.length
      omega
    have keep : ∀ c u, s1.heap.get? c = some u → h''.get? c = some u := fun c u e => by
      have lc : c < N := by rw [← hN]; exact Heap.lt_size e
      refine hk2 c u (fun hm => ?_) (hk c u e)
      simp only [List.mem_cons, List.not_mem_nil, or_false] at hm
      rcases hm with x | x | x | x
      · exact Nat.ne_of_lt (Nat.lt_of_lt_of_le lc (Nat.le_add_right N 4)) x
      · exact Nat.ne_of_lt (Nat.lt_of_lt_of_le lc (Nat.le_add_right N 3)) x
      · exact Nat.ne_of_lt lc x
      · exact Nat.ne_of_lt (Nat.lt_of_lt_of_le lc (Nat.le_add_right N 1)) x
    refine ⟨.ref (N + 5), upd H1 (N + 5) (.dK (mergeK [] (ks.zip ys))), ?_, rfl, q _ (I1.hok.fresh (by rw [hN]; exact Nat.le_add_right N 5))⟩
    exact I1.laid (t' := tk) keep (by rw [hN]; exact Nat.le_add_right N 5) (show ObjOk X.prog X.w _ _ _ (.dK (mergeK [] (ks.zip ys))) from ⟨hlen, hm, merged [] (ks.zip its2), KV.merge rel .nil, hd⟩)
/-! ### dict(pairs), keys that are tuples -/
def mergeT (kvs : List (List Key × V)) (qs : List (List Key × Addr × V)) : List (List Key × V) := qs.foldl (fun acc q => putK acc q.1 q.2.2) kvs
def rDictT (K : PySem.W.Frag) : List V → Hp → VK → Prop := fun xs H Q => ∃ (a : Addr) (ps : List Addr) (qs : List (List Key × Addr × V)), xs = [.ref a] ∧ SqL K H a (ps.map V.ref) ∧
  Paired (fun p q => SqT K H p [.ref q.2.1, q.2.2] ∧ H q.2.1 = some (.tup (q.1.map kV))) ps qs ∧ ∀ p, H p = none → Q (.ref p) (upd H p (.dT (mergeT [] qs)))
theorem pairsT_of {pins : List (Addr × Obj)} {σ : L2.St} {H : Hp} {s : Shared} (I : L2.Inv X pins σ H s) : ∀ {ps : List Addr} {qs : List (List Key × Addr × V)}, Paired (fun p (q : List Key × Addr × V) => SqT X.K H p [.ref q.2.1, q.2.2] ∧ H q.2.1 = some (.tup (q.1.map kV))) ps qs →
    ∃ rs : List (List Key × Addr × Value), Paired (fun (q : List Key × Addr × V) (r : List Key × Addr × Value) => q.1 = r.1 ∧ q.2.1 = r.2.1 ∧ RelV q.2.2 r.2.2) qs rs ∧ rs.length = ps.length ∧
      ∀ (j : Nat) (r : List Key × Addr × Value), rs[j]? = some r → ∃ b, ps[j]? = some b ∧ PyProof.Rows.IsTup s.heap b #[.ref r.2.1, r.2.2] ∧ H r.2.1 = some (.tup (r.1.map kV))
  | _, _, .nil => ⟨[], .nil, rfl, fun j r e => by simp at e⟩
  | _, _, .cons (a := p) (b := q) h t => by
    obtain ⟨rs, r1, r2, r3⟩ := pairsT_of I t
    obtain ⟨its, rv, ht, _⟩ := I.tuple h.1
    obtain ⟨u, y, ei, ru, ry⟩ := vals2 rv
    subst ei
    obtain rfl : u = Value.ref q.2.1 := ru
    refine ⟨(q.1, q.2.1, y) :: rs, .cons ⟨rfl, rfl, ry⟩ r1, by rw [List.length_cons, List.length_cons, r2], fun j r e => ?_⟩
    cases j with
    | zero =>
      have e' : (q.1, q.2.1, y) = r := Option.some.inj e
      subst e'
      exact ⟨p, rfl, ht, h.2⟩
    | succ j =>
      obtain ⟨b, e1, e2, e3⟩ := r3 j r (by simpa using e)
      exact ⟨b, by simpa using e1, e2, e3⟩
theorem kt_fold {H : Hp} : ∀ {qs : List (List Key × Addr × V)} {rs : List (List Key × Addr × Value)} {kvs : List (List Key × V)} {xs : List (List Key × Addr × Value)},
    Paired (fun (q : List Key × Addr × V) (r : List Key × Addr × Value) => q.1 = r.1 ∧ q.2.1 = r.2.1 ∧ RelV q.2.2 r.2.2) qs rs → (∀ q ∈ qs, H q.2.1 = some (.tup (q.1.map kV))) → KT H kvs xs → KT H (mergeT kvs qs) (storedAllH xs rs)
  | _, _, kvs, xs, .nil, _, h => h
  | _, _, kvs, xs, .cons (a := q) (b := r) h t, hq, hk => by
    obtain ⟨k', b', y'⟩ := r
    obtain ⟨k, b, y⟩ := q
    obtain ⟨e1, e2, e3⟩ := h
    have e1 : k = k' := e1
    have e2 : b = b' := e2
    subst e1 e2
    have e3 : RelV y y' := e3
    have hb : H b = some (.tup (k.map kV)) := hq (k, b, y) List.mem_cons_self
    show KT H (mergeT (putK kvs k y) _) (storedAllH (storedH xs k b y') _)
    exact kt_fold (kvs := putK kvs k y) (xs := storedH xs k b y') t (fun q hm => hq q (List.mem_cons_of_mem _ hm)) (hk.put k hb e3)
theorem mergeT_len : ∀ (qs : List (List Key × Addr × V)) (kvs : List (List Key × V)), (mergeT kvs qs).length ≤ kvs.length + qs.length
  | [], kvs => Nat.le_refl _
  | q :: qs, kvs => by
    have h1 := mergeT_len qs (putK kvs q.1 q.2.2)
    have h2 : (putK kvs q.1 q.2.2).length ≤ kvs.length + 1 := by
      unfold putK
      split
      · rw [List.length_map]; omega
      · rw [List.length_append]; exact Nat.le_refl _
    rw [List.length_cons]
    show (mergeT (putK kvs q.1 q.2.2) qs).length ≤ _
    omega
open PySem.Spec PyProof.Rows in
theorem call_dictT (hcalm : X.calm = true) (hu : X.A.units + 200 < cLine) : CallR X (.type "dict") (rDictT X.K) := by
  intro pins s σ H xs us Q I r h
  obtain ⟨a, ps, qs, rfl, hq, hp, q⟩ := h
  obtain ⟨u, rfl, rx⟩ := vals1 r
  obtain rfl : u = Value.ref a := rx
  obtain ⟨its, rv, pl, hz⟩ := I.list hq
  have ei := refs_at rv
  subst ei
  rw [List.length_map] at hz
  obtain ⟨rs, rel, hl, hr⟩ := pairsT_of I hp
  obtain ⟨o, n, ho, hc, hd, hdat⟩ := pl
  have P := PairArg.list (prog := X.prog) (w := X.w) a (ps.map Value.ref).toArray (fun j => ps.getD j 0) (rs.map fun x => (Value.ref x.2.1, x.2.2))
  have key : ∀ x ∈ rs, H x.2.1 = some (.tup (x.1.map kV)) := fun x hx => by
    obtain ⟨j, hj⟩ := List.getElem?_of_mem hx
    obtain ⟨b, _, _, e⟩ := hr j x hj
    exact e
  refine call_dict_pairsH (knd := tupleKind (mixKind X.prog X.w)) (ps := rs) P (I.ok.hd hcalm) (by show X.A.in1.in1.units < cLine; show X.A.units + 1 + 1 < cLine; omega) ⟨⟨o, n, ho, hc, hd, hdat⟩, by simp [hl], fun j k v hj => ?_⟩ ⟨by rw [List.length_map], fun j k v hj => ?_⟩ (fun h' hk x hx => ?_) (by rw [List.length_map, hl]; exact hz) fun h' tk hd' hk => ?_
  · rw [List.getElem?_map] at hj
    cases hx : rs[j]? with
    | none => rw [hx] at hj; cases hj
    | some x =>
      rw [hx] at hj
      cases hj
      obtain ⟨b, e1, e2, _⟩ := hr j x hx
      refine ⟨by simp [e1], .inl ?_⟩
      show s.heap.IsTuple (ps.getD j 0) _
      rw [show ps.getD j 0 = b by simp [e1]]
      exact e2
  · have hj' : (rs.map fun x => (Value.ref x.2.1, x.2.2))[j]? = some (k, v) := hj
    rw [List.getElem?_map] at hj'
    cases hx : rs[j]? with
    | none => rw [hx] at hj'; cases hj'
    | some x =>
      rw [hx] at hj'
      cases hj'
      exact ⟨x.1, x.2.1, rfl, rfl⟩
  · obtain ⟨ob, iv, nv, hob, r⟩ := (show IsTupleKey (mixKind X.prog X.w) s.heap x.1 x.2.1 from key_of I.hok (key x hx))
    exact ⟨ob, iv, nv, hk _ _ (Nat.ne_of_lt (Heap.lt_size hob)) (by simp) hob, r⟩
  · have hm : (s.heap.objs.size == sysModules) = false := beq_eq_false_iff_ne.mpr (Nat.ne_of_gt I.big)
    have lq : qs.length = ps.length := by
      have : ∀ {α β : Type} {R : α → β → Prop} {l : List α} {m : List β}, Paired R l m → l.length = m.length := fun {α β R l m} h => by
        induction h with
        | nil => rfl
        | cons _ _ ih => rw [List.length_cons, List.length_cons, ih]
      exact (this hp).symm
    have hlen : (mergeT [] qs).length ≤ sizeLine := by
      refine Nat.le_trans (mergeT_len qs []) ?_
      rw [List.length_nil, Nat.zero_add, lq]
      exact hz
    have hqk : ∀ x ∈ qs, H x.2.1 = some (.tup (x.1.map kV)) := by
      have : ∀ {ps : List Addr} {qs : List (List Key × Addr × V)}, Paired (fun p (q : List Key × Addr × V) => SqT X.K H p [.ref q.2.1, q.2.2] ∧ H q.2.1 = some (.tup (q.1.map kV))) ps qs → ∀ x ∈ qs, H x.2.1 = some (.tup (x.1.map kV)) := fun {ps qs} h => by
        induction h with
        | nil => intro x hx; cases hx
        | cons h1 _ ih =>
          intro x hx
          rcases List.mem_cons.mp hx with rfl | hx
          · exact h1.2
          · exact ih x hx
      exact this hp
    have fr : H s.heap.objs.size = none := I.hok.fresh (Nat.le_refl _)
    have kt : KT (upd H s.heap.objs.size (.dT (mergeT [] qs))) (mergeT [] qs) (storedAllH [] rs) := (kt_fold rel hqk .nil).keeps fun b ys e => by rw [upd_ne (ne_of_none e fr)]; exact e
    obtain ⟨o', es, ep, d1, d2, d3, d4, _, d6⟩ := hd'
    exact ⟨.ref s.heap.objs.size, upd H s.heap.objs.size (.dT (mergeT [] qs)), I.laid (t' := tk) (fun b u e => hk b u (by simp) e) (Nat.le_refl _) (show ObjOk X.prog X.w _ _ _ (.dT (mergeT [] qs)) from ⟨hlen, hm, storedAllH [] rs, kt, o', es, ep, d1, d2, d3, d4, d6⟩), rfl, q _ fr⟩
end
section
variable {K : PySem.W.Frag} {E : Wish} {X : Cx} {e : Expr}
/-! ### a new thing of the store, by what is handed in -/
def PrimD (K : PySem.W.Frag) (r : List V → Hp → VK → Prop) (g : Store → D → Option MO) : Prop := ∀ (w : Wd) (vx : V) (x : D) (o : MO) (Q : VK), w.Ok K → RepB K w vx x → g w.M x = some o →
  (∀ p ho, w.H p = none → MoR K ⟨w.A, w.G, w.M, upd w.H p ho⟩ p o → Q (.ref p) (upd w.H p ho)) → r [vx] w.H Q
def dNewD (g : Store → D → Option MO) (fo : FD) : FD := fun ρ M => (fo ρ M).bind fun x M => match g M x with
  | some o => .ok (.ref M.length) (M ++ [o])
  | none => .bad
theorem x_newD {r : List V → Hp → VK → Prop} {g : Store → D → Option MO} {fo : FD} (h : PE X e (tCB r (tAR K E (dCons fo dNil)))) (p : PrimD K r g) : PE X e (tF K E (dNewD g fo)) := PE.wk h fun σ H Q ⟨ρ, w, e1, ok, sr, a⟩ => by
  refine ⟨ρ, w, e1, ok, sr, ?_⟩
  unfold dNewD at a
  cases hfo : fo ρ w.M with
  | bad => rw [hfo] at a; exact a.elim
  | exc c d M1 =>
    rw [hfo] at a
    unfold dCons
    rw [hfo]
    exact a
  | ok x M1 =>
    rw [hfo] at a
    unfold dCons
    rw [hfo]
    intro w1 s1 eM vs rvs
    cases rvs with
    | cons rv t =>
      cases t
      have a' := a
      simp only [R.bind_ok] at a'
      split at a'
      · rename_i o ho
        refine p w1 _ x o Q s1.ok rv (by rw [eM]; exact ho) fun q hob hq hm => ?_
        obtain ⟨st, hA⟩ := new_obj (o := hob) (m := o) s1.ok hq hm
        have a2 : ∀ w', Step K w w' → w'.M = M1 ++ [o] → ∀ v, Rep K w'.A w'.G v (.ref M1.length) → Q v w'.H := a'
        refine a2 _ (s1.trans st) (by rw [eM]) _ ?_
        rw [← eM]
        exact .ref hA
      · exact a'.elim
/-! ### dict(d) -/
def rDictD : List V → Hp → VK → Prop := fun xs H Q => ∃ (a : Addr) (kvs : List (Key × V)), xs = [.ref a] ∧ Rd H a (.dK kvs) ∧ ∀ p, H p = none → Q (.ref p) (upd H p (.dK kvs))
def copyD (M : Store) (x : D) : Option MO := match x with
  | .ref k => match M[k]? with
    | some (.dK kvs) => some (.dK kvs)
    | _ => none
  | _ => none
theorem p_copyD : PrimD K rDictD copyD := by
  intro w vx x o Q ok rx h k
  unfold copyD at h
  split at h
  · rename_i j
    split at h
    · rename_i kvs e2
      cases h
      obtain ⟨p, rfl, ea⟩ := ref_at rx
      obtain ⟨p', ea', vs, hH, rk⟩ := ok.mos j _ e2
      rw [ea] at ea'
      cases ea'
      exact ⟨p, vs, rfl, .inl hH, fun q hq => k q _ hq ⟨vs, upd_same, rk⟩⟩
    · cases h
  · cases h
/-! ### dict(pairs) -/
def mergeP {κ : Type} [DecidableEq κ] (acc kvs : List (κ × D)) : List (κ × D) := kvs.foldl (fun acc kv => putD acc kv.1 kv.2) acc
def pairsK : List D → Option (List (Key × D))
  | [] => some []
  | .tup [k, v] :: ds => match keyD k, pairsK ds with
    | some k, some r => some ((k, v) :: r)
    | _, _ => none
  | _ => none
def pairsT : List D → Option (List (List Key × D))
  | [] => some []
  | .tup [.tup k, v] :: ds => match keysD k, pairsT ds with
    | some k, some r => some ((k, v) :: r)
    | _, _ => none
  | _ => none
def rDictP (K : PySem.W.Frag) : List V → Hp → VK → Prop := fun xs H Q => ∃ (a : Addr) (ps : List Addr) (kvs : List (Key × V)), xs = [.ref a] ∧ SqL K H a (ps.map V.ref) ∧ Paired (fun p kv => SqT K H p [kV kv.1, kv.2]) ps kvs ∧
  ∀ p, H p = none → Q (.ref p) (upd H p (.dK (mergeK [] kvs)))
theorem pairsK_at {A : List Addr} {G H : Hp} (sub : Same G H) : ∀ {vs : List V} {ds : List D} {kvs : List (Key × D)}, RepL K A G vs ds → pairsK ds = some kvs →
    ∃ (ps : List Addr) (kv : List (Key × V)), vs = ps.map V.ref ∧ Paired (fun p kv => SqT K H p [kV kv.1, kv.2]) ps kv ∧ RepKV (Rep K A G) kv kvs
  | [], [], _, _, h => by
    unfold pairsK at h
    cases h
    exact ⟨[], [], rfl, .nil, .nil⟩
  | v :: vs, d :: ds, kvs, .cons r t, h => by
    unfold pairsK at h
    split at h
    · rename_i heq; cases heq
    · rename_i k d2 ds2 heq
      cases heq
      split at h
      · rename_i key rest hk hr
        cases h
        obtain ⟨ps, kv, rfl, hp, hrk⟩ := pairsK_at sub t hr
        cases r with
        | @tup a us _ hs rl =>
          cases rl with
          | cons r1 t1 =>
            cases t1 with
            | cons r2 t2 =>
              cases t2
              have e := key_at r1 hk
              subst e
              exact ⟨a :: ps, (key, _) :: kv, rfl, .cons (.inl (.inl (sub _ _ hs))) hp, .cons r2 hrk⟩
      · cases h
    · cases h
theorem pairsT_at {A : List Addr} {G H : Hp} (sub : Same G H) : ∀ {vs : List V} {ds : List D} {kvs : List (List Key × D)}, RepL K A G vs ds → pairsT ds = some kvs →
    ∃ (ps : List Addr) (qs : List (List Key × Addr × V)), vs = ps.map V.ref ∧ Paired (fun p (q : List Key × Addr × V) => SqT K H p [.ref q.2.1, q.2.2] ∧ H q.2.1 = some (.tup (q.1.map kV))) ps qs ∧ RepKV (Rep K A G) (qs.map fun q => (q.1, q.2.2)) kvs
  | [], [], _, _, h => by
    unfold pairsT at h
    cases h
    exact ⟨[], [], rfl, .nil, .nil⟩
  | v :: vs, d :: ds, kvs, .cons r t, h => by
    unfold pairsT at h
    split at h
    · rename_i heq; cases heq
    · rename_i k d2 ds2 heq
      cases heq
      split at h
      · rename_i key rest hk hr
        cases h
        obtain ⟨ps, qs, rfl, hp, hrk⟩ := pairsT_at sub t hr
        cases r with
        | @tup a us _ hs rl =>
          cases rl with
          | cons r1 t1 =>
            cases t1 with
            | cons r2 t2 =>
              cases t2
              cases r1 with
              | @tup b ks _ hb rb =>
                have e := keys_at rb hk
                subst e
                exact ⟨a :: ps, (key, b, _) :: qs, rfl, .cons ⟨.inl (.inl (sub _ _ hs)), sub _ _ hb⟩ hp, .cons r2 hrk⟩
      · cases h
    · cases h
theorem merge_kv {κ : Type} [DecidableEq κ] {R : V → D → Prop} : ∀ {kv : List (κ × V)} {kd : List (κ × D)} {av : List (κ × V)} {ad : List (κ × D)}, RepKV R kv kd → RepKV R av ad → RepKV R (kv.foldl (fun acc x => putK acc x.1 x.2) av) (mergeP ad kd)
  | _, _, av, ad, .nil, h => h
  | (k, v) :: kv, (_, d) :: kd, av, ad, .cons r t, h => by
    show RepKV R (kv.foldl (fun acc x => putK acc x.1 x.2) (putK av k v)) (mergeP (putD ad k d) kd)
    exact merge_kv t (h.put r k)
def pairKD (M : Store) (x : D) : Option MO := match lstOf M x with
  | some ds => (pairsK ds).map fun kvs => .dK (mergeP [] kvs)
  | none => none
theorem p_pairKD : PrimD K (rDictP K) pairKD := by
  intro w vx x o Q ok rx h k
  unfold pairKD at h
  split at h
  · rename_i ds e1
    cases hp : pairsK ds with
    | none => rw [hp] at h; cases h
    | some kvs =>
      rw [hp] at h
      cases h
      obtain ⟨p, vs, rfl, hs, rl⟩ := lst_at ok rx e1
      obtain ⟨ps, kv, rfl, h1, h2⟩ := pairsK_at ok.sub rl hp
      exact ⟨p, ps, kv, rfl, .inl (.inl hs), h1, fun q hq => k q _ hq ⟨_, upd_same, merge_kv h2 .nil⟩⟩
  · cases h
def pairTD (M : Store) (x : D) : Option MO := match lstOf M x with
  | some ds => (pairsT ds).map fun kvs => .dT (mergeP [] kvs)
  | none => none
theorem mergeT_eq (qs : List (List Key × Addr × V)) : ∀ acc, mergeT acc qs = (qs.map fun q => (q.1, q.2.2)).foldl (fun acc x => putK acc x.1 x.2) acc := by
  induction qs with
  | nil => intro acc; rfl
  | cons q qs ih => intro acc; exact ih _
theorem p_pairTD : PrimD K (rDictT K) pairTD := by
  intro w vx x o Q ok rx h k
  unfold pairTD at h
  split at h
  · rename_i ds e1
    cases hp : pairsT ds with
    | none => rw [hp] at h; cases h
    | some kvs =>
      rw [hp] at h
      cases h
      obtain ⟨p, vs, rfl, hs, rl⟩ := lst_at ok rx e1
      obtain ⟨ps, qs, rfl, h1, h2⟩ := pairsT_at ok.sub rl hp
      refine ⟨p, ps, qs, rfl, .inl (.inl hs), h1, fun q hq => k q _ hq ⟨_, upd_same, ?_⟩⟩
      rw [mergeT_eq]
      exact merge_kv h2 .nil
  · cases h
/-! ### dict(zip(a, b)) -/
def dDictZ (fs : FL) : FD := fun ρ M => (fs ρ M).bind fun ds M => match ds with
  | [.tup xs, .tup ys] => match keysD xs with
    | some ks => .ok (.ref M.length) (M ++ [.dK (mergeP [] (ks.zip ys))])
    | none => .bad
  | _ => .bad
theorem zip_kv {R : V → D → Prop} : ∀ (ks : List Key) {vs : List V} {ds : List D}, (∀ (i : Nat) (v : V), vs[i]? = some v → ∃ d, ds[i]? = some d ∧ R v d) → vs.length = ds.length → RepKV R (ks.zip vs) (ks.zip ds)
  | [], _, _, _, _ => .nil
  | _ :: _, [], [], _, _ => .nil
  | k :: ks, v :: vs, d :: ds, h, hl => by
    obtain ⟨d', e, r⟩ := h 0 v rfl
    cases e
    exact .cons r (zip_kv ks (fun i x hx => by
      obtain ⟨y, h1, h2⟩ := h (i + 1) x (by simpa using hx)
      exact ⟨y, by simpa using h1, h2⟩) (by simpa using hl))
  | _ :: _, [], _ :: _, _, hl => by cases hl
  | _ :: _, _ :: _, [], _, hl => by cases hl
theorem x_dictZ {fs : FL} (h : PE X e (tDictZip K (tAF K E fs))) : PE X e (tF K E (dDictZ fs)) := PE.wk h fun σ H Q ⟨ρ, w, e1, ok, sr, a⟩ =>
  ⟨ρ, w, e1, ok, sr, a.bind.imp fun ds w1 s1 a1 vs rvs => by
    split at a1
    · rename_i xs ys
      split at a1
      · rename_i ks hk
        cases rvs with
        | cons r1 t1 =>
          cases t1 with
          | cons r2 t2 =>
            cases t2
            cases r1 with
            | @tup p us _ hs rl =>
              cases r2 with
              | @tup q ws _ hs2 rl2 =>
                have e := keys_at rl hk
                subst e
                refine ⟨p, q, ks, ws, rfl, .inl (.inl (s1.ok.sub _ _ hs)), .inl (.inl (s1.ok.sub _ _ hs2)), fun n hn => ?_⟩
                obtain ⟨st, hA⟩ := new_obj (o := .dK (mergeK [] (ks.zip ws))) (m := .dK (mergeP [] (ks.zip ys))) s1.ok hn ⟨_, upd_same, merge_kv (zip_kv ks (fun i v hv => rl2.get' hv) rl2.length) .nil⟩
                have a2 : ∀ w', Step K w1 w' → w'.M = w1.M ++ [.dK (mergeP [] (ks.zip ys))] → ∀ v, Rep K w'.A w'.G v (.ref w1.M.length) → Q v w'.H := a1
                exact a2 _ st rfl _ (.ref hA)
      · exact a1.elim
    · exact a1.elim⟩
end
end TP
/-! TPv: what the printed proofs of classes use besides. -/
namespace TP
open PySem L2
/-- a, b = a list -/
def bLst (is : List Nat) : D → EnvD → Option EnvD := fun d ρ => match d with
  | .lst ds => bNames is ds ρ
  | _ => none
theorem x_glst {X : Cx} {K : PySem.W.Frag} {tg : Expr} {is : List Nat} {n : Nat} (hn : n = is.length) (h : PG X tg (gLst K n (gNames is))) : PG X tg (tG K (bLst is) is) := PG.wk h fun v σ H Q ⟨ρ, w, d, ρ', e1, ok, sr, r, eb, k⟩ => by
  subst e1
  unfold bLst at eb
  split at eb
  · cases r with
    | lst hs rl =>
      refine ⟨_, _, rfl, .inl (.inl (ok.sub _ _ hs)), by rw [rl.length, ← bNames_len eb, hn], ?_⟩
      exact gNames_ok ok is _ _ ρ ρ' σ sr rl eb k
  · cases eb
/-- a, b = x, []: the second is a list of its own -/
def sParO (i j : Nat) (f : FD) (g : FE) : FS := fun ρ M => (f ρ M).out fun x M => (g ρ M).out fun y M => match y with
  | .val d => .next ((ρ.set i (.val x)).set j (.val d)) M
  | .own ds => .next ((ρ.set i (.val x)).set j (.own ds)) M
  | .un => .bad
theorem s_parO {X : Cx} {K : PySem.W.Frag} {E : Wish} {st : Stmt} {i j : Nat} {f : FD} {g : FE} (h : PS X st (tPar i j (tCons (tF K E f) (tCons (tE K E g) tNil)))) : PS X st (tS K E (sParO i j f g)) := PS.wk h fun D σ H ⟨ρ, w, w0, e1, s, sr, of, p⟩ =>
  ⟨ρ, w, e1, s.ok, sr, (out_after s p).imp fun x w1 s1 p1 v rv => ⟨ρ, w1, rfl, s1.ok, sr.step s1, (out_after (s.trans s1) p1).imp fun y w2 s2 p2 u ru => by
    refine ⟨_, _, rfl, ?_⟩
    cases y with
    | un => exact p2.elim
    | val d =>
      have sr2 : SR K w2 ((ρ.set i (.val x)).set j (.val d)) ((σ.set i (some v)).set j (some u)) := (((sr.step s1).set i rv).step s2).set j ru
      exact p2 w2 _ ((s.trans s1).trans s2) (Le.refl _) rfl sr2 (of.sub ((OwnSub.set ρ σ i (fun _ z => by cases z) _).trans (OwnSub.set _ _ j (fun _ z => by cases z) _)))
    | own ds => exact p2 w2 _ ((s.trans s1).trans s2) (Le.refl _) rfl (((sr.step s1).set i rv).setOwn s2 j ru) ((of.sub (OwnSub.set ρ σ i (fun _ z => by cases z) _)).setOwn (s.trans s1) j ru)⟩⟩
/-- the n-th statement of a class -/
def clsS (s : Stmt) (n : Nat) : Stmt := match s with
  | .ClassDef (body := b) .. => b.getD n (.Pass ⟨0, 0, 0, 0⟩)
  | _ => .Pass ⟨0, 0, 0, 0⟩
theorem clsAt_of {K : PySem.W.Frag} {c : Str} {C : Addr} (h : PySem.W.nsIn K mainGlobals c = some (some (.ref C))) : clsAt K c = C := by
  unfold clsAt
  rw [h]
theorem cls_mk {K : PySem.W.Frag} {c : Str} {C : Addr} (h : PySem.W.nsIn K mainGlobals c = some (some (.ref C))) (h1 : PySem.W.plainGet K C Str.empty = true) (h2 : PySem.W.hasDictIn K C = true) (h3 : PySem.W.plainOver K C = true) (h4 : PySem.W.findIn K (.ref C) "__setattr__" = some (some (.builtin "object.__setattr__"))) : Cls K (clsAt K c) := by
  rw [clsAt_of h]
  exact ⟨h1, h2, h3, h4⟩
theorem mk_mk {K : PySem.W.Frag} {c : Str} {C f : Addr} (h : PySem.W.nsIn K mainGlobals c = some (some (.ref C))) (h1 : PySem.W.makesIn K C = true) (h2 : PySem.W.findIn K (.ref C) "__init__" = some (some (.ref f))) (h3 : PySem.W.isFn K (.ref f) = true) (h4 : PySem.W.keepIn K (.ref C) = true) : Mk K (clsAt K c) f := by
  rw [clsAt_of h]
  exact ⟨h1, h2, h3, h4⟩
theorem meth_mk {K : PySem.W.Frag} {c m : Str} {C f : Addr} (h : PySem.W.nsIn K mainGlobals c = some (some (.ref C))) (h1 : PySem.W.findIn K (.ref C) m = some (some (.ref f))) (h2 : PySem.W.isFn K (.ref f) = true) (h3 : PySem.W.keepIn K (.ref f) = true) : Meth K (clsAt K c) m f := by
  rw [clsAt_of h]
  exact ⟨h1, h2, h3⟩
theorem na_mk {K : PySem.W.Frag} {c m : Str} {C : Addr} (h : PySem.W.nsIn K mainGlobals c = some (some (.ref C))) (h1 : PySem.W.findIn K (.ref C) m = some none) : NoAttr K (clsAt K c) m := by
  rw [clsAt_of h]
  exact h1
theorem tab_nil {P : Str → Nat → Prop} : ∀ c i, ([] : List (Str × Nat)).lookup c = some i → P c i := fun c i h => by simp at h
theorem tab_cons {P : Str → Nat → Prop} {c0 : Str} {i0 : Nat} {tab : List (Str × Nat)} (h0 : P c0 i0) (h : ∀ c i, tab.lookup c = some i → P c i) : ∀ c i, ((c0, i0) :: tab).lookup c = some i → P c i := fun c i e => by
  rw [List.lookup_cons] at e
  cases hb : c == c0 with
  | true =>
    rw [hb] at e
    cases e
    rw [beq_iff_eq.mp hb]
    exact h0
  | false =>
    rw [hb] at e
    exact h c i e
section
variable {K : PySem.W.Frag} {E : Wish} {X : Cx} {e : Expr} {st : Stmt}
theorem x_methC0 {We : XK → Wish} {n : Nat} {m : Str} {tab : List (Str × Nat)} {Φ : Nat → Fn} {EX : XK} {fo : FD} (hE : We EX = E) (h0 : ∃ c i, tab.lookup c = some i)
    (h : ∀ c i, tab.lookup c = some i → PE X e (tMeth (clsAt K c) m (spD K We n (Φ i)) [] EX (tR K E fo) tNil)) : PE X e (tE K E (dMethC n m tab Φ fo dNil)) := by
  constructor
  intro pins s σ H Q I ⟨ρ, w, e1, ok, sr, a⟩
  unfold dMethC at a
  cases hfo : fo ρ w.M with
  | bad => rw [hfo] at a; exact a.elim
  | exc c d M1 =>
    rw [hfo] at a
    obtain ⟨c0, i0, hc0⟩ := h0
    refine (h c0 i0 hc0).run pins s σ H Q I ⟨ρ, w, e1, ok, sr, ?_⟩
    rw [hfo]
    exact a
  | ok x M1 =>
    rw [hfo] at a
    have a' := a
    simp only [R.bind_ok] at a'
    split at a'
    · rename_i k
      split at a'
      · rename_i c fds e2
        split at a'
        · rename_i hl1 hl2
          rename_i i
          refine (h c i hl2).run pins s σ H Q I ⟨ρ, w, e1, ok, sr, ?_⟩
          rw [hfo]
          intro w1 s1 eM vx rx
          obtain ⟨p, rfl, ea⟩ := ref_at rx
          rw [← eM] at e2 a'
          obtain ⟨p', ea', io, vs, dx, hH, rk⟩ := s1.ok.mos k _ e2
          rw [ea] at ea'
          cases ea'
          refine ⟨p, dx, vs, rfl, hH, (kv_look m rk).2 hl1, ?_⟩
          show spD K We n (Φ i) [V.ref p] w1.H Q EX
          have a2 : After K E w1 (if 0 + 1 = n then Φ i [.ref k] w1.M else .bad) (fun sl w' => ∀ v, RepX K w w' v sl → Q v w'.H) := (a'.later s1).bind w1 (Step.refl s1.ok) rfl
          split at a2
          · rename_i hn
            refine ⟨hn, [.ref k], w1, rfl, s1.ok, .one (.ref ea), ?_⟩
            rw [hE]
            exact a2.imp fun sl w3 s3 q v rv => q v (rv.back s1)
          · exact a2.elim
        · exact a'.elim
      · exact a'.elim
    · exact a'.elim
/-! ### == and != with [] -/
def rEqL : R2 := fun x y H Q => ∃ l m xs, x = .ref l ∧ y = .ref m ∧ H l = some (.lst xs) ∧ H m = some (.lst []) ∧ Q (.bl xs.isEmpty) H
def rNeL : R2 := fun x y H Q => ∃ l m xs, x = .ref l ∧ y = .ref m ∧ H l = some (.lst xs) ∧ H m = some (.lst []) ∧ Q (.bl (!xs.isEmpty)) H
open SeqAt in
theorem op_neL (hu : X.A.units + 200 < cLine) : OpR X (compareOp .NotEq) rNeL := by
  intro pins s σ H x y v u Q I rx ry h
  obtain ⟨l, m, xs, rfl, rfl, hl, hm, q⟩ := h
  obtain rfl : v = Value.ref l := rx
  obtain rfl : u = Value.ref m := ry
  obtain ⟨its, rv, pl, _⟩ := I.list (xs := xs) (.inl (.inl hl))
  obtain ⟨its2, rv2, pm, _⟩ := I.list (xs := []) (.inl (.inl hm))
  cases rv2
  have hu1 : X.A.units < cLine := by omega
  cases rv with
  | nil =>
    have := RcNeAt.lists (A := X.A) (s := s) (e := fun _ => true) pl.isList pm.isList rfl hu1 (fun j h1 _ => absurd h1 (by simp))
    exact this X.prog X.w X.xe _ ⟨.bl false, H, I, rfl, q⟩
  | cons h1 t1 =>
    have := RcNeAt.lists_lengths (A := X.A) (s := s) pl.isList pm.isList (by simp) hu1
    exact this X.prog X.w X.xe _ ⟨.bl true, H, I, rfl, q⟩
open SeqAt in
theorem op_eqL (hu : X.A.units + 200 < cLine) : OpR X (compareOp .Eq) rEqL := by
  intro pins s σ H x y v u Q I rx ry h
  obtain ⟨l, m, xs, rfl, rfl, hl, hm, q⟩ := h
  obtain rfl : v = Value.ref l := rx
  obtain rfl : u = Value.ref m := ry
  obtain ⟨its, rv, pl, _⟩ := I.list (xs := xs) (.inl (.inl hl))
  obtain ⟨its2, rv2, pm, _⟩ := I.list (xs := []) (.inl (.inl hm))
  cases rv2
  have hu1 : X.A.units < cLine := by omega
  cases rv with
  | nil =>
    have := RcAt.lists (A := X.A) (s := s) (e := fun _ => true) pl.isList pm.isList rfl hu1 (fun j h1 _ => absurd h1 (by simp))
    exact this X.prog X.w X.xe _ ⟨.bl true, H, I, rfl, q⟩
  | cons h1 t1 =>
    have := RcAt.lists_lengths (A := X.A) (s := s) pl.isList pm.isList (by simp) hu1
    exact this X.prog X.w X.xe _ ⟨.bl false, H, I, rfl, q⟩
def eqLD (M : Store) (x y : D) : Option Slot := match lstOf M x, lstOf M y with
  | some xs, some [] => some (.val (.bl xs.isEmpty))
  | _, _ => none
def neLD (M : Store) (x y : D) : Option Slot := match lstOf M x, lstOf M y with
  | some xs, some [] => some (.val (.bl (!xs.isEmpty)))
  | _, _ => none
theorem isEmpty_at {A : List Addr} {G : Hp} {vs : List V} {ds : List D} (r : RepL K A G vs ds) : vs.isEmpty = ds.isEmpty := by cases r <;> rfl
theorem p_eqL : Prim2 K rEqL eqLD := by
  intro w vx vy x y s Q ok rx ry h k
  unfold eqLD at h
  split at h
  · rename_i xs e1 e2
    cases h
    obtain ⟨p, vs, rfl, hs, rl⟩ := lst_at ok rx e1
    obtain ⟨p2, vs2, rfl, hs2, rl2⟩ := lst_at ok ry e2
    cases rl2
    refine ⟨p, p2, vs, rfl, rfl, hs, hs2, ?_⟩
    rw [isEmpty_at rl]
    exact ans ok k fun _ _ => .bl _
  · cases h
theorem p_neL : Prim2 K rNeL neLD := by
  intro w vx vy x y s Q ok rx ry h k
  unfold neLD at h
  split at h
  · rename_i xs e1 e2
    cases h
    obtain ⟨p, vs, rfl, hs, rl⟩ := lst_at ok rx e1
    obtain ⟨p2, vs2, rfl, hs2, rl2⟩ := lst_at ok ry e2
    cases rl2
    refine ⟨p, p2, vs, rfl, rfl, hs, hs2, ?_⟩
    rw [isEmpty_at rl]
    exact ans ok k fun _ _ => .bl _
  · cases h
end
/-- how often a while may turn -/
@[irreducible] def Lw : Nat := 1000000000000
/-! ### sorted of ints -/
def insI (x : Int) : List Int → List Int
  | [] => [x]
  | y :: ys => if x ≤ y then x :: y :: ys else y :: insI x ys
def sortI : List Int → List Int
  | [] => []
  | x :: xs => insI x (sortI xs)
theorem insI_perm (x : Int) : ∀ ys : List Int, (insI x ys).Perm (x :: ys)
  | [] => .refl _
  | y :: ys => by
    unfold insI
    split
    · exact .refl _
    · exact ((insI_perm x ys).cons y).trans (.swap x y ys)
theorem sortI_perm : ∀ xs : List Int, (sortI xs).Perm xs
  | [] => .refl _
  | x :: xs => (insI_perm x _).trans ((sortI_perm xs).cons x)
theorem insI_sorted (x : Int) : ∀ {ys : List Int}, ys.Pairwise (· ≤ ·) → (insI x ys).Pairwise (· ≤ ·)
  | [], _ => by unfold insI; exact List.pairwise_singleton _ _
  | y :: ys, h => by
    unfold insI
    rw [List.pairwise_cons] at h
    split
    · rename_i hx
      refine List.pairwise_cons.mpr ⟨fun z hz => ?_, List.pairwise_cons.mpr h⟩
      rcases List.mem_cons.mp hz with rfl | hz
      · exact hx
      · have := h.1 z hz; omega
    · rename_i hx
      refine List.pairwise_cons.mpr ⟨fun z hz => ?_, insI_sorted x h.2⟩
      rcases List.mem_cons.mp ((insI_perm x ys).mem_iff.mp hz) with rfl | hz
      · omega
      · exact h.1 z hz
theorem sortI_sorted : ∀ xs : List Int, (sortI xs).Pairwise (· ≤ ·)
  | [] => .nil
  | x :: xs => insI_sorted x (sortI_sorted xs)
theorem sorted_unique : ∀ {xs ys : List Int}, xs.Perm ys → xs.Pairwise (· ≤ ·) → ys.Pairwise (· ≤ ·) → xs = ys
  | [], ys, p, _, _ => (List.nil_perm.mp p).symm
  | x :: xs, [], p, _, _ => by have := p.length_eq; simp at this
  | x :: xs, y :: ys, p, hx, hy => by
    rw [List.pairwise_cons] at hx hy
    have e : x = y := by
      have h1 : x ∈ y :: ys := p.mem_iff.mp List.mem_cons_self
      have h2 : y ∈ x :: xs := p.mem_iff.mpr List.mem_cons_self
      rcases List.mem_cons.mp h1 with h1 | h1
      · exact h1
      · rcases List.mem_cons.mp h2 with h2 | h2
        · exact h2.symm
        · have := hx.1 y h2
          have := hy.1 x h1
          omega
    subst e
    rw [sorted_unique (List.Perm.cons_inv p) hx.2 hy.2]
section
variable {K : PySem.W.Frag}
def sortD (M : Store) (ds : List D) : Option Slot := match ds with
  | [x] => match seqOf M x with
    | some es => match intsOf es with
      | some ns => if ns.length < 64 then some (.own ((sortI ns).map .int)) else none
      | none => none
    | none => none
  | _ => none
theorem intsOf_eq : ∀ {ds : List D} {ns : List Int}, intsOf ds = some ns → ds = ns.map .int
  | [], _, h => by cases h; rfl
  | d :: ds, ns, h => by
    cases d with
    | int i =>
      have h' : (intsOf ds).map (i :: ·) = some ns := h
      cases hq : intsOf ds with
      | none => rw [hq] at h'; cases h'
      | some ms =>
        rw [hq] at h'
        cases h'
        rw [List.map_cons, intsOf_eq hq]
    | _ => cases h
theorem vals_int {A : List Addr} {G : Hp} : ∀ {vs : List V} {ns : List Int}, RepL K A G vs (ns.map D.int) → vs = ns.map V.int
  | [], [], _ => rfl
  | v :: vs, n :: ns, .cons r t => by
    cases r
    rw [List.map_cons, vals_int t]
theorem p_sort : PrimN K (rSorted K) sortD := by
  intro w vs ds s Q ok rl h k
  unfold sortD at h
  split at h
  · rename_i x
    split at h
    · rename_i es e1
      split at h
      · rename_i ns e2
        split at h
        · rename_i hz
          cases h
          obtain ⟨v, rfl, rv⟩ := rl.one
          obtain ⟨p, us, rfl, hs, r⟩ := seq_at ok rv e1
          rw [intsOf_eq e2] at r
          have := vals_int r
          subst this
          refine ⟨p, ns, rfl, hs, hz, fun ns' q hp hsort hq => ?_⟩
          have e3 : ns' = sortI ns := sorted_unique (hp.trans (sortI_perm ns).symm) hsort (sortI_sorted ns)
          subst e3
          exact k _ _ (ok.fresh0 hq _) rfl (own_new (Step.refl ok) hq (repL_ints _))
        · cases h
      · cases h
    · cases h
  · cases h
end
/-! ### for simp -/
section
variable (ρ : EnvD) (M : Store)
@[simp] theorem sParO_eq (i j : Nat) (f : FD) (g : FE) : sParO i j f g ρ M = (f ρ M).out fun x M => (g ρ M).out fun y M => match y with
  | .val d => .next ((ρ.set i (.val x)).set j (.val d)) M
  | .own ds => .next ((ρ.set i (.val x)).set j (.own ds)) M
  | .un => .bad := rfl
@[simp] theorem dFld_eq (f : Str) (fo : FD) : dFld f fo ρ M = (fo ρ M).bind fun x M => match x with
  | .ref k => match M[k]? with
    | some (.ins _ fs) => R.of (fs.lookup f) M
    | _ => .bad
  | _ => .bad := rfl
@[simp] theorem sFldS_eq (c f : Str) (fv fo : FD) : sFldS c f fv fo ρ M = (fv ρ M).out fun y M => (fo ρ M).out fun x M => match x with
  | .ref k => match M[k]? with
    | some (.ins c' fs) => if c' = c ∧ fs.length < 1000 then .next ρ (M.set k (.ins c' (putFd f y fs))) else .bad
    | _ => .bad
  | _ => .bad := rfl
@[simp] theorem dMethC_eq (n : Nat) (m : Str) (tab : List (Str × Nat)) (Φ : Nat → Fn) (fo : FD) (fs : FL) : dMethC n m tab Φ fo fs ρ M = (fo ρ M).bind fun x M => match x with
  | .ref k => match M[k]? with
    | some (.ins c fds) => match fds.lookup m, tab.lookup c with
      | none, some i => (fs ρ M).bind fun ds M => if ds.length + 1 = n then Φ i (.ref k :: ds) M else .bad
      | _, _ => .bad
    | _ => .bad
  | _ => .bad := rfl
@[simp] theorem dMake_eq (c : Str) (n : Nat) (m : Fn) (fs : FL) : dMake c n m fs ρ M = (fs ρ M).bind fun ds M => if ds.length + 1 = n then (m (.ref M.length :: ds) (M ++ [.ins c []])).bind fun s M' => match s with
  | .val .non => .ok (.val (.ref M.length)) M'
  | _ => .bad else .bad := rfl
@[simp] theorem sAppR_eq (fo f : FD) : sAppR fo f ρ M = (fo ρ M).out fun x M => match x with
  | .ref k => match M[k]? with
    | some (.lst _) => (f ρ M).out fun y M => match M[k]? with
      | some (.lst ds) => if ds.length < sizeLine then .next ρ (M.set k (.lst (ds ++ [y]))) else .bad
      | _ => .bad
    | _ => .bad
  | _ => .bad := rfl
@[simp] theorem dPopR_eq (fo : FD) : dPopR fo ρ M = (fo ρ M).bind fun x M => match x with
  | .ref k => match M[k]? with
    | some (.lst ds) => match ds.getLast? with
      | some y => .ok y (M.set k (.lst ds.dropLast))
      | none => .bad
    | _ => .bad
  | _ => .bad := rfl
@[simp] theorem dClearR_eq (fo : FD) : dClearR fo ρ M = (fo ρ M).bind fun x M => match x with
  | .ref k => match M[k]? with
    | some (.lst _) => .ok .non (M.set k (.lst []))
    | _ => .bad
  | _ => .bad := rfl
@[simp] theorem dNewD_eq (g : Store → D → Option MO) (fo : FD) : dNewD g fo ρ M = (fo ρ M).bind fun x M => match g M x with
  | some o => .ok (.ref M.length) (M ++ [o])
  | none => .bad := rfl
@[simp] theorem dDictZ_eq (fs : FL) : dDictZ fs ρ M = (fs ρ M).bind fun ds M => match ds with
  | [.tup xs, .tup ys] => match keysD xs with
    | some ks => .ok (.ref M.length) (M ++ [.dK (mergeP [] (ks.zip ys))])
    | none => .bad
  | _ => .bad := rfl
end
end TP
/-! TPr: dict(zip(t, reversed(l))). -/
namespace TP
open PySem
section
variable {prog : Program} {w : World} {A : Around} {E : Value → Shared → Prop} {s : Shared}
theorem nextOf_rev_item {it l : Addr} {i : Nat} {items : Array Value} {x : Value} {Q : Value → Shared → Prop} (hit : s.heap.IsRevIter it l (i : Int)) (hl : s.heap.IsList l items) (hx : items[i]? = some x)
    (hQ : ∀ h', h'.IsRevIter it l ((i : Int) - 1) → Heap.SameBut it s.heap h' → Q x { s with heap := h' }) : wpAny (model prog w) A (Builtin.SmallTypes.nextOf (.ref it)) Q E s := by
  obtain ⟨o, ho, hc, hd⟩ := id hit
  obtain ⟨ol, hol, _, nl, hdl⟩ := hl
  unfold Builtin.SmallTypes.nextOf
  refine wpAny_bind (wpAny_callSpecial?_slot (name := Str.ofString "__next__") hit.typeIs F.slot_lri_next
    (wpAny_call_entry F.slot_lri_next hit.typeIs F.entry_lri_next ?_ (F.args_lri_next_1 _)))
  unfold Builtin.«list_reverseiterator.__next__»
  refine wpAny_bind (wpAny_of_eq (a := (Value.ref it, [])) rfl ?_)
  try dsimp only
  refine wpAny_bind (wpAny_field ho hd (x := rawInt (i : Int)) rfl ?_)
  show wpAny _ _ (if (i : Int) < 0 then _ else _) _ _ s
  rw [if_neg (by omega)]
  show wpAny _ _ (field (.ref it) 0 >>= _) _ _ s
  refine wpAny_bind (wpAny_field ho hd (x := .ref l) rfl ?_)
  show wpAny _ _ (seqItems? (.ref l) >>= _) _ _ s
  refine wpAny_bind (wpAny_seqItems hol hdl ?_)
  simp only [Int.toNat_natCast, hx]
  refine wpAny_bind (wpAny_setField ho hd (by simp) ?_)
  first
  | refine wpAny_pure ⟨x, rfl, wpAny_pure (hQ _ ?_ (Heap.SameBut.update ..))⟩
  | refine wpAny_bind (wpAny_pure (wpAny_pure ⟨x, rfl, wpAny_pure (hQ _ ?_ (Heap.SameBut.update ..))⟩))
  exact ⟨_, Heap.get?_update_self _ ho (Obj.isFreed_of_fields (Obj.data_mapFields hd _)), (Obj.cls_mapFields ..).trans hc, by
    rw [Obj.data_mapFields hd]; simp⟩
theorem nextOf_rev_end {it l : Addr} {Q : Value → Shared → Prop} (hh : A.handled = none) (hit : s.heap.IsRevIter it l (-1))
    (hE : ∀ h' e, Heap.ExtBut it s.heap h' → (∃ o, h'.get? e = some o ∧ o.cls = .type "StopIteration") → E (.ref e) { s with heap := h' }) : wpAny (model prog w) A (Builtin.SmallTypes.nextOf (.ref it)) Q E s := by
  obtain ⟨o, ho, hc, hd⟩ := id hit
  unfold Builtin.SmallTypes.nextOf
  refine wpAny_bind (wpAny_callSpecial?_slot (name := Str.ofString "__next__") hit.typeIs F.slot_lri_next
    (wpAny_call_entry F.slot_lri_next hit.typeIs F.entry_lri_next ?_ (F.args_lri_next_1 _)))
  unfold Builtin.«list_reverseiterator.__next__»
  refine wpAny_bind (wpAny_of_eq (a := (Value.ref it, [])) rfl ?_)
  try dsimp only
  refine wpAny_bind (wpAny_field ho hd (x := rawInt (-1)) rfl ?_)
  show wpAny _ _ (if (-1 : Int) < 0 then _ else _) _ _ s
  rw [if_pos (by decide)]
  refine wpAny_bind (wpAny_rule ?_)
  first
  | show wpAny _ _ (newExc (.type "StopIteration") [] >>= _) _ _ _
  | (refine wpAny_bind ?_; show wpAny _ _ (newExc (.type "StopIteration") [] >>= _) _ _ _)
  refine wpAny_bind ?_
  simp only [newExc, newTuple]
  refine wpAny_bind (wpAny_newObj_type ?_ (by size_fits))
  refine wpAny_bind (m := firstArgMember _ _) (wpAny_of_eq (a := Value.none) (by first | rfl | (simp only [firstArgMember]; rfl)) ?_)
  refine wpAny_newObj_type ?_ (by size_fits)
  simp only [raiseNew]
  refine wpAny_bind (wpAny_handled ?_)
  first | rw [show A.in1.handled = none from hh] | rw [hh]
  refine wpAny_bind (wpAny_pure (wpAny_throw ?_))
  exact hE _ _ (((Heap.ExtBut.refl _ _).push _).push _) ⟨_, Heap.get?_push_size _ rfl, rfl⟩
end
theorem draws_rev {prog : Program} {w : World} {A : Around} (hh : A.handled = none) (it l : Addr) (hne : l ≠ it) (items : Array Value) :
    Draws prog w A it [it, l] items.size (fun i v => i < items.size ∧ items[items.size - 1 - i]? = some v) (fun i h => i ≤ items.size ∧ h.IsRevIter it l ((items.size : Int) - 1 - (i : Int)) ∧ h.IsList l items) where
  live := fun _ _ st => let ⟨o, ho, _⟩ := st.2.1; ⟨o, ho⟩
  frame := fun _ _ _ x hk => ⟨x.1, x.2.1.at fun o e => hk it (by simp) o e, x.2.2.at fun o e => hk l (by simp) o e⟩
  item := fun i s Q E hi x hQ => by
    have e : (items.size : Int) - 1 - (i : Int) = ((items.size - 1 - i : Nat) : Int) := by omega
    have hit := x.2.1
    rw [e] at hit
    have hx : items[items.size - 1 - i]? = some (items[items.size - 1 - i]'(by omega)) := Array.getElem?_eq_getElem (by omega)
    refine nextOf_rev_item hit x.2.2 hx fun h' hit' hs' => ?_
    have e2 : ((items.size - 1 - i : Nat) : Int) - 1 = (items.size : Int) - 1 - ((i + 1 : Nat) : Int) := by omega
    rw [e2] at hit'
    exact hQ _ h' s.toks ⟨hi, hx⟩ ⟨hi, hit', x.2.2.at fun o eo => (hs'.2 l hne).trans eo⟩ hs'
  done := fun s Q E x hE => by
    have e : (items.size : Int) - 1 - (items.size : Int) = -1 := by omega
    have hit := x.2.1
    rw [e] at hit
    exact nextOf_rev_end hh hit hE
/-! ### zip(t, it): the second is an iterator already -/
structure BeginsI (v : Value) (H : Heap → Prop) : Prop where
  iter : ∀ (prog : Program) (w : World) (A : Around) (E : Value → Shared → Prop) (s : Shared) (Q : Value → Shared → Prop), H s.heap → Q v s → wpAny (model prog w) A (pyIter v) Q E s
  keeps : ∀ h h', H h → (∀ b o', h.get? b = some o' → h'.get? b = some o') → H h'
theorem begins_rev (it l : Addr) (i : Int) : BeginsI (.ref it) fun h => h.IsRevIter it l i where
  iter := fun prog w A E s Q hl h => wpAny_pyIter_revIter hl h
  keeps := fun h h' x hk => x.at fun o e => hk it o e
abbrev gzTI (h : Heap) (o1 : Obj) (v2 : Value) : Heap := (h.push o1).push { cls := .type "tuple", data := .seq #[.ref h.objs.size, v2] }
abbrev gzOI (h : Heap) (o1 : Obj) (v2 : Value) : Heap := (gzTI h o1 v2).push { cls := .type "tuple", data := .seq #[.none, .none] }
abbrev gzZI (h : Heap) (o1 : Obj) (v2 : Value) : Heap := (gzOI h o1 v2).push { cls := .type "zip", data := .fields #[.none, .bool false, .bool false, .ref (h.push o1).objs.size, .ref (gzTI h o1 v2).objs.size] }
theorem meets_zip_newI {v1 v2 : Value} {o1 : Obj} {H1 H2 : Heap → Prop} (B1 : Begins v1 o1 H1) (B2 : BeginsI v2 H2) :
    Meets (Builtin.«zip.__new__» ⟨[.type "zip", v1, v2], []⟩) (fun _ R s => (H1 s.heap ∧ H2 s.heap) ∧
      R (.ok (.ret (.ref (gzOI s.heap o1 v2).objs.size))) { s with heap := gzZI s.heap o1 v2 }) :=
  .of_wp fun prog w A R s h => by
    obtain ⟨hp, g, d, tk, os⟩ := s; obtain ⟨⟨h1, h2⟩, h⟩ := h
    have hsub := sub_zip
    have q1 : ∀ {A' : Around} {E : Value → Shared → Prop} {Q : Value → Shared → Prop}, Q (.ref hp.objs.size) ⟨(hp.push o1), g, d, tk, os⟩ → wpAny (model prog w) A' (pyIter v1) Q E ⟨hp, g, d, tk, os⟩ :=
      fun q => B1.iter prog w _ _ ⟨hp, g, d, tk, os⟩ _ (B1.keeps _ _ h1 fun b o' e => e) q
    have q2 : ∀ {A' : Around} {E : Value → Shared → Prop} {Q : Value → Shared → Prop}, Q v2 ⟨(hp.push o1), g, d, tk, os⟩ → wpAny (model prog w) A' (pyIter v2) Q E ⟨(hp.push o1), g, d, tk, os⟩ :=
      fun q => B2.iter prog w _ _ ⟨(hp.push o1), g, d, tk, os⟩ _ (B2.keeps _ _ h2 fun b o' e => (Heap.get?_push_of_some _ e)) q
    wp_walk using q1, q2
    exact ⟨_, rfl, h⟩
section
variable {prog : Program} {w : World} {A : Around} {E : Value → Shared → Prop} {s : Shared}
theorem zip_beginsI {v1 v2 : Value} {o1 : Obj} {H1 H2 : Heap → Prop} {Q : Value → Shared → Prop} (B1 : Begins v1 o1 H1) (B2 : BeginsI v2 H2) (h1 : H1 s.heap) (h2 : H2 s.heap)
    (h : ∀ h', IsZip h' (s.heap.objs.size + 3) (s.heap.objs.size + 1) (s.heap.objs.size + 2) .none → IsTupOf2 h' (s.heap.objs.size + 1) (.ref s.heap.objs.size) v2 →
      IsTupOf2 h' (s.heap.objs.size + 2) .none .none → h'.get? s.heap.objs.size = some o1 → h'.objs.size = s.heap.objs.size + 4 →
      (∀ c o, s.heap.get? c = some o → h'.get? c = some o) → Q (.ref (s.heap.objs.size + 3)) { s with heap := h' }) :
    wpAny (model prog w) A (call (.type "zip") [v1, v2]) Q E s := by
  refine callType_new F.called_zip (by decide) (F.typeCall_zip_2 _ _) (F.newCall_zip_2 _ _) (fun obj => F.args_object_init_3 obj _ _) F.entry_zip_new
    (meets_zip_newI B1 B2) ⟨⟨h1, h2⟩, ?_⟩
  have z1 : (s.heap.push o1).objs.size = s.heap.objs.size + 1 := by rw [Heap.size_push]
  have zT : (gzTI s.heap o1 v2).objs.size = s.heap.objs.size + 2 := by rw [Heap.size_push, z1]
  have zO : (gzOI s.heap o1 v2).objs.size = s.heap.objs.size + 3 := by rw [Heap.size_push, zT]
  have zZ : (gzZI s.heap o1 v2).objs.size = s.heap.objs.size + 4 := by rw [Heap.size_push, zO]
  have gZ : (gzZI s.heap o1 v2).get? (gzOI s.heap o1 v2).objs.size = some { cls := .type "zip", data := .fields #[.none, .bool false, .bool false, .ref (s.heap.push o1).objs.size, .ref (gzTI s.heap o1 v2).objs.size] } := Heap.get?_push_size _ rfl
  have gO : (gzZI s.heap o1 v2).get? (gzTI s.heap o1 v2).objs.size = some { cls := .type "tuple", data := .seq #[.none, .none] } := Heap.get?_push_of_some _ (Heap.get?_push_size _ rfl)
  have gT : (gzZI s.heap o1 v2).get? (s.heap.push o1).objs.size = some { cls := .type "tuple", data := .seq #[.ref s.heap.objs.size, v2] } := Heap.get?_push_of_some _ (Heap.get?_push_of_some _ (Heap.get?_push_size _ rfl))
  have g1 : (gzZI s.heap o1 v2).get? s.heap.objs.size = some o1 := Heap.get?_push_of_some _ (Heap.get?_push_of_some _ (Heap.get?_push_of_some _ (Heap.get?_push_size _ B1.free)))
  rw [zO, zT, z1] at gZ
  rw [zT] at gO
  rw [z1] at gT
  show _ ∧ _
  rw [zO]
  exact ⟨⟨_, gZ, rfl⟩, h _ gZ gT gO g1 zZ fun c o e => Heap.get?_push_of_some _ (Heap.get?_push_of_some _ (Heap.get?_push_of_some _ (Heap.get?_push_of_some _ e)))⟩
end
open L2
section
variable {X : Cx}
/-! ### dict(zip(t, reversed(l))) -/
theorem no2 {x y z : Nat} (h1 : x ≠ y) (h2 : x ≠ z) : x ∉ [y, z] := fun h => by
  rcases List.mem_cons.mp h with e | h
  · exact h1 e
  · exact h2 (List.mem_singleton.mp h)
theorem sepR {N a b : Nat} (la : a < N) (lb : b < N) : ZipSep2 (N + 1 + 3) (N + 1 + 1) (N + 1 + 2) (N + 1) N [N + 1, a] [N, b] where
  TIz := show (N + 1 + 1 : Nat) ≠ N + 1 + 3 by omega
  TOz := show (N + 1 + 2 : Nat) ≠ N + 1 + 3 by omega
  TITO := show (N + 1 + 1 : Nat) ≠ N + 1 + 2 by omega
  TIi1 := show (N + 1 + 1 : Nat) ≠ N + 1 by omega
  mem1 := List.mem_cons_self
  zf1 := no2 (by omega) (by omega)
  Tf1 := no2 (by omega) (by omega)
  TIi2 := show (N + 1 + 1 : Nat) ≠ N by omega
  mem2 := List.mem_cons_self
  zf2 := no2 (by omega) (by omega)
  Tf2 := no2 (by omega) (by omega)
  sep1_2 := no2 (by omega) (by omega)
  sep2_1 := no2 (by omega) (by omega)
def tDictZipR (K : PySem.W.Frag) (t1 t2 : TE) : TE := fun σ H Q => t1 σ H fun x H1 => t2 σ H1 fun y H2 => ∃ (a b : Addr) (ks : List Key) (ys : List V), x = .ref a ∧ y = .ref b ∧ SqT K H2 a (ks.map kV) ∧ SqL K H2 b ys ∧ ∀ p, H2 p = none → Q (.ref p) (upd H2 p (.dK (mergeK [] (ks.zip ys.reverse))))
open PySem.Spec PyProof.Rows in
theorem pe_dictzipR {e1 e2 : Expr} {t1 t2 : TE} {p1 p2 p3 pos1 pos2 pos3 : Pos} (h1 : PE X e1 t1) (h2 : PE X e2 t2) (hc : X.calm = true) (hgd : Gl X "dict") (hmd : X.mg "dict" = none) (hgz : Gl X "zip") (hmz : X.mg "zip" = none) (hgr : Gl X "reversed") (hmr : X.mg "reversed" = none)
    (he1 : starEach [e1, .Call (.Name "reversed" p3) [e2] [] pos3] X.env = (false, eval e1 X.env) :: starEach [.Call (.Name "reversed" p3) [e2] [] pos3] X.env := by rfl)
    (heR : starEach [.Call (.Name "reversed" p3) [e2] [] pos3] X.env = (false, eval (.Call (.Name "reversed" p3) [e2] [] pos3) X.env) :: starEach [] X.env := by rfl) (hpR : (backTo pos2 (starEach [.Call (.Name "reversed" p3) [e2] [] pos3] X.env)).any (·.1) = false := by rfl)
    (he2 : starEach [.Call (.Name "zip" p2) [e1, .Call (.Name "reversed" p3) [e2] [] pos3] [] pos2] X.env = (false, eval (.Call (.Name "zip" p2) [e1, .Call (.Name "reversed" p3) [e2] [] pos3] [] pos2) X.env) :: starEach [] X.env := by rfl)
    (he3 : starEach [e2] X.env = (false, eval e2 X.env) :: starEach [] X.env := by rfl) :
    PE X (.Call (.Name "dict" p1) [.Call (.Name "zip" p2) [e1, .Call (.Name "reversed" p3) [e2] [] pos3] [] pos2] [] pos1) (tDictZipR X.K t1 t2) := by
  have bd : bootBuiltins "dict" = some (.type "dict") := by decide +kernel
  have bz : bootBuiltins "zip" = some (.type "zip") := by decide +kernel
  constructor
  intro pins s σ H Q I h
  refine wpAny_Call_Name_kw (ld_blt I hgd hmd bd (callWith_type1 ?_ he2 (by rfl)))
  rw [he2]
  show wpAny _ _ (spliced ((false, eval (.Call (.Name "zip" p2) [e1, .Call (.Name "reversed" p3) [e2] [] pos3] [] pos2) X.env) :: backTo pos1 (starEach [] X.env))) _ _ s
  refine Calls.spliced_cons (wpAny_Call_Name_kw (ld_blt I hgz hmz bz (callWith_type1 ?_ he1 hpR)))
  rw [he1]
  show wpAny _ _ (spliced ((false, eval e1 X.env) :: backTo pos2 (starEach [.Call (.Name "reversed" p3) [e2] [] pos3] X.env))) _ _ s
  refine Calls.spliced_cons (thn (h1.run pins s σ H _ I h) fun u1 s1 ⟨x1, H1, I1, r1, q1⟩ => ?_)
  rw [heR]
  show wpAny _ _ (spliced ((false, eval (.Call (.Name "reversed" p3) [e2] [] pos3) X.env) :: backTo pos2 (starEach [] X.env))) _ _ s1
  refine Calls.spliced_cons (Call_ (ld_blt I1 hgr hmr PyProof.Rows.boot_reversed (PyProof.Rows.callWith_type1 (args_cons (thn (h2.run pins s1 σ H1 _ I1 q1) fun u2 s2 ⟨x2, H2, I2, r2, q2⟩ => args_nil ?_) he3) he3 rfl)))
  obtain ⟨a, b, ks, ys, rfl, rfl, ta, tb, q⟩ := q2
  obtain rfl : u1 = Value.ref a := r1
  obtain rfl : u2 = Value.ref b := r2
  obtain ⟨its2, rv2, pl2, l2⟩ := I2.list tb
  refine call_reversed_list pl2.isList ?_
  refine Calls.spliced_nil ?_
  obtain ⟨its1, rv1, h1', l1⟩ := I2.tuple ta
  generalize hN : s2.heap.objs.size = N
  have la : a < N := by rw [← hN]; exact Heap.lt_size h1'.choose_spec.1
  have lb : b < N := by rw [← hN]; exact Heap.lt_size pl2.choose_spec.choose_spec.1
  have hsz3 : (s2.heap.push (revObj b ((its2.toArray.size : Int) - 1))).objs.size = N + 1 := by rw [Heap.size_push, hN]
  have ext3 : ∀ c o, s2.heap.get? c = some o → (s2.heap.push (revObj b ((its2.toArray.size : Int) - 1))).get? c = some o := fun c o e => Heap.get?_push_of_some _ e
  have hrev : (s2.heap.push (revObj b ((its2.toArray.size : Int) - 1))).IsRevIter N b ((its2.toArray.size : Int) - 1) := by rw [← hN]; exact ⟨_, Heap.get?_push_size _ rfl, rfl, rfl⟩
  refine zip_beginsI (begins_tuple a its1.toArray) (begins_rev N b ((its2.toArray.size : Int) - 1)) (h1'.keeps ext3) hrev ?_
  intro h' hz hTI hTO g1 hsz hk
  simp only [hsz3] at hz hTI hTO g1 hsz ⊢
  refine Calls.spliced_nil ?_
  have hh : X.A.handled = none := I2.ok.hd hc
  have S := sepR la lb
  have P := zipArg (prog := X.prog) (w := X.w) S (fun A hA => Draws.tuple hA (N + 1) a (Nat.ne_of_lt (Nat.lt_succ_of_lt la)) its1.toArray) (fun A hA => draws_rev hA N b (Nat.ne_of_lt lb) its2.toArray)
    (fun i h st c hc => by
      obtain ⟨⟨o, ho, _⟩, ⟨o2, ho2, _⟩⟩ := st
      simp only [List.mem_cons, List.not_mem_nil, or_false] at hc
      rcases hc with rfl | rfl
      · exact ⟨o, ho⟩
      · exact ⟨o2, ho2⟩)
    (fun i h st c hc => by
      obtain ⟨_, ⟨o, ho, _⟩, ⟨o2, ho2, _⟩⟩ := st
      simp only [List.mem_cons, List.not_mem_nil, or_false] at hc
      rcases hc with rfl | rfl
      · exact ⟨o, ho⟩
      · exact ⟨o2, ho2⟩)
  have hkk : ∀ c u, s2.heap.get? c = some u → h'.get? c = some u := fun c u e => hk c u (ext3 c u e)
  have hrev' : h'.IsRevIter N b ((its2.toArray.size : Int) - 1 - ((0 : Nat) : Int)) := by
    rw [Int.natCast_zero, Int.sub_zero]
    exact hrev.at fun o e => hk N o e
  have hls' : h'.IsList b its2.toArray := pl2.isList.at fun o e => hkk b o e
  have rel : KV (ks.zip ys.reverse) (ks.zip its2.reverse) := kv_zip ks rv2.reverse
  have lk : its1.length = ks.length := by rw [← rv1.length, List.length_map]
  refine call_dict_pairs (knd := mixKind X.prog X.w) (kvs := ks.zip its2.reverse) P hh ⟨hz, hTI, ⟨_, _, hTO⟩, ⟨⟨_, g1, rfl, rfl⟩, h1'.keeps hkk⟩, ⟨Nat.zero_le _, hrev', hls'⟩⟩ ⟨?_, ?_⟩ ?_ ?_
  · rw [List.length_zip, List.length_reverse, List.size_toArray, List.size_toArray, lk]
  · rintro i key v ⟨k1, k2, k3⟩
    rw [List.size_toArray] at k2
    rw [List.getElem?_toArray] at k1 k3
    rw [List.size_toArray] at k3
    have hi : i < its1.length := (List.getElem?_eq_some_iff.mp k1).1
    have hik : i < ks.length := by omega
    obtain ⟨u, hu, ru⟩ := rv1.get (i := i) (x := kV ks[i]) (by rw [List.getElem?_map, List.getElem?_eq_getElem hik]; rfl)
    rw [k1] at hu
    cases hu
    exact ⟨ks[i], by rw [List.getElem?_zip_eq_some]; exact ⟨List.getElem?_eq_getElem hik, by rw [List.getElem?_reverse k2]; exact k3⟩, kV_is ru⟩
  · rw [List.size_toArray, List.size_toArray]
    have := rv2.length
    omega
  · intro h'' tk hd hk2
    have hbig : sysModules < N := by rw [← hN]; exact I2.big
    have hb : N + 5 ≠ sysModules := Nat.ne_of_gt (Nat.lt_of_lt_of_le hbig (Nat.le_add_right N 5))
    have hm : ((N + 5 : Addr) == sysModules) = false := beq_eq_false_iff_ne.mpr hb
    rw [hsz] at hd ⊢
    rw [show N + 1 + 4 = N + 5 from rfl] at hd ⊢
    have hlen : (mergeK [] (ks.zip ys.reverse)).length ≤ sizeLine := by
      refine Nat.le_trans (length_mergeK (ks.zip ys.reverse) []) ?_
      rw [List.length_nil, Nat.zero_add, List.length_zip, List.length_reverse]
      have := rv2.length
      omega
    have keep : ∀ c u, s2.heap.get? c = some u → h''.get? c = some u := fun c u e => by
      have lc : c < N := by rw [← hN]; exact Heap.lt_size e
      refine hk2 c u (fun hm => ?_) (hkk c u e)
      simp only [List.mem_cons, List.not_mem_nil, or_false] at hm
      rcases hm with x | x | x | x
      · exact Nat.ne_of_lt (Nat.lt_of_lt_of_le lc (Nat.le_add_right N 4)) x
      · exact Nat.ne_of_lt (Nat.lt_of_lt_of_le lc (Nat.le_add_right N 3)) x
      · exact Nat.ne_of_lt (Nat.lt_of_lt_of_le lc (Nat.le_add_right N 1)) x
      · exact Nat.ne_of_lt lc x
    refine ⟨.ref (N + 5), upd H2 (N + 5) (.dK (mergeK [] (ks.zip ys.reverse))), ?_, rfl, q _ (I2.hok.fresh (by rw [hN]; exact Nat.le_add_right N 5))⟩
    exact I2.laid (t' := tk) keep (by rw [hN]; exact Nat.le_add_right N 5) (show ObjOk X.prog X.w _ _ _ (.dK (mergeK [] (ks.zip ys.reverse))) from ⟨hlen, hm, merged [] (ks.zip its2.reverse), KV.merge rel .nil, hd⟩)
end
section
variable {K : PySem.W.Frag} {E : Wish} {X : Cx} {e : Expr}
def dDictZR (f1 f2 : FD) : FD := fun ρ M => (f1 ρ M).bind fun x M => (f2 ρ M).bind fun y M => match x with
  | .tup xs => match keysD xs with
    | some ks => match lstOf M y with
      | some ys => .ok (.ref M.length) (M ++ [.dK (mergeP [] (ks.zip ys.reverse))])
      | none => .bad
    | none => .bad
  | _ => .bad
theorem x_dictZR {f1 f2 : FD} (h : PE X e (tDictZipR K (tF K E f1) (tR K E f2))) : PE X e (tF K E (dDictZR f1 f2)) := PE.wk h fun σ H Q ⟨ρ, w, e1, ok, sr, a⟩ =>
  ⟨ρ, w, e1, ok, sr, a.bind.imp fun x w1 s1 a1 v1 r1 => ⟨ρ, w1, rfl, s1.ok, sr.step s1, a1.bind.imp fun y w2 s2 a2 v2 r2 => by
    split at a2
    · rename_i xs
      split at a2
      · rename_i ks hk
        split at a2
        · rename_i ys hy
          have r1' := s2.rep r1
          cases r1' with
          | @tup p us _ hs rl =>
            have e := keys_at rl hk
            subst e
            obtain ⟨q, ws, rfl, hq, rl2⟩ := lst_at s2.ok r2 hy
            refine ⟨p, q, ks, ws, rfl, rfl, .inl (.inl (s2.ok.sub _ _ hs)), .inl (.inl hq), fun n hn => ?_⟩
            have rl3 := rl2.reverse
            obtain ⟨st, hA⟩ := new_obj (o := .dK (mergeK [] (ks.zip ws.reverse))) (m := .dK (mergeP [] (ks.zip ys.reverse))) s2.ok hn ⟨_, upd_same, merge_kv (zip_kv ks (fun i v hv => rl3.get' hv) rl3.length) .nil⟩
            have a3 : ∀ w', Step K w2 w' → w'.M = w2.M ++ [.dK (mergeP [] (ks.zip ys.reverse))] → ∀ v, Rep K w'.A w'.G v (.ref w2.M.length) → Q v w'.H := a2
            exact a3 _ st rfl _ (.ref hA)
        · exact a2.elim
      · exact a2.elim
    · exact a2.elim⟩⟩
end
end TP
/-! TPp: more rules: dict(zip(a, b)) of any two, displays with any keys, d.update(d'), steps of slices, three names at once. -/
namespace TP
open PySem L2
/-! ### dict(zip(a, b)), lists or tuples -/
structure ZSrc (h : Heap) (a : Addr) (its : List Value) (o1 : Obj) (H : Heap → Prop) (St : Addr → Nat → Heap → Prop) : Prop where
  beg : Begins (.ref a) o1 H
  now : H h
  lt : a < h.objs.size
  draws : ∀ (prog : Program) (w : World) (A : Around), A.handled = none → ∀ it, a ≠ it → Draws prog w A it [it, a] its.toArray.size (fun i v => its.toArray[i]? = some v) (St it)
  start : ∀ h' it, h'.get? it = some o1 → H h' → St it 0 h'
  live : ∀ it i h', St it i h' → ∀ c ∈ [it, a], ∃ o, h'.get? c = some o
section
variable {X : Cx}
open PySem.Spec PyProof.Rows in
theorem src_tup {h : Heap} {a : Addr} {its : List Value} (h1 : IsTup h a its.toArray) : ∃ o H St, ZSrc h a its o H St :=
  ⟨_, _, _, begins_tuple a its.toArray, h1, Heap.lt_size h1.choose_spec.1, fun prog w A hh it ne => Draws.tuple hh it a ne its.toArray, fun h' it e x => ⟨⟨_, e, rfl, rfl⟩, x⟩, fun it i h' st c hc => by
    obtain ⟨⟨o, ho, _⟩, ⟨o2, ho2, _⟩⟩ := st
    simp only [List.mem_cons, List.not_mem_nil, or_false] at hc
    rcases hc with rfl | rfl
    · exact ⟨o, ho⟩
    · exact ⟨o2, ho2⟩⟩
open PySem.Spec PyProof.Rows in
theorem src_list {h : Heap} {a : Addr} {its : List Value} (h1 : h.IsList a its.toArray) : ∃ o H St, ZSrc h a its o H St :=
  ⟨_, _, _, begins_list a its.toArray, h1, Heap.lt_size h1.choose_spec.1, fun prog w A hh it ne => Draws.list hh it a ne its.toArray, fun h' it e x => ⟨⟨_, e, rfl, rfl⟩, x⟩, fun it i h' st c hc => by
    obtain ⟨⟨o, ho, _⟩, ⟨o2, ho2, _⟩⟩ := st
    simp only [List.mem_cons, List.not_mem_nil, or_false] at hc
    rcases hc with rfl | rfl
    · exact ⟨o, ho⟩
    · exact ⟨o2, ho2⟩⟩
def SqA (K : PySem.W.Frag) (H : Hp) (a : Addr) (xs : List V) : Prop := SqT K H a xs ∨ SqL K H a xs
theorem inv_src {pins : List (Addr × Obj)} {σ : L2.St} {H : Hp} {s : Shared} (I : L2.Inv X pins σ H s) {a : Addr} {xs : List V} (h : SqA X.K H a xs) : ∃ its o1 HH St, Vals xs its ∧ ZSrc s.heap a its o1 HH St ∧ xs.length ≤ sizeLine := by
  rcases h with h | h
  · obtain ⟨its, rv, h1, l1⟩ := I.tuple h
    obtain ⟨o, HH, St, z⟩ := src_tup h1
    exact ⟨its, o, HH, St, rv, z, l1⟩
  · obtain ⟨its, rv, h1, l1⟩ := I.list h
    obtain ⟨o, HH, St, z⟩ := src_list h1.isList
    exact ⟨its, o, HH, St, rv, z, l1⟩
def tDictZip2 (K : PySem.W.Frag) (t : TA) : TE := fun σ H Q => t σ H fun vs H1 => ∃ (a b : Addr) (ks : List Key) (ys : List V), vs = [.ref a, .ref b] ∧ SqA K H1 a (ks.map kV) ∧ SqA K H1 b ys ∧ ∀ p, H1 p = none → Q (.ref p) (upd H1 p (.dK (mergeK [] (ks.zip ys))))
open PySem.Spec PyProof.Rows in
theorem pe_dictzip2 {e1 e2 : Expr} {t : TA} {p1 p2 pos1 pos2 : Pos} (ha : PA X [e1, e2] t) (hc : X.calm = true) (hgd : Gl X "dict") (hmd : X.mg "dict" = none) (hgz : Gl X "zip") (hmz : X.mg "zip" = none)
    (he1 : starEach [e1, e2] X.env = (false, eval e1 X.env) :: starEach [e2] X.env := by rfl) (hp1 : (backTo pos2 (starEach [e2] X.env)).any (·.1) = false := by rfl)
    (he2 : starEach [.Call (.Name "zip" p2) [e1, e2] [] pos2] X.env = (false, eval (.Call (.Name "zip" p2) [e1, e2] [] pos2) X.env) :: starEach [] X.env := by rfl) :
    PE X (.Call (.Name "dict" p1) [.Call (.Name "zip" p2) [e1, e2] [] pos2] [] pos1) (tDictZip2 X.K t) := by
  have bd : bootBuiltins "dict" = some (.type "dict") := by decide +kernel
  have bz : bootBuiltins "zip" = some (.type "zip") := by decide +kernel
  constructor
  intro pins s σ H Q I h
  refine wpAny_Call_Name_kw (ld_blt I hgd hmd bd (callWith_type1 ?_ he2 (by rfl)))
  rw [he2]
  show wpAny _ _ (spliced ((false, eval (.Call (.Name "zip" p2) [e1, e2] [] pos2) X.env) :: backTo pos1 (starEach [] X.env))) _ _ s
  refine Calls.spliced_cons (wpAny_Call_Name_kw (ld_blt I hgz hmz bz (callWith_type1 (thn (ha.run pos2 pins s σ H _ I h) ?_) he1 hp1)))
  rintro us s1 ⟨vs, H1, I1, r, a, b, ks, ys, rfl, ta, tb, q⟩
  obtain ⟨u1, u2, rfl, r1, r2⟩ := vals2 r
  obtain rfl : u1 = Value.ref a := r1
  obtain rfl : u2 = Value.ref b := r2
  obtain ⟨its1, o1, HH1, St1, rv1, z1, l1⟩ := inv_src I1 ta
  obtain ⟨its2, o2, HH2, St2, rv2, z2, l2⟩ := inv_src I1 tb
  generalize hN : s1.heap.objs.size = N
  refine zip_begins2 z1.beg z2.beg z1.now z2.now ?_
  intro h' hz hTI hTO g1 g2 hsz hk
  rw [hN] at hz hTI hTO g1 g2 hsz ⊢
  have la : a < N := by rw [← hN]; exact z1.lt
  have lb : b < N := by rw [← hN]; exact z2.lt
  refine Calls.spliced_nil ?_
  have hh : X.A.handled = none := I1.ok.hd hc
  have S := zip_sep2 (N := N) (fp1 := [a]) (fp2 := [b]) (fun c hc => by rw [List.mem_singleton] at hc; subst hc; exact la) (fun c hc => by rw [List.mem_singleton] at hc; subst hc; exact lb)
  have P := zipArg (prog := X.prog) (w := X.w) S (fun A hA => z1.draws X.prog X.w A hA N (Nat.ne_of_lt la)) (fun A hA => z2.draws X.prog X.w A hA (N + 1) (Nat.ne_of_lt (Nat.lt_succ_of_lt lb)))
    (fun i h st c hc => z1.live _ i h st c hc) (fun i h st c hc => z2.live _ i h st c hc)
  have rel : KV (ks.zip ys) (ks.zip its2) := kv_zip ks rv2
  have lk : its1.length = ks.length := by rw [← rv1.length, List.length_map]
  refine call_dict_pairs (knd := mixKind X.prog X.w) (kvs := ks.zip its2) P hh ⟨hz, hTI, ⟨_, _, hTO⟩, z1.start _ _ g1 (z1.beg.keeps _ _ z1.now hk), z2.start _ _ g2 (z2.beg.keeps _ _ z2.now hk)⟩ ⟨?_, ?_⟩ ?_ ?_
  · rw [List.length_zip, List.size_toArray, List.size_toArray, lk]
  · rintro i key v ⟨k1, k2⟩
    rw [List.getElem?_toArray] at k1 k2
    have hi : i < its1.length := (List.getElem?_eq_some_iff.mp k1).1
    have hik : i < ks.length := by omega
    obtain ⟨u, hu, ru⟩ := rv1.get (i := i) (x := kV ks[i]) (by rw [List.getElem?_map, List.getElem?_eq_getElem hik]; rfl)
    rw [k1] at hu
    cases hu
    exact ⟨ks[i], by rw [List.getElem?_zip_eq_some]; exact ⟨List.getElem?_eq_getElem hik, k2⟩, kV_is ru⟩
  · rw [List.size_toArray, List.size_toArray]
    have := rv2.length
    omega
  · intro h'' tk hd hk2
    have hbig : sysModules < N := by rw [← hN]; exact I1.big
    have hb : N + 5 ≠ sysModules := Nat.ne_of_gt (Nat.lt_of_lt_of_le hbig (Nat.le_add_right N 5))
    have hm : ((N + 5 : Addr) == sysModules) = false := beq_eq_false_iff_ne.mpr hb
    rw [hsz] at hd ⊢
    have hlen : (mergeK [] (ks.zip ys)).length ≤ sizeLine := by
      refine Nat.le_trans (length_mergeK (ks.zip ys) []) ?_
      rw [List.length_nil, Nat.zero_add, List.length_zip]
      have := rv2.length
      omega
    have keep : ∀ c u, s1.heap.get? c = some u → h''.get? c = some u := fun c u e => by
      have lc : c < N := by rw [← hN]; exact Heap.lt_size e
      refine hk2 c u (fun hm => ?_) (hk c u e)
      simp only [List.mem_cons, List.not_mem_nil, or_false] at hm
      rcases hm with x | x | x | x
      · exact Nat.ne_of_lt (Nat.lt_of_lt_of_le lc (Nat.le_add_right N 4)) x
      · exact Nat.ne_of_lt (Nat.lt_of_lt_of_le lc (Nat.le_add_right N 3)) x
      · exact Nat.ne_of_lt lc x
      · exact Nat.ne_of_lt (Nat.lt_of_lt_of_le lc (Nat.le_add_right N 1)) x
    refine ⟨.ref (N + 5), upd H1 (N + 5) (.dK (mergeK [] (ks.zip ys))), ?_, rfl, q _ (I1.hok.fresh (by rw [hN]; exact Nat.le_add_right N 5))⟩
    exact I1.laid (t' := tk) keep (by rw [hN]; exact Nat.le_add_right N 5) (show ObjOk X.prog X.w _ _ _ (.dK (mergeK [] (ks.zip ys))) from ⟨hlen, hm, merged [] (ks.zip its2), KV.merge rel .nil, hd⟩)
end
/-- the items of a list or a tuple -/
def anyOf (M : Store) : D → Option (List D)
  | .tup ds => some ds
  | .kt ds => some ds
  | x => seqOf M x
section
variable {K : PySem.W.Frag} {E : Wish} {X : Cx} {e : Expr}
theorem any_at {w : Wd} (ok : w.Ok K) {v : V} {x : D} {ds : List D} (r : RepB K w v x) (h : anyOf w.M x = some ds) : ∃ p vs, v = .ref p ∧ SqA K w.H p vs ∧ RepL K w.A w.G vs ds := by
  by_cases h1 : ∃ es, x = .tup es
  · obtain ⟨es, rfl⟩ := h1
    rcases r with r | ⟨p, vs, es', rfl, e, _⟩
    · cases r with
      | tup hs rl => cases h; exact ⟨_, _, rfl, .inl (.inl (.inl (ok.sub _ _ hs))), rl⟩
    · cases e
  by_cases h2 : ∃ es, x = .kt es
  · obtain ⟨es, rfl⟩ := h2
    rcases r with r | ⟨p, vs, es', rfl, e, _⟩
    · cases r with
      | kt hs rl => cases h; exact ⟨_, _, rfl, .inl (sqT_mono ok.sub hs), rl⟩
    · cases e
  have h' : seqOf w.M x = some ds := by
    cases x <;> first | exact h | exact absurd ⟨_, rfl⟩ h1 | exact absurd ⟨_, rfl⟩ h2
  obtain ⟨p, vs, e, a, b⟩ := seq_at ok r h'
  exact ⟨p, vs, e, .inr a, b⟩
def dDictZ2 (f1 f2 : FD) : FD := fun ρ M => (f1 ρ M).bind fun x M => (f2 ρ M).bind fun y M => match anyOf M x with
  | some xs => match keysD xs with
    | some ks => match anyOf M y with
      | some ys => .ok (.ref M.length) (M ++ [.dK (mergeP [] (ks.zip ys))])
      | none => .bad
    | none => .bad
  | none => .bad
theorem x_dictZ2 {f1 f2 : FD} (h : PE X e (tDictZip2 K (tAR K E (dCons f1 (dCons f2 dNil))))) : PE X e (tF K E (dDictZ2 f1 f2)) := PE.wk h fun σ H Q ⟨ρ, w, e1, ok, sr, a⟩ =>
  ⟨ρ, w, e1, ok, sr, by
    have a0 : After K E w ((f1 ρ w.M).bind fun x M => (f2 ρ M).bind fun y M => match anyOf M x with
      | some xs => match keysD xs with
        | some ks => match anyOf M y with
          | some ys => (.ok (.ref M.length) (M ++ [.dK (mergeP [] (ks.zip ys))]) : R D)
          | none => .bad
        | none => .bad
      | none => .bad) _ := a
    unfold dCons
    cases q1 : f1 ρ w.M with
    | bad => rw [q1] at a0; exact a0.elim
    | exc c d M1 => rw [q1] at a0; exact a0
    | ok x M1 =>
      rw [q1] at a0
      simp only [R.bind_ok] at a0 ⊢
      cases q2 : f2 ρ M1 with
      | bad => rw [q2] at a0; exact a0.elim
      | exc c d M2 => rw [q2] at a0; exact a0
      | ok y M2 =>
        rw [q2] at a0
        simp only [R.bind_ok] at a0
        have a1 : After K E w (R.ok [x, y] M2) (fun ds w' => ∀ vs, RepBL K w' vs ds → ∃ (a b : Addr) (ks : List Key) (ys : List V), vs = [.ref a, .ref b] ∧ SqA K w'.H a (ks.map kV) ∧ SqA K w'.H b ys ∧ ∀ p, w'.H p = none → Q (.ref p) (upd w'.H p (.dK (mergeK [] (ks.zip ys))))) := by
          intro w2 s2 eM vs rvs
          rw [← eM] at a0
          cases rvs with
          | cons r1 t1 =>
            cases t1 with
            | cons r2 t2 =>
              cases t2
              split at a0
              · rename_i xs hx
                split at a0
                · rename_i ks hk
                  split at a0
                  · rename_i ys hy
                    obtain ⟨p, us, rfl, hp, rl⟩ := any_at s2.ok r1 hx
                    have e := keys_at rl hk
                    subst e
                    obtain ⟨q, ws, rfl, hq, rl2⟩ := any_at s2.ok r2 hy
                    refine ⟨p, q, ks, ws, rfl, hp, hq, fun n hn => ?_⟩
                    obtain ⟨st, hA⟩ := new_obj (o := .dK (mergeK [] (ks.zip ws))) (m := .dK (mergeP [] (ks.zip ys))) s2.ok hn ⟨_, upd_same, merge_kv (zip_kv ks (fun i v hv => rl2.get' hv) rl2.length) .nil⟩
                    have a3 : ∀ w', Step K w w' → w'.M = w2.M ++ [.dK (mergeP [] (ks.zip ys))] → ∀ v, Rep K w'.A w'.G v (.ref w2.M.length) → Q v w'.H := a0
                    exact a3 _ (s2.trans st) rfl _ (.ref hA)
                  · exact a0.elim
                · exact a0.elim
              · exact a0.elim
        exact a1⟩
/-! ### a display with any keys -/
def dVals2 : List (FD × FD) → FL
  | [] => dNil
  | (k, v) :: r => dCons k (dCons v (dVals2 r))
def pairUp : List D → Option (List (Key × D))
  | [] => some []
  | [_] => none
  | k :: v :: r => match keyD k with
    | some k => (pairUp r).map fun r => (k, v) :: r
    | none => none
def dDispG (ps : List (FD × FD)) : FD := fun ρ M => (dVals2 ps ρ M).bind fun ds M => match pairUp ds with
  | some kvs => if kvs.length ≤ 15 then .ok (.ref M.length) (M ++ [.dK (mergeP [] kvs)]) else .bad
  | none => .bad
def vPairs : List V → List (V × V)
  | k :: v :: r => (k, v) :: vPairs r
  | _ => []
theorem pairs2_ok {σ : L2.St} {ρ : EnvD} : ∀ (ps : List (FD × FD)) (w w0 : Wd) (Q : List (V × V) → Hp → Prop), Step K w0 w → SR K w ρ σ →
    After K E w (dVals2 ps ρ w.M) (fun ds w' => ∀ vs, RepL K w'.A w'.G vs ds → Q (vPairs vs) w'.H) → tPairs (ps.map fun p => (tF K E p.1, tF K E p.2)) σ w.H Q
  | [], w, w0, Q, s, sr, a => by
    have a' : ∀ w', Step K w w' → w'.M = w.M → ∀ vs, RepL K w'.A w'.G vs [] → Q (vPairs vs) w'.H := a
    exact a' w (Step.refl s.ok) rfl [] .nil
  | (k, v) :: ps, w, w0, Q, s, sr, a => by
    refine ⟨ρ, w, rfl, s.ok, sr, ?_⟩
    have a1 : After K E w (dCons k (dCons v (dVals2 ps)) ρ w.M) _ := a
    refine a1.bind.imp fun d w1 s1 a2 x rx => ?_
    refine ⟨ρ, w1, rfl, s1.ok, sr.step s1, ?_⟩
    have a2' := a2.bind
    have a3 : After K E w1 (v ρ w1.M) fun d2 w2 => After K E w2 (dVals2 ps ρ w2.M) fun ds w3 => ∀ w4, Step K w3 w4 → w4.M = w3.M → ∀ vs, RepL K w4.A w4.G vs (d :: d2 :: ds) → Q (vPairs vs) w4.H := by
      have a4 : After K E w1 ((v ρ w1.M).bind fun d2 M => (dVals2 ps ρ M).bind fun ds M => .ok (d2 :: ds) M) _ := a2'
      refine a4.bind.imp fun d2 w2 s2 a5 => a5.bind.imp fun ds w3 s3 a6 w4 s4 e4 vs rvs => ?_
      exact a6 w3 (Step.refl s3.ok) rfl w4 s4 e4 vs rvs
    refine a3.imp fun d2 w2 s2 a4 y ry => ?_
    refine pairs2_ok ps w2 w0 _ ((s.trans s1).trans s2) ((sr.step s1).step s2) (a4.imp fun ds w3 s3 a5 vs rvs => ?_)
    exact a5 w3 (Step.refl s3.ok) rfl (x :: y :: vs) (.cons (s3.rep (s2.rep rx)) (.cons (s3.rep ry) rvs))
theorem pairUp_at {A : List Addr} {G : Hp} : ∀ {vs : List V} {ds : List D} {kd : List (Key × D)}, RepL K A G vs ds → pairUp ds = some kd → ∃ kv : List (Key × V), vPairs vs = kv.map (fun kv => (kV kv.1, kv.2)) ∧ RepKV (Rep K A G) kv kd
  | [], [], _, _, h => by cases h; exact ⟨[], rfl, .nil⟩
  | [_], [_], _, _, h => by cases h
  | x :: y :: vs, k :: v :: ds, kd, .cons r1 (.cons r2 t), h => by
    rw [pairUp] at h
    cases hk : keyD k with
    | none => rw [hk] at h; cases h
    | some kk =>
      rw [hk] at h
      cases hp : pairUp ds with
      | none => simp [hp] at h
      | some r =>
        simp [hp] at h
        subst h
        obtain ⟨kv, e1, e2⟩ := pairUp_at t hp
        have := key_at r1 hk
        subst this
        exact ⟨(kk, y) :: kv, by rw [vPairs, e1]; rfl, .cons r2 e2⟩
theorem mergeK_fold : ∀ (kv av : List (Key × V)), mergeK av kv = kv.foldl (fun acc x => putK acc x.1 x.2) av := fun kv av => rfl
theorem x_dispG {ps : List (FD × FD)} (h : PE X e (tDisp (ps.map fun p => (tF K E p.1, tF K E p.2)))) : PE X e (tF K E (dDispG ps)) := PE.wk h fun σ H Q ⟨ρ, w, e1, ok, sr, a⟩ => by
  subst e1
  intro p hp
  have s0 := ok.fresh0 hp (.dK [])
  have hG : w.G p = none := ok.sub.free hp
  have hA := ok.notA hp
  refine pairs2_ok ps ⟨w.A, w.G, w.M, upd w.H p (.dK [])⟩ w _ s0 (sr.step s0) ?_
  have a1 := (show After K E w ((dVals2 ps ρ w.M).bind _) _ from a).bind
  cases q : dVals2 ps ρ w.M with
  | bad => rw [q] at a1; exact a1
  | exc c d M => rw [q] at a1; exact fun w' s' e => a1 w' (s0.trans s') e
  | ok ds M =>
    rw [q] at a1
    intro w1 s1 eM vs rvs
    have s01 := s0.trans s1
    obtain ⟨k1, k2, k3⟩ := s1.keepN p (.dK []) upd_same hG hA
    have a2 := (show After K E w (dDispG ps ρ w.M) _ from a)
    have ed : dDispG ps ρ w.M = match pairUp ds with
      | some kvs => if kvs.length ≤ 15 then .ok (.ref M.length) (M ++ [.dK (mergeP [] kvs)]) else .bad
      | none => .bad := by unfold dDispG; rw [q]; rfl
    rw [ed] at a2
    split at a2
    · rename_i kd hkd
      split at a2
      · rename_i hc
        obtain ⟨kv, ev, rk⟩ := pairUp_at rvs hkd
        refine ⟨k1, kv, ev, by rw [rk.len]; exact hc, ?_⟩
        have hrep : RepKV (Rep K w1.A w1.G) (mergeK [] kv) (mergeP [] kd) := merge_kv rk .nil
        have okA := setOwn_ok (o := .dK (mergeK [] kv)) s1.ok k1 k2 k3
        have ok2 := okA.push (o := .dK (mergeP [] kd)) k2 k3 ⟨_, upd_same, hrep⟩
        have a3 : ∀ w', Step K w w' → w'.M = M ++ [.dK (mergeP [] kd)] → ∀ v, Rep K w'.A w'.G v (.ref M.length) → Q v w'.H := a2
        refine a3 ⟨w1.A ++ [p], w1.G, w1.M ++ [.dK (mergeP [] kd)], upd w1.H p (.dK (mergeK [] kv))⟩ ⟨ok2, s01.pre.trans (List.prefix_append _ _), s01.fro, fun b o z1 z2 z3 => ?_⟩ (by rw [eM]) _ (.ref ?_)
        · obtain ⟨c1, c2, c3⟩ := s01.keep b o z1 z2 z3
          refine ⟨?_, c2, fun hm => (List.mem_append.mp hm).elim c3 fun z => by simp at z; subst z; rw [hp] at z1; cases z1⟩
          show upd w1.H p _ b = some o
          rw [upd_ne (ne_of_none z1 hp)]
          exact c1
        · show (w1.A ++ [p])[M.length]? = some p
          have hl := s1.ok.len
          rw [eM] at hl
          rw [← hl, List.getElem?_append_right (Nat.le_refl _), Nat.sub_self]
          rfl
      · exact a2.elim
    · exact a2.elim
end
/-! ### d.update(d') -/
def tDUpd (td ty : TE) : TE := fun σ H Q => td σ H fun x H1 => ∃ a, x = .ref a ∧ IsD H1 a ∧ ty σ H1 fun y H2 => ∃ (b : Addr) (kvs more : List (Key × V)), y = .ref b ∧ a ≠ b ∧ H2 a = some (.dK kvs) ∧ H2 b = some (.dK more) ∧ kvs.length + more.length ≤ sizeLine ∧ Q .non (upd H2 a (.dK (mergeK kvs more)))
section
variable {X : Cx} {o e : Expr} {td ty : TE} {apos cpos : Pos}
open PySem.Spec PyProof.Rows in
theorem pe_dupd (ho : PE X o td) (he : PE X e ty) (m : M1 X o "update" apos e cpos) : PE X (.Call (.Attribute o "update" apos) [e] [] cpos) (tDUpd td ty) := by
  refine ⟨fun pins s σ H Q I h => ?_⟩
  refine wpAny_Call_method m.base m.few m.line PySem.F.plainAttrs_dict PySem.F.slot_dict_update PySem.F.type_dict_update (thn (ho.run pins s σ H _ I h) fun u s1 ⟨x, H1, I1, rx, a, ex, d, q1⟩ => ?_)
  subst ex
  obtain rfl : u = Value.ref a := rx
  obtain ⟨t1, t2, _⟩ := isD_at I1 d
  refine ⟨t1, t2, ?_⟩
  rw [m.trees]
  refine Calls.callWith_builtin rfl (Calls.evalArgs_plain (Calls.spliced_cons (thn (he.run pins s1 σ H1 _ I1 q1) fun iv s2 ⟨y, H2, I2, ry, b, kvs, more, ey, hne, hd, ho, hz, q2⟩ => Calls.spliced_nil ?_)))
  subst ey
  obtain rfl : iv = Value.ref b := ry
  obtain ⟨z1, m1, vs1, rel1, dd1⟩ := dk_of I2.hok hd
  obtain ⟨z2, m2, vs2, rel2, dd2⟩ := dk_of I2.hok ho
  refine call_meetsIn PySem.F.slot_dict_update dd1.typeIs PySem.F.entry_dict_update (PySem.F.args_dict_update_2 _ _) (meets_dict_update (mixKind X.prog X.w) a b hne m2) ⟨vs1, vs2, dd1, dd2, by rw [← rel1.length, ← rel2.length]; exact hz, fun h' e1 e2 hs => ?_⟩
  have hl : (mergeK kvs more).length ≤ sizeLine := Nat.le_trans (length_mergeK more kvs) hz
  have hex : ∃ q, h'.get? a = some q := let ⟨q, _, _, hq, _⟩ := e1; ⟨q, hq⟩
  exact ⟨.non, _, d_write I2 (by rw [hd]; exact True.intro) hs hex (dk_new hl m1 (KV.merge rel2 rel1) e1), rfl, q2⟩
end
section
variable {K : PySem.W.Frag} {E : Wish} {X : Cx} {e : Expr}
def dUpd (fo fe : FD) : FD := fun ρ M => (fo ρ M).bind fun x M => if isDD M x then (fe ρ M).bind fun y M => match x, y with
  | .ref i, .ref j => match M[i]?, M[j]? with
    | some (.dK kvs), some (.dK more) => if i ≠ j ∧ kvs.length + more.length ≤ sizeLine then .ok .non (M.set i (.dK (mergeP kvs more))) else .bad
    | _, _ => .bad
  | _, _ => .bad else .bad
theorem x_upd {fo fe : FD} (h : PE X e (tDUpd (tR K E fo) (tR K E fe))) : PE X e (tF K E (dUpd fo fe)) := PE.wk h fun σ H Q ⟨ρ, w, e1, ok, sr, a⟩ =>
  ⟨ρ, w, e1, ok, sr, a.bind.imp fun x w1 s1 a1 vx rx => by
    split at a1
    · rename_i hd
      obtain ⟨p, rfl, ip⟩ := isD_at' s1.ok rx hd
      refine ⟨p, rfl, ip, ρ, w1, rfl, s1.ok, sr.step s1, a1.bind.imp fun y w2 s2 a2 vy ry => ?_⟩
      split at a2
      · rename_i i j
        split at a2
        · rename_i kvs more ei ej
          split at a2
          · rename_i hc
            obtain ⟨p', e2, ea⟩ := ref_at (rx.step s2)
            cases e2
            obtain ⟨q, rfl, eb⟩ := ref_at ry
            obtain ⟨p2, ea2, vs1, h1, rk1⟩ := s2.ok.mos i _ ei
            rw [ea] at ea2; cases ea2
            obtain ⟨q2, eb2, vs2, h2, rk2⟩ := s2.ok.mos j _ ej
            rw [eb] at eb2; cases eb2
            refine ⟨q, vs1, vs2, rfl, fun hpq => hc.1 ?_, h1, h2, by rw [rk1.len, rk2.len]; exact hc.2, ?_⟩
            · subst hpq
              obtain ⟨li, gi⟩ := List.getElem?_eq_some_iff.mp ea
              obtain ⟨lj, gj⟩ := List.getElem?_eq_some_iff.mp eb
              exact (List.getElem_inj (h₀ := li) (h₁ := lj) s2.ok.nd).mp (gi.trans gj.symm)
            · have st3 := s2.ok.put (o := .dK (mergeP kvs more)) (ho := .dK (mergeK vs1 vs2)) ea ⟨_, upd_same, merge_kv rk2 rk1⟩
              exact a2 _ st3 rfl .non .non
          · exact a2.elim
        · exact a2.elim
      · exact a2.elim
    · exact a1.elim⟩
end
/-! ### xs[::k], k 1 or -1 -/
def tStepL (K : PySem.W.Frag) (te ts : TE) : TE := fun σ H Q => te σ H fun x H1 => tPart ts σ H1 fun o H2 => ∃ (a : Addr) (xs : List V) (k : Int), x = .ref a ∧ o = some k ∧ (k = 1 ∨ k = -1) ∧ SqL K H2 a xs ∧ ∀ p, H2 p = none → Q (.ref p) (upd H2 p (.lst (if k = 1 then xs else xs.reverse)))
section
variable {X : Cx} {e st : Expr} {te ts : TE}
open PySem.Spec PyProof.Rows in
theorem pick_one (its : List Value) : slicePick its.toArray none none (some 1) = its.toArray := by
  have h := slicePick_cut its none none
  have e : slicePick its.toArray none none (some 1) = slicePick its.toArray none none none := rfl
  rw [e, h]
  simp [HT.sIx]
open PySem.Spec PyProof.Rows in
theorem pe_stepL {p3 pos : Pos} (he : PE X e te) (hs : PE X st ts) : PE X (.Subscript e (.Slice none none (some st) p3) pos) (tStepL X.K te ts) := by
  refine ⟨fun pins s σ H Q I h => ?_⟩
  refine Subscript_ (thn (he.run pins s σ H _ I h) fun v s1 ⟨x, H1, I1, r1, q1⟩ => ?_)
  have hst : PO X (some st) (tPart ts) := po_some hs
  refine wpAny_Slice (thn (po_none.run pins s1 σ H1 (fun o H2 => o = none ∧ H2 = H1) I1 ⟨rfl, rfl⟩) fun vl s2 ⟨l, H2, I2, pl, el, e2⟩ => ?_)
  subst el e2
  refine thn (po_none.run pins s2 σ H2 (fun o H3 => o = none ∧ H3 = H2) I2 ⟨rfl, rfl⟩) fun vu s3 ⟨u, H3, I3, pu, eu, e3⟩ => ?_
  subst eu e3
  refine thn (hst.run pins s3 σ H3 _ I3 q1) fun vs s4 ⟨o, H4, I4, ps, a, xs, k, ex, eo, hk, hx, q⟩ => ?_
  subst ex eo
  cases r1
  have I5 : Inv X pins σ H4 { s4 with heap := s4.heap.push { cls := .type "slice", data := .fields #[vl, vu, vs] } } := I4.kept (t' := s4.toks) fun b ob q => Heap.get?_push_of_some _ q
  obtain ⟨its, r, ht, hz⟩ := I5.list hx
  have hlen := r.length
  show wpAny (model X.prog X.w) X.A (subscriptTail e (.Slice none none (some st) p3) (.ref a) (.ref s4.heap.objs.size)) (EP X pins σ Q) X.xe { s4 with heap := s4.heap.push { cls := .type "slice", data := .fields #[vl, vu, vs] } }
  refine tail_any (ops := [.ref a, .ref s4.heap.objs.size]) ht.isList.typeIs (PySem.slot_list_getitem.lookup) ?_ (by with_unfolding_all rfl)
  refine wpAny_getItem_list_slice ht.isList (Heap.IsSliceOf.new _ vl vu vs) pl pu ps (by rcases hk with rfl | rfl <;> decide) ?_ (by rw [List.size_toArray]; omega)
  rcases hk with rfl | rfl
  · rw [pick_one]
    refine ⟨.ref _, _, I5.laid (t' := s4.toks) (o := .lst xs) (fun b ob q => Heap.get?_push_of_some _ q) (Nat.le_refl _) ?_, rfl, by simpa using q _ (I5.hok.fresh (Nat.le_refl _))⟩
    exact ⟨hz, _, 0, r, Heap.get?_push_size _ rfl⟩
  · rw [PySem.W.krv_pick]
    refine ⟨.ref _, _, I5.laid (t' := s4.toks) (o := .lst xs.reverse) (fun b ob q => Heap.get?_push_of_some _ q) (Nat.le_refl _) ?_, rfl, by simpa using q _ (I5.hok.fresh (Nat.le_refl _))⟩
    exact ⟨by rw [List.length_reverse]; exact hz, _, 0, r.reverse, Heap.get?_push_size _ rfl⟩
end
section
variable {K : PySem.W.Frag} {E : Wish} {X : Cx} {e : Expr}
def stepD (xs : List D) : D → Option (List D)
  | .int k => if k = 1 then some xs else if k = -1 then some xs.reverse else none
  | _ => none
/-- xs[::k] of a list -/
def dStepL (fe fs : FD) : FE := fun ρ M => (fe ρ M).bind fun x M => (fs ρ M).bind fun y M => match seqOf M x with
  | some xs => match stepD xs y with
    | some zs => .ok (.own zs) M
    | none => .bad
  | none => .bad
theorem x_stepL {fe fs : FD} (h : PE X e (tStepL K (tR K E fe) (tR K E fs))) : PE X e (tE K E (dStepL fe fs)) := PE.wk h fun σ H Q ⟨ρ, w, e1, ok, sr, a⟩ =>
  ⟨ρ, w, e1, ok, sr, a.bind.imp fun x w1 s1 a1 v1 r1 => ⟨ρ, w1, rfl, s1.ok, sr.step s1, a1.bind.imp fun y w2 s2 a2 v2 r2 => by
    split at a2
    · rename_i xs hx
      split at a2
      · rename_i zs hz
        cases y with
        | int k =>
          obtain ⟨p, vs, rfl, hp, rl⟩ := seq_at s2.ok (r1.step s2) hx
          have e2 := int_at r2
          refine ⟨k, e2, p, vs, k, rfl, rfl, ?_, hp, fun n hn => ?_⟩
          · unfold stepD at hz
            simp only at hz
            split at hz
            · exact .inl ‹_›
            · split at hz
              · exact .inr ‹_›
              · cases hz
          · have s3 := s2.ok.fresh0 hn (.lst (if k = 1 then vs else vs.reverse))
            have hG : w2.G n = none := s2.ok.sub.free hn
            have a3 : ∀ w', Step K w2 w' → w'.M = w2.M → ∀ v, RepX K w w' v (.own zs) → Q v w'.H := a2
            refine a3 _ s3 rfl _ ⟨n, _, rfl, ((s1.trans s2).free hn), upd_same, hG, s2.ok.notA hn, ?_⟩
            unfold stepD at hz
            simp only at hz
            split at hz
            · rename_i h1; cases hz; rw [if_pos h1]; exact rl
            · rename_i h1
              split at hz
              · cases hz; rw [if_neg h1]; exact rl.reverse
              · cases hz
        | _ => cases hz
      · exact a2.elim
    · exact a2.elim⟩⟩
end
section
variable (ρ : EnvD) (M : Store)
@[simp] theorem dUpd_eq (fo fe : FD) : dUpd fo fe ρ M = (fo ρ M).bind fun x M => if isDD M x then (fe ρ M).bind fun y M => match x, y with
  | .ref i, .ref j => match M[i]?, M[j]? with
    | some (.dK kvs), some (.dK more) => if i ≠ j ∧ kvs.length + more.length ≤ sizeLine then .ok .non (M.set i (.dK (mergeP kvs more))) else .bad
    | _, _ => .bad
  | _, _ => .bad else .bad := rfl
@[simp] theorem dDispG_eq (ps : List (FD × FD)) : dDispG ps ρ M = (dVals2 ps ρ M).bind fun ds M => match pairUp ds with
  | some kvs => if kvs.length ≤ 15 then .ok (.ref M.length) (M ++ [.dK (mergeP [] kvs)]) else .bad
  | none => .bad := rfl
@[simp] theorem dStepL_eq (fe fs : FD) : dStepL fe fs ρ M = (fe ρ M).bind fun x M => (fs ρ M).bind fun y M => match seqOf M x with
  | some xs => match stepD xs y with
    | some zs => .ok (.own zs) M
    | none => .bad
  | none => .bad := rfl
@[simp] theorem dDictZ2_eq (f1 f2 : FD) : dDictZ2 f1 f2 ρ M = (f1 ρ M).bind fun x M => (f2 ρ M).bind fun y M => match anyOf M x with
  | some xs => match keysD xs with
    | some ks => match anyOf M y with
      | some ys => .ok (.ref M.length) (M ++ [.dK (mergeP [] (ks.zip ys))])
      | none => .bad
    | none => .bad
  | none => .bad := rfl
end
end TP
/-! TPp2: three names at once, list(range(n)). -/
namespace TP
open PySem L2
section
variable {K : PySem.W.Frag} {E : Wish} {X : Cx} {e : Expr} {st : Stmt}
/-- a, b, c = x, y, z -/
def sPar3 (i j l : Nat) (fs : FL) : FS := fun ρ M => (fs ρ M).out fun ds M => match ds with
  | [x, y, z] => .next (((ρ.set i (.val x)).set j (.val y)).set l (.val z)) M
  | _ => .bad
theorem s_par3 {i j l : Nat} {fs : FL} (h : PS X st (tPar3 i j l (tAF K E fs))) : PS X st (tS K E (sPar3 i j l fs)) := PS.wk h fun D σ H ⟨ρ, w, w0, e1, s, sr, of, p⟩ =>
  ⟨ρ, w, e1, s.ok, sr, (out_after s p).imp fun ds w1 s1 p1 vs rvs => by
    split at p1
    · cases rvs with
      | cons r1 r2 =>
        cases r2 with
        | cons r2 r3 =>
          cases r3 with
          | cons r3 r4 =>
            cases r4
            refine ⟨_, _, _, rfl, p1 w1 _ (s.trans s1) (Le.refl _) rfl ((((sr.step s1).set i r1).set j r2).set l r3) (of.sub (((OwnSub.set ρ σ i (fun _ z => by cases z) _).trans (OwnSub.set _ _ j (fun _ z => by cases z) _)).trans (OwnSub.set _ _ l (fun _ z => by cases z) _)))⟩
    · exact p1.elim⟩
/-! ### list(range(n)) -/
def dLstRg (f : FD) : FE := fun ρ M => (f ρ M).bind fun x M => match x with
  | .int n => if -(2 ^ 62) ≤ n ∧ n ≤ 16777216 then .ok (.own (rngL 0 n.toNat)) M else .bad
  | _ => .bad
theorem rep_map {α : Type} {A : List Addr} {G : Hp} {f : α → V} {g : α → D} (h : ∀ i, Rep K A G (f i) (g i)) : ∀ l : List α, RepL K A G (l.map f) (l.map g)
  | [] => .nil
  | x :: l => .cons (h x) (rep_map h l)
theorem rep_rg (A : List Addr) (G : Hp) (m : Nat) (a : Int) : RepL K A G ((List.range m).map fun (i : Nat) => V.int (a + (i : Nat))) (rngL a m) := rep_map (fun i => .int _) _
theorem x_listRg {f : FD} (h : PE X e (tLstRg (tRg1 (tR K E f)))) : PE X e (tE K E (dLstRg f)) := PE.wk h fun σ H Q ⟨ρ, w, e1, ok, sr, a⟩ =>
  ⟨ρ, w, e1, ok, sr, a.bind.imp fun x w1 s1 a1 v1 r1 => by
    split at a1
    · rename_i n
      split at a1
      · rename_i hn
        refine ⟨n, int_at r1, ⟨by omega, by omega, by omega, by omega, by omega⟩, fun q hq => ?_⟩
        have s3 := s1.ok.fresh0 hq (.lst (rgV 0 n))
        have hG : w1.G q = none := s1.ok.sub.free hq
        have a3 : ∀ w', Step K w1 w' → w'.M = w1.M → ∀ v, RepX K w w' v (.own (rngL 0 n.toNat)) → Q v w'.H := a1
        refine a3 _ s3 rfl _ ⟨q, _, rfl, (s1.free hq), upd_same, hG, s1.ok.notA hq, ?_⟩
        have e : n - 0 = n := by omega
        unfold rgV
        rw [e]
        exact rep_rg _ _ n.toNat 0
      · exact a1.elim
    · exact a1.elim⟩
end
section
variable (ρ : EnvD) (M : Store)
@[simp] theorem sPar3_eq (i j l : Nat) (fs : FL) : sPar3 i j l fs ρ M = (fs ρ M).out fun ds M => match ds with
  | [x, y, z] => .next (((ρ.set i (.val x)).set j (.val y)).set l (.val z)) M
  | _ => .bad := rfl
@[simp] theorem dLstRg_eq (f : FD) : dLstRg f ρ M = (f ρ M).bind fun x M => match x with
  | .int n => if -(2 ^ 62) ≤ n ∧ n ≤ 16777216 then .ok (.own (rngL 0 n.toNat)) M else .bad
  | _ => .bad := rfl
end
end TP
/-! TPga: enumerate of a tuple, x[i] = e of a list of one's own, max of a list, index. -/
namespace TP
open PySem L2
section
variable {prog : Program} {w : World} {A : Around} {E : Value → Shared → Prop} {s : Shared}
set_option maxHeartbeats 1000000 in
theorem meets_enum_new1 {v : Value} {o : Obj} {H : Heap → Prop} (B : Begins v o H) :
    Meets (Builtin.«enumerate.__new__» ⟨[.type "enumerate", v], []⟩) (fun _ R s => H s.heap ∧
      R (.ok (.ret (.ref (s.heap.push o).objs.size))) { s with heap := (s.heap.push o).push { cls := .type "enumerate", data := .fields #[.none, .bool false, .ref s.heap.objs.size, rawInt 0, .none, .none] } }) :=
  .of_wp fun prog w A R s h => by
    obtain ⟨hp, g, d, tk, os⟩ := s; obtain ⟨h1, h⟩ := h
    have hsub := sub_enumerate
    have q1 : ∀ {A' : Around} {E : Value → Shared → Prop} {Q : Value → Shared → Prop}, Q (.ref hp.objs.size) ⟨hp.push o, g, d, tk, os⟩ → wpAny (model prog w) A' (pyIter v) Q E ⟨hp, g, d, tk, os⟩ :=
      fun q => B.iter prog w _ _ ⟨hp, g, d, tk, os⟩ _ h1 q
    wp_walk using q1
    refine wpAny_stack_any fun st => wpAny_pure ?_
    split
    · rename_i c _ _ _ _ _
      cases (c == Value.type "enumerate")
      · wp_walk using q1
        exact ⟨_, rfl, h⟩
      · wp_walk using q1
        exact ⟨_, rfl, h⟩
    · wp_walk using q1
      exact ⟨_, rfl, h⟩
theorem enum_begins1 {v : Value} {o : Obj} {H : Heap → Prop} {Q : Value → Shared → Prop} (B : Begins v o H) (h1 : H s.heap)
    (h : ∀ h', IsEnum h' (s.heap.objs.size + 1) s.heap.objs.size 0 .none → h'.get? s.heap.objs.size = some o → h'.objs.size = s.heap.objs.size + 2 →
      (∀ b o, s.heap.get? b = some o → h'.get? b = some o) → Q (.ref (s.heap.objs.size + 1)) { s with heap := h' }) :
    wpAny (model prog w) A (call (.type "enumerate") [v]) Q E s := by
  refine callType_new F.called_enumerate (by decide) (F.typeCall_enumerate_1 _) (F.newCall_enumerate_1 _) (fun obj => F.args_object_init_2 obj _) F.entry_enumerate_new
    (meets_enum_new1 B) ⟨h1, ?_⟩
  have hz : (s.heap.push o).objs.size = s.heap.objs.size + 1 := Heap.size_push ..
  show _ ∧ _
  rw [hz]
  have he : IsEnum ((s.heap.push o).push { cls := .type "enumerate", data := .fields #[.none, .bool false, .ref s.heap.objs.size, rawInt 0, .none, .none] }) (s.heap.objs.size + 1) s.heap.objs.size 0 .none := by
    have := Heap.get?_push_size (s.heap.push o) (o := { cls := .type "enumerate", data := .fields #[.none, .bool false, .ref s.heap.objs.size, rawInt 0, .none, .none] }) rfl
    rw [hz] at this; exact this
  refine ⟨⟨_, he, rfl⟩, h _ he (Heap.get?_push_of_some _ (Heap.get?_push_size _ B.free)) (by rw [Heap.size_push, hz]) fun b o x => Heap.get?_push_of_some _ (Heap.get?_push_of_some _ x)⟩
end
/-- the tuple at a, each item in a new pair -/
def IteT (K : PySem.W.Frag) (a : Addr) : It :=
  ⟨fun i H => ∃ (xs : List V) (x : V), SqT K H a xs ∧ xs[i]? = some x, fun i H v H' => ∃ T x, v = .ref T ∧ H T = none ∧ H' = upd H T (.tup [.int (i : Nat), x]) ∧ ∀ xs, SqT K H a xs → xs[i]? = some x, fun i H => ∃ xs : List V, SqT K H a xs ∧ xs.length ≤ i⟩
theorem turn_enumT {P : Program} {w : World} {K : PySem.W.Frag} {elts : List Expr} {kk : Nat} {tpos : Pos} (a e it : Addr) :
    Turn P w K (.Tuple elts kk tpos) (IteT K a) [e, it] e (fun i h => (∃ old, IsEnum h e it ((i : Nat) : Int) old) ∧ h.IsTupleIter it a i ∧ e ≠ it ∧ e ≠ a ∧ a ≠ it) where
  mem := by simp
  obj := fun i h st b hb => by
    obtain ⟨⟨old, he⟩, ⟨o, ho, hc, hd⟩, _⟩ := st
    have e' : b = e ∨ b = it := by simpa using hb
    rcases e' with z | z
    · rw [z]; exact ⟨_, he, fun v q => nomatch q⟩
    · rw [z]; exact ⟨o, ho, fun v q => by rw [hd] at q; cases q⟩
  keep := fun i h h' st k => let ⟨⟨old, he⟩, hi, hne⟩ := st; ⟨⟨old, k e (by simp) _ he⟩, hi.at fun o q => k it (by simp) o q, hne⟩
  item := by
    intro X hP hw hK hc i pins s σ H E I hf st hg
    subst hP hw hK
    obtain ⟨⟨old, he⟩, hit, hne, hea, hai⟩ := st
    obtain ⟨xs, x, hq, hx⟩ := hg
    obtain ⟨its, rv, p, hz⟩ := I.tuple hq
    obtain ⟨u, hu, ru⟩ := rv.get hx
    have hel : e < s.heap.objs.size := Heap.lt_size he
    have hil : it < s.heap.objs.size := by obtain ⟨_, q, _⟩ := hit; exact Heap.lt_size q
    have hu2 : its.toArray[i]? = some u := by simpa using hu
    have hlt : i < its.toArray.size := (Array.getElem?_eq_some_iff.mp hu2).1
    refine wpAny_pyNext_enum_itemD (Draws.tuple (A := X.A.in1) (I.ok.hd hc) it a hai its.toArray) he ⟨hit, p⟩ hlt hne (by simp [hne, hea]) fun y h' tk hy ho hit' hT hsz hk => ?_
    have ey : u = y := Option.some.inj (hu2.symm.trans hy)
    subst ey
    refine ⟨_, rfl, wpAny_letOwnedTupleGo_enum (s := { s with heap := h', toks := tk + 1 }) ho fun h'' he' sb => ?_⟩
    have hT2 : h''.get? s.heap.objs.size = some { cls := .type "tuple", data := .seq #[.int i tk, u] } := (sb.2 _ (Nat.ne_of_gt hel)).trans hT
    have new : ObjOk X.prog X.w (upd H s.heap.objs.size (.tup [.int (i : Nat), x])) h'' s.heap.objs.size (.tup [.int (i : Nat), x]) :=
      ⟨by show 2 ≤ sizeLine; decide, [.int i tk, u], .cons ⟨_, rfl⟩ (.cons ru .nil), ⟨_, hT2, rfl, _, rfl⟩⟩
    have I1 : Inv X pins σ (upd H s.heap.objs.size (.tup [.int (i : Nat), x])) { s with heap := h'', toks := tk + 1 } :=
      I.turnedNew (ch := [e, it]) (fun b ob hb q => (sb.2 b (fun z => hb (by simp [z]))).trans (hk b ob (fun z => hb (by simp [z])) (fun z => hb (by simp [z])) q)) hf (Nat.le_refl _) new
    refine ⟨.ref s.heap.objs.size, _, I1, rfl, ⟨_, x, rfl, I.hok.fresh (Nat.le_refl _), rfl, fun ys hy => by rw [I.tuple_inj hy hq]; exact hx⟩, ⟨⟨u, ?_⟩, hit'.1.at fun o q => (sb.2 it (Ne.symm hne)).trans q, hne, hea, hai⟩, fun b hb => ?_⟩
    · have e1 : ((i + 1 : Nat) : Int) = (i : Int) + 1 := by omega
      rw [e1]; exact he'
    · have hb' : b < s.heap.objs.size := by
        have e' : b = e ∨ b = it := by simpa using hb
        rcases e' with z | z
        · rw [z]; exact hel
        · rw [z]; exact hil
      rw [upd_ne (Nat.ne_of_lt hb')]
      exact (hf b hb).1
  done := by
    intro X hP hw hK hc i pins s σ H E I hf st hg
    subst hP hw hK
    obtain ⟨⟨old, he⟩, hit, hne, hea, hai⟩ := st
    obtain ⟨xs, hq, hx⟩ := hg
    obtain ⟨its, rv, p, hz⟩ := I.tuple hq
    obtain ⟨f0, f1, f2, f3, f4, f5⟩ := hf it (by simp)
    have hl := rv.length
    have hT : s.TypeIs (.ref e) "enumerate" := ⟨_, he, rfl⟩
    unfold pyNext
    refine wpAny_bind (wpAny_attempt (wpAny_callSpecial?_slot (name := Str.ofString "__next__") hT F.slot_enumerate_next
      (wpAny_call_entry F.slot_enumerate_next hT F.entry_enumerate_next ?_ (F.args_enumerate_next_1 _))))
    show wpAny _ _ (field (.ref e) 2 >>= _) _ _ _
    refine wpAny_bind (wpAny_field he rfl (x := .ref it) rfl ?_)
    refine wpAny_bind (wpAny_nextOf_tuple_end (A := X.A.in1) (I.ok.hd hc) hit p (by simp; omega) fun h' x he' hx' => ?_)
    obtain ⟨o, ho, hcl⟩ := hx'
    refine wpAny_bind (wpAny_isInstance (T := "StopIteration") (b := true) ⟨o, ho, hcl⟩ isSubtype_stop ?_)
    exact wpAny_pure ⟨rfl, I.turned (t' := s.toks) (fun b o hb q => he' b o hb q) f0 f1 f3 f4 f5⟩
  self := fun A i s Q E st h => let ⟨⟨_, he⟩, _⟩ := st; wpAny_pyIter_enum he h
/-- enumerate of a list or a tuple -/
def iEnumA (K : PySem.W.Frag) (ta : TA) : TI := fun σ H R => ta σ H fun vs H1 => ∃ a xs, vs = [.ref a] ∧ ((SqL K H1 a xs ∧ R (Ite K a) H1) ∨ (SqT K H1 a xs ∧ R (IteT K a) H1))
theorem pi_enumA {X : Cx} {e : Expr} {ta : TA} {p pos tpos : Pos} {elts : List Expr} {kk : Nat} (hg : Gl X "enumerate") (hm : X.mg "enumerate" = none) (ha : PA X [e] ta) (hs : starEach [e] X.env = [(false, eval e X.env)] := by rfl) :
    PI X (.Tuple elts kk tpos) (.Call (.Name "enumerate" p) [e] [] pos) (iEnumA X.K ta) := by
  refine ⟨fun pins s σ H R I h => ?_⟩
  refine PyProof.Rows.Call_ (ld_blt I hg hm PyProof.Rows.boot_enumerate (PyProof.Rows.callWith_type1 (thn (ha.run pos pins s σ H _ I h) fun us s1 ⟨vs, H1, I1, r1, q1⟩ => ?_) hs rfl))
  obtain ⟨a, xs, ex, q⟩ := q1
  subst ex
  cases r1 with
  | cons r rr =>
    cases rr
    cases r
    rcases q with ⟨hq, q⟩ | ⟨hq, q⟩
    · obtain ⟨its, rv, p', hz⟩ := I1.list hq
      refine call_enumerate_list p'.isList fun h' he hit hsz hk => wpAny_pyIter_enum he ?_
      have I2 : Inv X pins σ H1 { s1 with heap := h' } := I1.kept (t' := s1.toks) hk
      refine ⟨s1.heap.objs.size + 1, [s1.heap.objs.size + 1, s1.heap.objs.size], _, _, H1, rfl, I2, turn_enum a (s1.heap.objs.size + 1) s1.heap.objs.size, ⟨⟨.none, he⟩, hit, Nat.succ_ne_self _⟩, fun b hb => ?_, q⟩
      have e' : b = s1.heap.objs.size + 1 ∨ b = s1.heap.objs.size := by simpa using hb
      have hle : s1.heap.objs.size ≤ b := by
        rcases e' with z | z
        · rw [z]; exact Nat.le_add_right _ _
        · rw [z]; exact Nat.le_refl _
      exact I1.fpOk hle (I1.hok.fresh hle)
    · obtain ⟨its, rv, p', hz⟩ := I1.tuple hq
      have hal : a < s1.heap.objs.size := by obtain ⟨_, q, _⟩ := p'; exact Heap.lt_size q
      refine enum_begins1 (begins_tuple a its.toArray) p' fun h' he hit hsz hk => wpAny_pyIter_enum he ?_
      have I2 : Inv X pins σ H1 { s1 with heap := h' } := I1.kept (t' := s1.toks) hk
      refine ⟨s1.heap.objs.size + 1, [s1.heap.objs.size + 1, s1.heap.objs.size], _, _, H1, rfl, I2, turn_enumT a (s1.heap.objs.size + 1) s1.heap.objs.size, ⟨⟨.none, he⟩, ⟨_, hit, rfl, rfl⟩, Nat.succ_ne_self _, Nat.ne_of_gt (Nat.lt_succ_of_lt hal), Nat.ne_of_lt hal⟩, fun b hb => ?_, q⟩
      have e' : b = s1.heap.objs.size + 1 ∨ b = s1.heap.objs.size := by simpa using hb
      have hle : s1.heap.objs.size ≤ b := by
        rcases e' with z | z
        · rw [z]; exact Nat.le_add_right _ _
        · rw [z]; exact Nat.le_refl _
      exact I1.fpOk hle (I1.hok.fresh hle)
section
variable {K : PySem.W.Frag} {E : Wish} {X : Cx} {e : Expr} {st : Stmt}
theorem it_enumT {w : Wd} {a : Addr} {vs : List V} {ds : List D} (hs : SqT K w.G a vs) (rl : RepL K w.A w.G vs ds) : IterOk K w (IteT K a) (enumL ds) := fun w2 le ok2 i => by
  have h2 : SqT K w2.H a vs := sqT_mono ok2.sub (sqT_mono le.2 hs)
  have r2 := le.repL rl
  refine ⟨fun d ed => ?_, fun hl => ⟨vs, h2, by rw [rl.length]; simpa [enumL] using hl⟩⟩
  unfold enumL at ed
  rw [List.getElem?_map] at ed
  by_cases hi : i < ds.length
  · rw [List.getElem?_range hi] at ed
    cases ed
    obtain ⟨v, ev, rv⟩ := r2.get (List.getElem?_eq_getElem hi)
    refine ⟨⟨vs, v, h2, ev⟩, fun x H' y => ?_⟩
    obtain ⟨T, x', rfl, hT, rfl, y⟩ := y
    have := y vs h2
    rw [ev] at this
    cases this
    have st := ok2.fresh hT (.tup [.int (i : Nat), v])
    refine ⟨_, st, rfl, rfl, .tup upd_same (.cons (.int _) (.one ?_))⟩
    rw [List.getD_eq_getElem?_getD, List.getElem?_eq_getElem hi]
    exact st.rep rv
  · rw [List.getElem?_eq_none (by simpa using hi)] at ed
    cases ed
def dEnumA (fs : FL) : FL := fun ρ M => (fs ρ M).bind fun ds M => match ds with
  | [.lst es] => .ok (enumL es) M
  | [.fro es] => .ok (enumL es) M
  | [.tup es] => .ok (enumL es) M
  | _ => .bad
theorem x_enumA {tg : Expr} {fs : FL} (h : PI X tg e (iEnumA K (tAF K E fs))) : PI X tg e (tI K E (dEnumA fs)) := PI.wk h fun σ H Q ⟨ρ, w, e1, ok, sr, a⟩ =>
  ⟨ρ, w, e1, ok, sr, a.bind.imp fun ds w1 s1 a1 vs rvs => by
    split at a1
    · cases rvs with
      | cons r1 r2 =>
        cases r2
        cases r1 with
        | lst hs rl => exact ⟨_, _, rfl, .inl ⟨.inl (.inl (s1.ok.sub _ _ hs)), a1 w1 (Step.refl s1.ok) rfl _ (it_enum (.inl (.inl hs)) rl)⟩⟩
    · cases rvs with
      | cons r1 r2 =>
        cases r2
        cases r1 with
        | fro hs rl => exact ⟨_, _, rfl, .inl ⟨s1.ok.sub.seq hs, a1 w1 (Step.refl s1.ok) rfl _ (it_enum hs rl)⟩⟩
    · cases rvs with
      | cons r1 r2 =>
        cases r2
        cases r1 with
        | tup hs rl => exact ⟨_, _, rfl, .inr ⟨.inl (.inl (s1.ok.sub _ _ hs)), a1 w1 (Step.refl s1.ok) rfl _ (it_enumT (.inl (.inl hs)) rl)⟩⟩
    · exact a1.elim⟩
@[simp] theorem dEnumA_eq (fs : FL) (ρ : EnvD) (M : Store) : dEnumA fs ρ M = (fs ρ M).bind fun ds M => match ds with
  | [.lst es] => .ok (enumL es) M
  | [.fro es] => .ok (enumL es) M
  | [.tup es] => .ok (enumL es) M
  | _ => .bad := rfl
/-- x[j] = e, x a list of one's own -/
def sPutO (i : Nat) (f fi : FD) : FS := fun ρ M => (f ρ M).out fun x M => match ρ[i]? with
  | some (.own ds) => (fi ρ M).out fun j M => match j with
    | .int j => match ixN ds.length j with
      | some n => .next (ρ.set i (.own (ds.set n x))) M
      | none => .bad
    | _ => .bad
  | _ => .bad
theorem s_putO {i : Nat} {f fi : FD} (h : PS X st (tAsg (tF K E f) (gSub (tVar i) (tR K E fi) rSetL))) : PS X st (tS K E (sPutO i f fi)) := PS.wk h fun D σ H ⟨ρ, w, w0, e1, s, sr, of, p⟩ =>
  ⟨ρ, w, e1, s.ok, sr, (out_after s p).imp fun x w1 s1 p1 v rv => by
    split at p1
    · rename_i ds e2
      obtain ⟨q, vs, h1, h2, h3, h4, h5⟩ := (sr.step s1).own i ds e2
      refine ⟨_, h1, ρ, w1, rfl, s1.ok, sr.step s1, (out_after (s.trans s1) p1).imp fun j w2 s2 p2 vj rj => ?_⟩
      split at p2
      · rename_i j
        split at p2
        · rename_i n en
          cases int_at rj
          obtain ⟨b1, c1, d1⟩ := s2.keepN q _ h2 h3 h4
          have r1 := s2.repL h5
          refine ⟨q, vs, j, n, rfl, rfl, b1, by rw [h5.length]; exact en, ?_⟩
          obtain ⟨a, b, c⟩ := SR.change (vs := vs) ((s.trans s1).trans s2) ((sr.step s1).step s2) of e2 h1 (r1.set (s2.rep rv) n)
          exact p2 _ σ a (Le.refl _) rfl b c
        · exact p2.elim
      · exact p2.elim
    · exact p1.elim⟩
@[simp] theorem sPutO_eq (i : Nat) (f fi : FD) (ρ : EnvD) (M : Store) : sPutO i f fi ρ M = (f ρ M).out fun x M => match ρ[i]? with
  | some (.own ds) => (fi ρ M).out fun j M => match j with
    | .int j => match ixN ds.length j with
      | some n => .next (ρ.set i (.own (ds.set n x))) M
      | none => .bad
    | _ => .bad
  | _ => .bad := rfl
end
end TP
/-! TPgb: in with any data, max of a list, index in a tuple of texts. -/
namespace TP
open PySem L2
section
variable {X : Cx}
def rInW (K : PySem.W.Frag) (neg : Bool) : R2 := fun x y H Q => (if neg then rNotInA K x y H Q else rInA K x y H Q) ∨ ∃ d e ds, Dp K H x d ∧ Dp K H y e ∧ (e = .list ds ∨ e = .tuple ds) ∧ d.canLay0 = true ∧ PyData.canLayAll0 ds = true ∧ min (PyData.depthAll ds) d.depth ≤ 190 ∧ Q (.bl (if neg then !(ds.any fun z => PyData.eqv z d) else ds.any fun z => PyData.eqv z d)) H
theorem op_inW (hu : X.A.units + 200 < cLine) : OpR X (compareOp .In) (rInW X.K false) := by
  intro pins s σ H x y v u Q I rx ry h
  rcases h with h | ⟨d, e, ds, hd, he, hk, sd, se, hm, q⟩
  · exact op_inA pins s σ H x y v u Q I rx ry h
  · obtain ⟨as, r1⟩ := Dp.reads I d x v hd rx
    obtain ⟨bs, r2⟩ := Dp.reads I e y u he ry
    rcases hk with rfl | rfl
    · exact SeqAt.in_list_reads r2 r1 se sd (by omega) ⟨.bl _, H, I, rfl, q⟩
    · exact SeqAt.in_tuple_reads r2 r1 se sd (by omega) ⟨.bl _, H, I, rfl, q⟩
theorem op_notInW (hu : X.A.units + 200 < cLine) : OpR X (compareOp .NotIn) (rInW X.K true) := by
  intro pins s σ H x y v u Q I rx ry h
  rcases h with h | ⟨d, e, ds, hd, he, hk, sd, se, hm, q⟩
  · exact op_notInA pins s σ H x y v u Q I rx ry h
  · obtain ⟨as, r1⟩ := Dp.reads I d x v hd rx
    obtain ⟨bs, r2⟩ := Dp.reads I e y u he ry
    rcases hk with rfl | rfl
    · exact SeqAt.notIn_list_reads r2 r1 se sd (by omega) ⟨.bl _, H, I, rfl, q⟩
    · exact SeqAt.notIn_tuple_reads r2 r1 se sd (by omega) ⟨.bl _, H, I, rfl, q⟩
end
section
variable {K : PySem.W.Frag} {E : Wish} {X : Cx} {e : Expr} {st : Stmt}
def itemsP : D → Option (List D)
  | .tup ds => some ds
  | .kt ds => some ds
  | .lst ds => some ds
  | .fro ds => some ds
  | _ => none
def anyW (M : Store) (x y : D) : Option Bool := match itemsP (derD M y) with
  | some ds => if goodD (derD M x) && goodL ds && goodD (derD M y) && decide (min (dpL ds) (dpD (derD M x)) ≤ 190) then some (ds.any fun z => eqvD z (derD M x)) else none
  | none => none
def inWD (M : Store) (x y : D) : Option Slot := match inD M x y with
  | some s => some s
  | none => (anyW M x y).map fun b => .val (.bl b)
def notInWD (M : Store) (x y : D) : Option Slot := match notInD M x y with
  | some s => some s
  | none => (anyW M x y).map fun b => .val (.bl (!b))
theorem any_py {d : D} (hd : goodD d = true) : ∀ ds : List D, goodL ds = true → (toPyL ds).any (fun z => PyData.eqv z (toPy d)) = ds.any fun z => eqvD z d
  | [], _ => by rw [toPyL]; rfl
  | x :: ds, h => by
    rw [goodL, Bool.and_eq_true] at h
    rw [toPyL, List.any_cons, List.any_cons, eqv_py x d h.1 hd, any_py hd ds h.2]
theorem anyW_at {w : Wd} (ok : w.Ok K) {vx vy : V} {x y : D} {b : Bool} (rx : RepB K w vx x) (ry : RepB K w vy y) (h : anyW w.M x y = some b) :
    ∃ d e ds, Dp K w.H vx d ∧ Dp K w.H vy e ∧ (e = .list ds ∨ e = .tuple ds) ∧ d.canLay0 = true ∧ PyData.canLayAll0 ds = true ∧ min (PyData.depthAll ds) d.depth ≤ 190 ∧ (ds.any fun z => PyData.eqv z d) = b := by
  unfold anyW at h
  split at h
  · rename_i ds hds
    split at h
    · rename_i hc
      simp only [Bool.and_eq_true, decide_eq_true_eq] at hc
      obtain ⟨⟨⟨h1, h2⟩, h3⟩, h4⟩ := hc
      refine ⟨toPy (derD w.M x), toPy (derD w.M y), toPyL ds, rx.dp ok h1, ry.dp ok h3, ?_, lay_py _ h1, layL_py _ h2, by rw [dp_py _ h1, dpL_py _ h2]; exact h4, ?_⟩
      · cases hq : derD w.M y with
        | tup es => rw [hq] at hds; cases hds; exact .inr (by rw [toPy])
        | kt es => rw [hq, goodD] at h3; cases h3
        | lst es => rw [hq] at hds; cases hds; exact .inl (by rw [toPy])
        | fro es => rw [hq, goodD] at h3; cases h3
        | non => rw [hq] at hds; cases hds
        | bl b => rw [hq] at hds; cases hds
        | int i => rw [hq] at hds; cases hds
        | str z => rw [hq] at hds; cases hds
        | ref k => rw [hq] at hds; cases hds
      · rw [any_py h1 ds h2]; exact Option.some.inj h
    · cases h
  · cases h
theorem p_inW : Prim2 K (rInW K false) inWD := by
  intro w vx vy x y s Q ok rx ry h k
  unfold inWD at h
  split at h
  · rename_i s' hs
    cases h
    exact .inl (p_in w vx vy x y s Q ok rx ry hs k)
  · cases hb : anyW w.M x y with
    | none => rw [hb] at h; cases h
    | some b =>
      rw [hb] at h
      cases h
      obtain ⟨d, e, ds, a1, a2, a3, a4, a5, a6, a7⟩ := anyW_at ok rx ry hb
      exact .inr ⟨d, e, ds, a1, a2, a3, a4, a5, a6, ans ok k fun A G => by rw [if_neg (by decide), a7]; exact .bl _⟩
theorem p_notInW : Prim2 K (rInW K true) notInWD := by
  intro w vx vy x y s Q ok rx ry h k
  unfold notInWD at h
  split at h
  · rename_i s' hs
    cases h
    exact .inl (p_notIn w vx vy x y s Q ok rx ry hs k)
  · cases hb : anyW w.M x y with
    | none => rw [hb] at h; cases h
    | some b =>
      rw [hb] at h
      cases h
      obtain ⟨d, e, ds, a1, a2, a3, a4, a5, a6, a7⟩ := anyW_at ok rx ry hb
      exact .inr ⟨d, e, ds, a1, a2, a3, a4, a5, a6, ans ok k fun A G => by rw [if_pos rfl, a7]; exact .bl _⟩
/-! ### max of a list -/
def maxI : Int → List Int → Int
  | a, [] => a
  | a, b :: l => maxI (if b > a then b else a) l
theorem maxI_max : ∀ (l : List Int) (a m : Int), m ∈ a :: l → (∀ y ∈ a :: l, y ≤ m) → maxI a l = m
  | [], a, m, h, _ => by rw [maxI]; exact (List.mem_singleton.mp h).symm
  | b :: l, a, m, h, hy => by
    rw [maxI]
    have ha := hy a (by simp)
    have hb := hy b (by simp)
    refine maxI_max l _ m ?_ (fun y hm => ?_)
    · rcases List.mem_cons.mp h with rfl | h
      · split
        · have : b = m := by omega
          simp [this]
        · simp
      · rcases List.mem_cons.mp h with rfl | h
        · split
          · simp
          · have : a = m := by omega
            simp [this]
        · exact List.mem_cons_of_mem _ h
    · rcases List.mem_cons.mp hm with rfl | hm
      · split <;> assumption
      · exact hy y (by simp [hm])
def maxLD (M : Store) (ds : List D) : Option Slot := match ds with
  | [x] => match seqOf M x with
    | some es => match intsOf es with
      | some (a :: l) => some (.val (.int (maxI a l)))
      | _ => none
    | none => none
  | _ => none
theorem p_maxL : PrimN K (rMax K) maxLD := by
  intro w vs ds s Q ok r h k
  unfold maxLD at h
  split at h
  · split at h
    · rename_i x es hx
      split at h
      · rename_i a l hi
        cases h
        obtain ⟨v, rfl, rv⟩ := r.one
        obtain ⟨p, us, rfl, hp, rl⟩ := seq_at ok rv hx
        have e := ints_at rl hi
        subst e
        refine ⟨p, a :: l, rfl, hp, by simp, fun m h1 h2 => ?_⟩
        rw [← maxI_max l a m h1 h2]
        exact ans ok k fun A G => .int _
      · cases h
    · cases h
  · cases h
/-! ### t.index(x), t a tuple of texts -/
def idxS (z : Str) : List Str → Option Nat
  | [] => none
  | y :: ys => if y = z then some 0 else (idxS z ys).map (· + 1)
theorem idxS_ok {z : Str} : ∀ {ys : List Str} {j : Nat}, idxS z ys = some j → ys[j]? = some z ∧ ∀ m, m < j → ys[m]? ≠ some z
  | [], j, h => by cases h
  | y :: ys, j, h => by
    rw [idxS] at h
    split at h
    · rename_i e
      cases h
      exact ⟨by simp [e], fun m hm => absurd hm (Nat.not_lt_zero _)⟩
    · rename_i e
      cases hq : idxS z ys with
      | none => rw [hq] at h; cases h
      | some i =>
        rw [hq] at h
        cases h
        obtain ⟨h1, h2⟩ := idxS_ok hq
        refine ⟨by simpa using h1, fun m hm => ?_⟩
        cases m with
        | zero => simpa using e
        | succ m => simpa using h2 m (Nat.lt_of_succ_lt_succ hm)
def tupIdxD (_ : Store) (x : D) (ds : List D) : Option Slot := match x, ds with
  | .tup es, [.str z] => match strsOf es with
    | some ys => (idxS z ys).map fun j => .val (.int (j : Nat))
    | none => none
  | _, _ => none
theorem p_tupIdx : PrimM K (fun x xs H Q => ∃ p, ∃ ys : List Str, ∃ z j, x = .ref p ∧ xs = [.str z] ∧ SqT K H p (ys.map V.str) ∧ ys[j]? = some z ∧ (∀ m, m < j → ys[m]? ≠ some z) ∧ Q (.int (j : Nat)) H) tupIdxD := by
  intro w vx x vs ds s Q ok rx r h k
  unfold tupIdxD at h
  split at h
  · rename_i es z
    split at h
    · rename_i ys hy
      cases hj : idxS z ys with
      | none => rw [hj] at h; cases h
      | some j =>
        rw [hj] at h
        cases h
        obtain ⟨v, rfl, rv⟩ := r.one
        have ez := str_at rv
        subst ez
        obtain ⟨p, us, rfl, hp, rl⟩ := tup_at ok rx
        have e := strs_at rl hy
        subst e
        obtain ⟨h1, h2⟩ := idxS_ok hj
        exact ⟨p, ys, z, j, rfl, rfl, hp, h1, h2, ans ok k fun A G => .int _⟩
    · cases h
  · cases h
end
end TP
/-! TPgc: t[::k] of a tuple, xs.insert(0, x) of a list of the store, list(d) of a dict with tuple keys. -/
namespace TP
open PySem L2
section
open PySem.Spec PyProof.Rows HT
variable {prog : Program} {w : World} {A : Around} {E : Value → Shared → Prop} {s : Shared}
theorem adjust_rev (n : Nat) : Builtin.Slice.sliceAdjust none none (-1) (n : Int) = ((n : Int) - 1, -1) := rfl
theorem places_rev (n : Nat) : Builtin.Slice.slicePlaces ((n : Int) - 1) (-1) (-1) = n := by
  unfold Builtin.Slice.slicePlaces
  have h1 : ¬ ((-1 : Int) > 0) := by decide
  rw [if_neg h1, show (- -1 : Int) = 1 by decide]
  split
  · rw [Int.ediv_one]; omega
  · omega
theorem pick_rev (xs : Array Value) : ((List.range xs.size).filterMap fun (m : Nat) => xs[(((xs.size : Int) - 1) + (m : Int) * (-1)).toNat]?).toArray = xs.toList.reverse.toArray := by
  congr 1
  rw [← PySem.W.krv_all xs, ← List.filterMap_reverse, ← PySem.W.krv_range, List.filterMap_map]
  congr 1
  funext m
  have : (((xs.size : Int) - 1) + (m : Int) * (-1)).toNat = xs.size - 1 - m := by omega
  simp only [Function.comp_apply, this]
theorem sliceApplied_rev {sl : Addr} {vs : Value} {n : Nat} {Q : Int × Int × Nat → Shared → Prop} (hs : s.heap.IsSliceOf sl .none .none vs) (ps : IsPart vs (some (-1)))
    (h : Q ((n : Int) - 1, -1, n) s) : wpAny (model prog w) A (Builtin.Slice.sliceApplied (.ref sl) (pure (n : Int))) Q E s := by
  obtain ⟨os, hos, hcs, hds⟩ := id hs
  unfold Builtin.Slice.sliceApplied Builtin.Slice.sliceFields
  refine wpAny_bind (wpAny_bind (wpAny_field hos hds (x := .none) rfl (wpAny_bind (wpAny_field hos hds (x := .none) rfl (wpAny_bind (wpAny_field hos hds (x := vs) rfl (wpAny_pure ?_)))))))
  refine wpAny_bind (slicePart_ ps ?_)
  show wpAny _ _ (if ((-1 : Int) == 0) = true then _ else _) _ _ s
  rw [if_neg (by decide)]
  refine wpAny_bind (slicePart_none (wpAny_bind (slicePart_none (wpAny_bind (wpAny_pure ?_)))))
  show wpAny _ _ (pure ((n : Int) - 1, (-1 : Int), Builtin.Slice.slicePlaces ((n : Int) - 1) (-1) (-1))) _ _ s
  rw [places_rev]
  exact wpAny_pure h
theorem getItem_tuple_rev {t sl : Addr} {items : Array Value} {vs : Value} {Q : Value → Shared → Prop} (ht : IsTup s.heap t items) (hs : s.heap.IsSliceOf sl .none .none vs) (ps : IsPart vs (some (-1)))
    (h : Q (.ref s.heap.objs.size) { s with heap := s.heap.push { cls := .type "tuple", data := .seq items.toList.reverse.toArray } })
    (hsz : items.size ≤ sizeLine) : wpAny (model prog w) A (getItem (.ref t) (.ref sl)) Q E s := by
  have htake : sizeOk (.seq items.toList.reverse.toArray) := by
    show items.toList.reverse.toArray.size ≤ sizeLine
    rw [List.size_toArray, List.length_reverse, Array.length_toList]
    exact hsz
  obtain ⟨os, hos, hcs, hds⟩ := id hs
  have hTs : s.TypeIs (.ref sl) "slice" := ⟨os, hos, hcs⟩
  unfold getItem
  try with_reducible refine wpAny_holding ?_
  first | refine wpAny_bind (wpAny_pure ?_) | skip
  refine wpAny_bind (wpAny_sequenceKey ht.typeIs (by decide) ?_)
  refine wpAny_bind (wpAny_callSpecial?_slot (name := Str.ofString "__getitem__") ht.typeIs PyProof.Rows.slot_tuple_getitem
    (wpAny_call_entry PyProof.Rows.slot_tuple_getitem ht.typeIs entry_tuple_getitem ?_ (args_tuple_getitem _ _)))
  show wpAny _ _ (Builtin.Tuple.tupleItemsOf (.ref t) >>= _) _ _ s
  refine wpAny_bind (tupleItemsOf_ ht ?_)
  refine wpAny_bind (wpAny_typeOf hTs ?_)
  rw [if_pos (by decide)]
  refine wpAny_bind (sliceApplied_rev hs ps ?_)
  show wpAny _ _ (if ((((items.size : Int) - 1) == 0) && ((-1 : Int) == 1) && (items.size == items.size)) = true then _ else _) _ _ s
  rw [show ((((items.size : Int) - 1) == 0) && ((-1 : Int) == 1) && (items.size == items.size)) = false by simp, if_neg Bool.false_ne_true, pick_rev]
  first
    | exact wpAny_bind (m := Builtin.Tuple.tupleExact _) (wpAny_newObj_type (wpAny_pure ⟨_, rfl, wpAny_pure h⟩) htake)
    | exact wpAny_bind (m := Builtin.Tuple.tupleExact _) (wpAny_newObj_type (wpAny_bind (wpAny_pure (wpAny_pure ⟨_, rfl, wpAny_pure h⟩))) htake)
    | exact wpAny_bind (wpAny_bind (m := Builtin.Tuple.tupleExact _) (wpAny_newObj_type (wpAny_pure (wpAny_pure ⟨_, rfl, wpAny_pure h⟩)) htake))
    | exact wpAny_bind (wpAny_bind (m := Builtin.Tuple.tupleExact _) (wpAny_newObj_type (wpAny_pure ⟨_, rfl, wpAny_pure h⟩) htake))
theorem sliceApplied_one {sl : Addr} {vs : Value} {n : Nat} {Q : Int × Int × Nat → Shared → Prop} (hs : s.heap.IsSliceOf sl .none .none vs) (ps : IsPart vs (some 1))
    (h : Q (0, 1, n) s) : wpAny (model prog w) A (Builtin.Slice.sliceApplied (.ref sl) (pure (n : Int))) Q E s := by
  obtain ⟨os, hos, hcs, hds⟩ := id hs
  unfold Builtin.Slice.sliceApplied Builtin.Slice.sliceFields
  refine wpAny_bind (wpAny_bind (wpAny_field hos hds (x := .none) rfl (wpAny_bind (wpAny_field hos hds (x := .none) rfl (wpAny_bind (wpAny_field hos hds (x := vs) rfl (wpAny_pure ?_)))))))
  refine wpAny_bind (slicePart_ ps ?_)
  show wpAny _ _ (if ((1 : Int) == 0) = true then _ else _) _ _ s
  rw [if_neg (by decide)]
  refine wpAny_bind (slicePart_none (wpAny_bind (slicePart_none (wpAny_bind (wpAny_pure ?_)))))
  show wpAny _ _ (pure ((0 : Int), (1 : Int), Builtin.Slice.slicePlaces ((0 : Nat) : Int) (n : Int) 1)) _ _ s
  rw [places_gen]
  exact wpAny_pure h
theorem getItem_tuple_one {t sl : Addr} {items : Array Value} {vs : Value} {Q : Value → Shared → Prop} (ht : IsTup s.heap t items) (hs : s.heap.IsSliceOf sl .none .none vs) (ps : IsPart vs (some 1))
    (h : Q (.ref t) s) : wpAny (model prog w) A (getItem (.ref t) (.ref sl)) Q E s := by
  obtain ⟨os, hos, hcs, hds⟩ := id hs
  have hTs : s.TypeIs (.ref sl) "slice" := ⟨os, hos, hcs⟩
  unfold getItem
  try with_reducible refine wpAny_holding ?_
  first | refine wpAny_bind (wpAny_pure ?_) | skip
  refine wpAny_bind (wpAny_sequenceKey ht.typeIs (by decide) ?_)
  refine wpAny_bind (wpAny_callSpecial?_slot (name := Str.ofString "__getitem__") ht.typeIs PyProof.Rows.slot_tuple_getitem
    (wpAny_call_entry PyProof.Rows.slot_tuple_getitem ht.typeIs entry_tuple_getitem ?_ (args_tuple_getitem _ _)))
  show wpAny _ _ (Builtin.Tuple.tupleItemsOf (.ref t) >>= _) _ _ s
  refine wpAny_bind (tupleItemsOf_ ht ?_)
  refine wpAny_bind (wpAny_typeOf hTs ?_)
  rw [if_pos (by decide)]
  refine wpAny_bind (sliceApplied_one hs ps ?_)
  show wpAny _ _ (if (((0 : Int) == 0) && ((1 : Int) == 1) && (items.size == items.size)) = true then _ else _) _ _ s
  rw [if_pos (by simp)]
  refine wpAny_bind ?_
  show wpAny _ _ (typeOf (.ref t) >>= fun T => pure (T == .type "tuple")) _ _ s
  refine wpAny_bind (wpAny_typeOf ht.typeIs (wpAny_pure ?_))
  rw [if_pos (by decide)]
  first
    | exact wpAny_bind (wpAny_pure ⟨_, rfl, wpAny_pure h⟩)
    | exact wpAny_pure ⟨_, rfl, wpAny_pure h⟩
    | (wp_walk; exact ⟨_, rfl, wpAny_pure h⟩)
    | (wp_walk; exact ⟨_, rfl, h⟩)
end
/-! ### t[::k], k 1 or -1 -/
def tStepT (K : PySem.W.Frag) (te ts : TE) : TE := fun σ H Q => te σ H fun x H1 => tPart ts σ H1 fun o H2 => ∃ (a : Addr) (xs : List V) (k : Int), x = .ref a ∧ o = some k ∧ (k = 1 ∨ k = -1) ∧ SqT K H2 a xs ∧ (k = 1 → Q (.ref a) H2) ∧ (k = -1 → ∀ p, H2 p = none → Q (.ref p) (upd H2 p (.tup xs.reverse)))
section
variable {X : Cx} {e st : Expr} {te ts : TE}
open PySem.Spec PyProof.Rows in
theorem pe_stepT {p3 pos : Pos} (he : PE X e te) (hs : PE X st ts) : PE X (.Subscript e (.Slice none none (some st) p3) pos) (tStepT X.K te ts) := by
  refine ⟨fun pins s σ H Q I h => ?_⟩
  refine Subscript_ (thn (he.run pins s σ H _ I h) fun v s1 ⟨x, H1, I1, r1, q1⟩ => ?_)
  have hst : PO X (some st) (tPart ts) := po_some hs
  refine wpAny_Slice (thn (po_none.run pins s1 σ H1 (fun o H2 => o = none ∧ H2 = H1) I1 ⟨rfl, rfl⟩) fun vl s2 ⟨l, H2, I2, pl, el, e2⟩ => ?_)
  subst el e2
  refine thn (po_none.run pins s2 σ H2 (fun o H3 => o = none ∧ H3 = H2) I2 ⟨rfl, rfl⟩) fun vu s3 ⟨u, H3, I3, pu, eu, e3⟩ => ?_
  subst eu e3
  refine thn (hst.run pins s3 σ H3 _ I3 q1) fun vs s4 ⟨o, H4, I4, ps, a, xs, k, ex, eo, hk, hx, qa, qb⟩ => ?_
  subst ex eo
  cases r1
  cases pl
  cases pu
  have I5 : Inv X pins σ H4 { s4 with heap := s4.heap.push { cls := .type "slice", data := .fields #[.none, .none, vs] } } := I4.kept (t' := s4.toks) fun b ob q => Heap.get?_push_of_some _ q
  obtain ⟨its, r, ht, hz⟩ := I5.tuple hx
  have hlen := r.length
  show wpAny (model X.prog X.w) X.A (subscriptTail e (.Slice none none (some st) p3) (.ref a) (.ref s4.heap.objs.size)) (EP X pins σ Q) X.xe { s4 with heap := s4.heap.push { cls := .type "slice", data := .fields #[.none, .none, vs] } }
  refine tail_any (ops := [.ref a, .ref s4.heap.objs.size]) ht.typeIs (PyProof.Rows.slot_tuple_getitem.lookup) ?_ (by with_unfolding_all rfl)
  rcases hk with rfl | rfl
  · exact getItem_tuple_one ht (Heap.IsSliceOf.new _ .none .none vs) ps ⟨.ref a, H4, I5, rfl, qa rfl⟩
  · refine getItem_tuple_rev ht (Heap.IsSliceOf.new _ .none .none vs) ps ?_ (by rw [List.size_toArray]; omega)
    refine ⟨.ref _, _, I5.laid (t' := s4.toks) (o := .tup xs.reverse) (fun b ob q => Heap.get?_push_of_some _ q) (Nat.le_refl _) ?_, rfl, by simpa using qb rfl _ (I5.hok.fresh (Nat.le_refl _))⟩
    exact ⟨by rw [List.length_reverse]; exact hz, _, r.reverse, IsTup.new _ _⟩
end
section
variable {K : PySem.W.Frag} {E : Wish} {X : Cx} {e : Expr} {st : Stmt}
def dStepT (fe fs : FD) : FE := fun ρ M => (fe ρ M).bind fun x M => (fs ρ M).bind fun y M => match x with
  | .tup xs => match stepD xs y with
    | some zs => .ok (.val (.tup zs)) M
    | none => .bad
  | _ => .bad
theorem x_stepT {fe fs : FD} (h : PE X e (tStepT K (tR K E fe) (tR K E fs))) : PE X e (tE K E (dStepT fe fs)) := PE.wk h fun σ H Q ⟨ρ, w, e1, ok, sr, a⟩ =>
  ⟨ρ, w, e1, ok, sr, a.bind.imp fun x w1 s1 a1 v1 r1 => ⟨ρ, w1, rfl, s1.ok, sr.step s1, a1.bind.imp fun y w2 s2 a2 v2 r2 => by
    split at a2
    · rename_i xs
      split at a2
      · rename_i zs hz
        cases y with
        | int k =>
          have r1' := r1.step s2
          obtain ⟨p, vs, rfl, hp, rl⟩ := tup_at s2.ok r1'
          have e2 := int_at r2
          have a3 : ∀ w', Step K w2 w' → w'.M = w2.M → ∀ v, RepX K w w' v (.val (.tup zs)) → Q v w'.H := a2
          unfold stepD at hz
          simp only at hz
          have hk : k = 1 ∨ k = -1 := by
            by_cases h1 : k = 1
            · exact .inl h1
            · by_cases h2 : k = -1
              · exact .inr h2
              · rw [if_neg h1, if_neg h2] at hz; cases hz
          refine ⟨k, e2, p, vs, k, rfl, rfl, hk, hp, fun h1 => ?_, fun h1 n hn => ?_⟩
          · rw [if_pos h1] at hz; cases hz
            rcases r1' with r1' | ⟨_, _, _, _, e, _⟩
            · exact a3 w2 (Step.refl s2.ok) rfl _ r1'
            · cases e
          · rw [if_neg (by omega), if_pos h1] at hz; cases hz
            have s3 := s2.ok.fresh hn (.tup vs.reverse)
            exact a3 _ s3 rfl _ (.tup upd_same (s3.repL rl.reverse))
        | _ => cases hz
      · exact a2.elim
    · exact a2.elim⟩⟩
/-! ### xs.insert(0, e), xs a list of the store -/
def rIns : V → List V → Hp → VK → Prop := fun x vs H Q => ∃ (l : Addr) (xs : List V) (i : Int) (y : V), x = .ref l ∧ vs = [.int i, y] ∧ H l = some (.lst xs) ∧ xs.length < sizeLine ∧ 0 ≤ i ∧ i < 2 ^ 63 ∧
    Q .non (upd H l (.lst (xs.take i.toNat ++ [y] ++ xs.drop i.toNat)))
def sInsR (fo f : FD) : FS := fun ρ M => (fo ρ M).out fun x M => match x with
  | .ref k => match M[k]? with
    | some (.lst _) => (f ρ M).out fun y M => match M[k]? with
      | some (.lst ds) => if ds.length < sizeLine then .next ρ (M.set k (.lst (y :: ds))) else .bad
      | _ => .bad
    | _ => .bad
  | _ => .bad
theorem s_insR {fo f : FD} (h : PS X st (tDrop (tBM K "list" rIns (tR K E fo) (tCons (tC (.int 0)) (tCons (tF K E f) tNil))))) : PS X st (tS K E (sInsR fo f)) := PS.wk h fun D σ H ⟨ρ, w, w0, e1, s, sr, of, p⟩ =>
  ⟨ρ, w, e1, s.ok, sr, (out_after s p).imp fun x w1 s1 p1 vx rx => by
    split at p1
    · rename_i k
      split at p1
      · rename_i ds0 e0
        obtain ⟨q, rfl, ea⟩ := ref_at rx
        obtain ⟨q', ea', vs0, hH0, _⟩ := s1.ok.mos k _ e0
        rw [ea] at ea'
        cases ea'
        refine ⟨.inl ⟨rfl, vs0, .inl (.inl hH0)⟩, ρ, w1, rfl, s1.ok, sr.step s1, (out_after (s.trans s1) p1).imp fun y w2 s2 p2 vy ry => ?_⟩
        split at p2
        · rename_i ds e2
          split at p2
          · rename_i hz
            have ea2 : w2.A[k]? = some q := pre_get s2.pre ea
            obtain ⟨q', ea', vs, hH, rl⟩ := s2.ok.mos k _ e2
            rw [ea2] at ea'
            cases ea'
            refine ⟨q, vs, 0, vy, rfl, rfl, hH, by rw [rl.length]; exact hz, by decide, by decide, ?_⟩
            have st3 := s2.ok.put (o := .lst (y :: ds)) (ho := .lst (vy :: vs)) ea2 ⟨_, upd_same, .cons ry rl⟩
            exact p2 _ σ (((s.trans s1).trans s2).trans st3) st3.le rfl (((sr.step s1).step s2).step st3) of
          · exact p2.elim
        · exact p2.elim
      · exact p1.elim
    · exact p1.elim⟩
/-! ### list(d), d a dict with tuple keys -/
def keyT : Key → D
  | .inl i => .int i
  | .inr x => .str x
def keysT (kvs : List (List Key × D)) : List D := kvs.map fun kv => .tup (kv.1.map keyT)
def listTD (M : Store) (ds : List D) : Option Slot := match ds with
  | [.ref k] => match M[k]? with
    | some (.dT kvs) => some (.own (keysT kvs))
    | _ => listD M ds
  | _ => listD M ds
theorem keyT_rep {A : List Addr} {G : Hp} : ∀ ks : List Key, RepL K A G (ks.map kV) (ks.map keyT)
  | [] => .nil
  | .inl i :: ks => .cons (.int i) (keyT_rep ks)
  | .inr x :: ks => .cons (.str x) (keyT_rep ks)
theorem keysT_rep {R : V → D → Prop} {A : List Addr} {G H : Hp} : ∀ {vs : List (List Key × V)} {kvs : List (List Key × D)} {bs : List Addr}, RepKV R vs kvs → IsKeys H vs bs → (∀ b ∈ bs, ∀ o, H b = some o → G b = some o) → RepL K A G (bs.map V.ref) (keysT kvs)
  | _, _, _, .nil, .nil, _ => .nil
  | _, _, _, .cons r t, .cons h1 h2, hb => .cons (.tup (hb _ List.mem_cons_self _ h1) (keyT_rep _)) (keysT_rep t h2 fun b m => hb b (List.mem_cons_of_mem _ m))
theorem isKeys_at {H : Hp} : ∀ {vs : List (List Key × V)} {bs : List Addr}, IsKeys H vs bs → ∀ b ∈ bs, ∃ xs, H b = some (.tup xs)
  | _, _, .nil, b, m => by cases m
  | _, _, .cons h1 h2, b, m => by
    rcases List.mem_cons.mp m with rfl | m
    · exact ⟨_, h1⟩
    · exact isKeys_at h2 b m
open Classical in
/-- tuples that stand somewhere are frozen -/
theorem Wd.Ok.freezes {w : Wd} (h : w.Ok K) {bs : List Addr} (hb : ∀ b ∈ bs, ∃ xs, w.H b = some (.tup xs)) : Step K w ⟨w.A, fun b => if b ∈ bs then w.H b else w.G b, w.M, w.H⟩ := by
  have sG : Same w.G (fun b => if b ∈ bs then w.H b else w.G b) := fun b u e => by
    by_cases m : b ∈ bs
    · show (if b ∈ bs then w.H b else w.G b) = some u
      rw [if_pos m]; exact h.sub _ _ e
    · show (if b ∈ bs then w.H b else w.G b) = some u
      rw [if_neg m]; exact e
  have notA : ∀ a ∈ w.A, a ∉ bs := fun a ha m => by
    obtain ⟨xs, e⟩ := hb a m
    obtain ⟨k, hk, e2⟩ := List.mem_iff_getElem.mp ha
    have hk' : k < w.M.length := by rw [← h.len]; exact hk
    obtain ⟨a', ea, r⟩ := h.mos k w.M[k] (List.getElem?_eq_getElem hk')
    have e3 : a' = a := by
      rw [List.getElem?_eq_getElem hk] at ea
      exact (Option.some.inj ea).symm.trans e2
    subst e3
    cases q : w.M[k] with
    | lst ds => rw [q] at r; obtain ⟨_, z, _⟩ := r; rw [e] at z; cases z
    | dK ds => rw [q] at r; obtain ⟨_, z, _⟩ := r; rw [e] at z; cases z
    | dT ds => rw [q] at r; obtain ⟨_, z, _⟩ := r; rw [e] at z; cases z
    | ins c fs => rw [q] at r; obtain ⟨_, _, _, z, _⟩ := r; rw [e] at z; cases z
  have rr : ∀ v d, Rep K w.A w.G v d → Rep K w.A (fun b => if b ∈ bs then w.H b else w.G b) v d := fun v d => Rep.mono (List.prefix_refl _) sG d v
  refine ⟨⟨fun b u e => ?_, h.nd, h.len, fun a ha => ?_, fun k m e => ?_⟩, List.prefix_refl _, sG, fun p o h1 h2 h3 => ⟨h1, ?_, h3⟩⟩
  · have e' : (if b ∈ bs then w.H b else w.G b) = some u := e
    by_cases m : b ∈ bs
    · rw [if_pos m] at e'; exact e'
    · rw [if_neg m] at e'; exact h.sub _ _ e'
  · show (if a ∈ bs then w.H a else w.G a) = none
    rw [if_neg (notA a ha)]; exact h.out a ha
  · obtain ⟨a, ea, r⟩ := h.mos k m e
    refine ⟨a, ea, ?_⟩
    cases m with
    | lst ds => obtain ⟨vs, z, q⟩ := r; exact ⟨vs, z, RepL.mono (List.prefix_refl _) sG _ _ q⟩
    | dK ds => obtain ⟨vs, z, q⟩ := r; exact ⟨vs, z, q.imp rr⟩
    | dT ds => obtain ⟨vs, z, q⟩ := r; exact ⟨vs, z, q.imp rr⟩
    | ins c fs => obtain ⟨io, vs, dx, z, q⟩ := r; exact ⟨io, vs, dx, z, q.imp rr⟩
  · by_cases m : p ∈ bs
    · obtain ⟨xs, e⟩ := hb p m
      rw [h1] at e
      exact .inr ⟨xs, Option.some.inj e⟩
    · refine .inl ?_
      show (if p ∈ bs then w.H p else w.G p) = none
      rw [if_neg m]; exact h2
theorem p_listT : PrimN K (fun xs H Q => (∃ p ys, xs = [.ref p] ∧ (SqL K H p ys ∨ SqT K H p ys) ∧ ∀ l, H l = none → Q (.ref l) (upd H l (.lst ys))) ∨
    ∃ d kvs, xs = [V.ref d] ∧ Rd H d (.dT kvs) ∧ ∀ p bs, H p = none → IsKeys H kvs bs → Q (.ref p) (upd H p (.lst (bs.map V.ref)))) listTD := by
  intro w vs ds s Q ok rl h k
  by_cases hc : ∃ j kvs, ds = [.ref j] ∧ w.M[j]? = some (.dT kvs)
  · obtain ⟨j, kvs, rfl, e⟩ := hc
    have h' : some (Slot.own (keysT kvs)) = some s := by
      rw [← h]; unfold listTD; simp only [e]
    cases h'
    obtain ⟨v, rfl, rv⟩ := rl.one
    obtain ⟨a, rfl, ea⟩ := ref_at rv
    obtain ⟨a', ea', us, hH, rk⟩ := ok.mos j _ e
    rw [ea] at ea'; cases ea'
    refine .inr ⟨a, us, rfl, .inl hH, fun p bs hp hk => ?_⟩
    have s1 := ok.freezes (isKeys_at hk)
    have s2 := s1.trans (s1.ok.fresh0 hp (.lst (bs.map V.ref)))
    refine k _ _ s2 rfl (own_new s1 hp ?_)
    exact keysT_rep rk hk fun b m o e => by
      show (if b ∈ bs then w.H b else w.G b) = some o
      rw [if_pos m]; exact e
  · have h' : listD w.M ds = some s := by
      rw [← h]; unfold listTD
      split
      · split
        · rename_i j kvs e; exact absurd ⟨_, _, rfl, e⟩ hc
        · rfl
      · rfl
    exact .inl (p_list w vs ds s Q ok rl h' k)
variable {ρ : EnvD} {M : Store}
@[simp] theorem dStepT_eq (fe fs : FD) : dStepT fe fs ρ M = (fe ρ M).bind fun x M => (fs ρ M).bind fun y M => match x with
  | .tup xs => match stepD xs y with
    | some zs => .ok (.val (.tup zs)) M
    | none => .bad
  | _ => .bad := rfl
@[simp] theorem sInsR_eq (fo f : FD) : sInsR fo f ρ M = (fo ρ M).out fun x M => match x with
  | .ref k => match M[k]? with
    | some (.lst _) => (f ρ M).out fun y M => match M[k]? with
      | some (.lst ds) => if ds.length < sizeLine then .next ρ (M.set k (.lst (y :: ds))) else .bad
      | _ => .bad
    | _ => .bad
  | _ => .bad := rfl
end
end TP
/-! TPx: the expressions of a program, plain. -/
namespace TP
open PySem L2
inductive Ex where
  | num (n : Int)
  | use (x : Str)
  | op (s : Str) (a b : Ex)
  | lt (x : Str) (a b : Ex)
  | ite (a b c : Ex)
  | times (a : Ex) (i s : Str) (b c : Ex)
  | tell (a b : Ex)
  | stop (a : Ex)
  | call (m f : Str) (as : List Ex)
namespace Ex
mutual
def toD : Ex → D
  | num n => .tup [.str "num", .int n]
  | use x => .tup [.str "use", .str x]
  | op s a b => .tup [.str "op", .str s, toD a, toD b]
  | lt x a b => .tup [.str "let", .str x, toD a, toD b]
  | ite a b c => .tup [.str "if", toD a, toD b, toD c]
  | times a i s b c => .tup [.str "times", toD a, .str i, .str s, toD b, toD c]
  | tell a b => .tup [.str "tell", toD a, toD b]
  | stop a => .tup [.str "stop", toD a]
  | call m f as => .tup [.str "call", .str m, .str f, .tup (toDs as)]
def toDs : List Ex → List D
  | [] => []
  | e :: es => toD e :: toDs es
end
def parts : Ex → List Ex
  | num _ => []
  | use _ => []
  | op _ a b => [a, b]
  | lt _ a b => [a, b]
  | ite a b c => [a, b, c]
  | times a _ _ b c => [a, b, c]
  | tell a b => [a, b]
  | stop a => [a]
  | call _ _ as => as
mutual
def dep : Ex → Nat
  | num _ => 0
  | use _ => 0
  | op _ a b => max (dep a) (dep b) + 1
  | lt _ a b => max (dep a) (dep b) + 1
  | ite a b c => max (dep a) (max (dep b) (dep c)) + 1
  | times a _ _ b c => max (dep a) (max (dep b) (dep c)) + 1
  | tell a b => max (dep a) (dep b) + 1
  | stop a => dep a + 1
  | call _ _ as => deps as + 1
def deps : List Ex → Nat
  | [] => 0
  | e :: es => max (dep e) (deps es)
end
theorem toDs_eq : ∀ es : List Ex, toDs es = es.map toD
  | [] => rfl
  | e :: es => by rw [toDs, toDs_eq es, List.map_cons]
theorem deps_mem : ∀ {es : List Ex} {e : Ex}, e ∈ es → dep e ≤ deps es
  | e' :: es, e, h => by
    rw [deps]
    rcases List.mem_cons.mp h with rfl | h
    · omega
    · have := deps_mem h; omega
theorem parts_dep {e p : Ex} (h : p ∈ parts e) : dep p < dep e := by
  cases e <;> simp only [parts, List.mem_cons, List.not_mem_nil, or_false] at h <;> simp only [dep]
  case op => rcases h with rfl | rfl <;> omega
  case lt => rcases h with rfl | rfl <;> omega
  case ite => rcases h with rfl | rfl | rfl <;> omega
  case times => rcases h with rfl | rfl | rfl <;> omega
  case tell => rcases h with rfl | rfl <;> omega
  case stop => subst h; omega
  case call => have := deps_mem h; omega
end Ex
@[simp] theorem ix0 {x : D} {xs : List D} : atI (x :: xs) 0 = some x := atI_nat (j := 0) rfl
@[simp] theorem ix1 {x y : D} {xs : List D} : atI (x :: y :: xs) 1 = some y := atI_nat (j := 1) rfl
@[simp] theorem ix2 {x y z : D} {xs : List D} : atI (x :: y :: z :: xs) 2 = some z := atI_nat (j := 2) rfl
@[simp] theorem ix3 {x y z u : D} {xs : List D} : atI (x :: y :: z :: u :: xs) 3 = some u := atI_nat (j := 3) rfl
@[simp] theorem ix4 {x y z u v : D} {xs : List D} : atI (x :: y :: z :: u :: v :: xs) 4 = some v := atI_nat (j := 4) rfl
@[simp] theorem ix5 {x y z u v a : D} {xs : List D} : atI (x :: y :: z :: u :: v :: a :: xs) 5 = some a := atI_nat (j := 5) rfl
theorem atI_mem {α : Type} {xs : List α} {i : Int} (h0 : 0 ≤ i) (h1 : i < xs.length) : ∃ v, v ∈ xs ∧ atI xs i = some v := by
  have hi : i.toNat < xs.length := by omega
  have e : ((i.toNat : Nat) : Int) = i := by omega
  generalize i.toNat = j at hi e
  subst e
  exact ⟨xs[j], List.getElem_mem hi, atI_nat (List.getElem?_eq_getElem hi)⟩
theorem atI_map {α β : Type} (f : α → β) (xs : List α) (i : Int) : atI (xs.map f) i = (atI xs i).map f := by
  unfold atI
  rw [List.length_map]
  cases ixN xs.length i with
  | none => rfl
  | some j => simp
theorem set_set {M : Store} {j : Nat} {a b : MO} : (M.set j a).set j b = M.set j b := List.set_set ..
theorem get_set {M : Store} {j : Nat} {a b : MO} (h : M[j]? = some a) : (M.set j b)[j]? = some b := List.getElem?_set_self (List.getElem?_eq_some_iff.mp h).1
theorem get_app {M M' : Store} {j : Nat} {a : MO} (h : M[j]? = some a) : (M ++ M')[j]? = some a := by
  rw [List.getElem?_append_left (List.getElem?_eq_some_iff.mp h).1]; exact h
theorem set_self {M : Store} {j : Nat} {a : MO} (h : M[j]? = some a) : M.set j a = M := by
  apply List.ext_getElem?
  intro i
  by_cases hi : j = i
  · subst hi; rw [get_set h, h]
  · rw [List.getElem?_set_ne hi]
theorem at_end (M : Store) (o : MO) : (M ++ [o])[M.length]? = some o := by
  rw [List.getElem?_append_right (Nat.le_refl _), Nat.sub_self]; rfl
theorem set_end (M : Store) (o p : MO) : (M ++ [o]).set M.length p = M ++ [p] := by
  rw [List.set_append_right _ _ (Nat.le_refl _), Nat.sub_self]; rfl
/-- of two words that are written out -/
theorem eqW {s t : Str} {b : Bool} (h : (okStr s && okStr t && (decide (s = t) == b)) = true) (M : Store) : eqD M (.str s) (.str t) = some (.val (.bl b)) := by
  simp only [Bool.and_eq_true, beq_iff_eq] at h
  rw [eqD_str M h.1.1 h.1.2, h.2]
end TP
/-! TPy: drawn expressions, plain. -/
namespace TP
open PySem L2
def signs : List Str := ["+", "-", "*", "=", "<", "/", "&"]
namespace Ex
mutual
/-- well formed: numbers, names, binders and calls as drawn -/
def Wf (nm : Str → Prop) (ah : Str → Str → Nat → Prop) : List Str → Ex → Prop
  | sc, num n => -(10 ^ 30) ≤ n ∧ n ≤ 10 ^ 30
  | sc, use x => x ∈ sc
  | sc, op s a b => s ∈ signs ∧ Wf nm ah sc a ∧ Wf nm ah sc b
  | sc, lt x a b => nm x ∧ Wf nm ah sc a ∧ Wf nm ah (x :: sc) b
  | sc, ite a b c => Wf nm ah sc a ∧ Wf nm ah sc b ∧ Wf nm ah sc c
  | sc, times a i s b c => nm i ∧ nm s ∧ i ≠ s ∧ Wf nm ah sc a ∧ Wf nm ah sc b ∧ Wf nm ah (i :: s :: sc) c
  | sc, tell a b => Wf nm ah sc a ∧ Wf nm ah sc b
  | sc, stop a => Wf nm ah sc a
  | sc, call m f as => ah m f as.length ∧ Wfs nm ah sc as
def Wfs (nm : Str → Prop) (ah : Str → Str → Nat → Prop) : List Str → List Ex → Prop
  | sc, [] => True
  | sc, e :: es => Wf nm ah sc e ∧ Wfs nm ah sc es
end
mutual
theorem Wf.mono {nm : Str → Prop} {ah ah' : Str → Str → Nat → Prop} (ha : ∀ m f n, ah m f n → ah' m f n) : ∀ (e : Ex) (sc sc' : List Str), (∀ x, x ∈ sc → x ∈ sc') → Wf nm ah sc e → Wf nm ah' sc' e
  | num n, _, _, _, h => by rw [Wf] at *; exact h
  | use x, _, _, hs, h => by rw [Wf] at *; exact hs _ h
  | op s a b, sc, sc', hs, h => by rw [Wf] at *; exact ⟨h.1, Wf.mono ha a _ _ hs h.2.1, Wf.mono ha b _ _ hs h.2.2⟩
  | lt x a b, sc, sc', hs, h => by
    rw [Wf] at *
    refine ⟨h.1, Wf.mono ha a _ _ hs h.2.1, Wf.mono ha b _ _ (fun y hy => ?_) h.2.2⟩
    rcases List.mem_cons.mp hy with rfl | hy
    · exact List.mem_cons_self
    · exact List.mem_cons_of_mem _ (hs _ hy)
  | ite a b c, sc, sc', hs, h => by rw [Wf] at *; exact ⟨Wf.mono ha a _ _ hs h.1, Wf.mono ha b _ _ hs h.2.1, Wf.mono ha c _ _ hs h.2.2⟩
  | times a i s b c, sc, sc', hs, h => by
    rw [Wf] at *
    refine ⟨h.1, h.2.1, h.2.2.1, Wf.mono ha a _ _ hs h.2.2.2.1, Wf.mono ha b _ _ hs h.2.2.2.2.1, Wf.mono ha c _ _ (fun y hy => ?_) h.2.2.2.2.2⟩
    rcases List.mem_cons.mp hy with rfl | hy
    · exact List.mem_cons_self
    · rcases List.mem_cons.mp hy with rfl | hy
      · exact List.mem_cons_of_mem _ List.mem_cons_self
      · exact List.mem_cons_of_mem _ (List.mem_cons_of_mem _ (hs _ hy))
  | tell a b, sc, sc', hs, h => by rw [Wf] at *; exact ⟨Wf.mono ha a _ _ hs h.1, Wf.mono ha b _ _ hs h.2⟩
  | stop a, sc, sc', hs, h => by rw [Wf] at *; exact Wf.mono ha a _ _ hs h
  | call m f as, sc, sc', hs, h => by rw [Wf] at *; exact ⟨ha _ _ _ h.1, Wfs.mono ha as _ _ hs h.2⟩
theorem Wfs.mono {nm : Str → Prop} {ah ah' : Str → Str → Nat → Prop} (ha : ∀ m f n, ah m f n → ah' m f n) : ∀ (es : List Ex) (sc sc' : List Str), (∀ x, x ∈ sc → x ∈ sc') → Wfs nm ah sc es → Wfs nm ah' sc' es
  | [], _, _, _, h => by rw [Wfs]; trivial
  | e :: es, sc, sc', hs, h => by rw [Wfs] at *; exact ⟨Wf.mono ha e _ _ hs h.1, Wfs.mono ha es _ _ hs h.2⟩
end
end Ex
/-! ### the names -/
def pools : List (List Str) := [["q", "z", "b", "m", "x", "k", "c", "w", "h", "v", "j", "p", "g", "y", "l", "d"],
  ["nqor", "nzor", "nbor", "nmor", "nxor", "nkor", "ncor", "nwor", "nhor", "nvor", "njor", "npor", "ngor", "nyor", "nlor", "ndor"],
  ["g", "gr", "gra", "grap", "graph", "graphi", "graphit", "graphite", "s", "sa", "san", "sand", "sandw", "sandwi", "sandwic", "sandwich"]]
def pool (n : Int) : List Str := (atI pools (n % 3)).getD []
def spotAt (n k : Int) : Int := (n / 3 + (2 * (n / 48 % 8) + 1) * k) % 16
def nameAt (n k : Int) : Str := (atI (pool n) (spotAt n k)).getD ""
def namesL (n : Int) : List Str := (List.range 16).map fun k => nameAt n (k : Nat)
theorem pool_mem (n : Int) : pool n ∈ pools ∧ atI pools (n % 3) = some (pool n) := by
  obtain ⟨p, hp, ha⟩ := atI_mem (xs := pools) (i := n % 3) (by omega) (by show _ < (3 : Int); omega)
  unfold pool
  rw [ha]
  exact ⟨hp, rfl⟩
theorem pool_len (n : Int) : (pool n).length = 16 := by
  have h : pools.all (fun p => p.length == 16) = true := by decide +kernel
  simpa using List.all_eq_true.mp h _ (pool_mem n).1
theorem nameAt_mem (n k : Int) : nameAt n k ∈ pool n ∧ atI (pool n) (spotAt n k) = some (nameAt n k) := by
  obtain ⟨p, hp, ha⟩ := atI_mem (xs := pool n) (i := spotAt n k) (by unfold spotAt; omega) (by rw [pool_len]; unfold spotAt; omega)
  unfold nameAt
  rw [ha]
  exact ⟨hp, rfl⟩
theorem pools_ok : pools.all (fun p => p.all fun x => okStr x && decide (x.length ≤ 8)) = true := by decide +kernel
theorem nameAt_ok (n k : Int) : okStr (nameAt n k) = true := by
  have := List.all_eq_true.mp (List.all_eq_true.mp pools_ok _ (pool_mem n).1) _ (nameAt_mem n k).1
  simp only [Bool.and_eq_true] at this
  exact this.1
theorem namesL_len (n : Int) : (namesL n).length = 16 := by unfold namesL; rw [List.length_map, List.length_range]
theorem namesL_ok {n : Int} {x : Str} (h : x ∈ namesL n) : okStr x = true := by
  unfold namesL at h
  obtain ⟨k, _, rfl⟩ := List.mem_map.mp h
  exact nameAt_ok _ _
theorem namesL_at {n i : Int} (h0 : 0 ≤ i) (h1 : i < 16) : atI ((namesL n).map D.str) i = some (.str (nameAt n i)) := by
  have e : ((i.toNat : Nat) : Int) = i := by omega
  have hi : i.toNat < 16 := by omega
  generalize i.toNat = j at e hi
  subst e
  refine atI_nat ?_
  unfold namesL
  rw [List.getElem?_map, List.getElem?_map, List.getElem?_range hi]
  rfl
theorem nameAt_names {n i : Int} (h0 : 0 ≤ i) (h1 : i < 16) : nameAt n i ∈ namesL n := by
  unfold namesL
  refine List.mem_map.mpr ⟨i.toNat, List.mem_range.mpr (by omega), ?_⟩
  rw [show ((i.toNat : Nat) : Int) = i by omega]
theorem lcGo_fmap {α : Type} {b : D → EnvD → Option EnvD} {c : FB} {f : FD} {ρ0 : EnvD} {M : Store} (t : α → D) (p : α → Bool) (g : α → D) : ∀ (xs : List α) (acc : List D),
    (∀ x ∈ xs, ∃ ρ1, b (t x) ρ0 = some ρ1 ∧ c ρ1 M = .ok (p x) M ∧ (p x = true → f ρ1 M = .ok (g x) M)) → acc.length + xs.length ≤ sizeLine → lcGo b c f ρ0 (xs.map t) acc M = .ok (acc ++ (xs.filter p).map g) M
  | [], acc, _, _ => by simp [lcGo]
  | x :: xs, acc, h, hl => by
    obtain ⟨ρ1, h1, h2, h3⟩ := h x List.mem_cons_self
    rw [List.map_cons]
    unfold lcGo
    rw [h1]
    simp only
    rw [h2]
    rw [List.length_cons] at hl
    cases hp : p x with
    | false =>
      simp only
      rw [lcGo_fmap t p g xs acc (fun y hy => h y (List.mem_cons_of_mem _ hy)) (by omega), List.filter_cons_of_neg (by rw [hp]; decide)]
    | true =>
      simp only
      rw [h3 hp]
      simp only
      rw [if_pos (by omega), lcGo_fmap t p g xs (acc ++ [g x]) (fun y hy => h y (List.mem_cons_of_mem _ hy)) (by rw [List.length_append, List.length_singleton]; omega), List.filter_cons_of_pos hp, List.map_cons, List.append_assoc]
      rfl
namespace Ex
mutual
/-- how many expressions -/
def cnt : Ex → Nat
  | num _ => 1
  | use _ => 1
  | op _ a b => cnt a + cnt b + 1
  | lt _ a b => cnt a + cnt b + 1
  | ite a b c => cnt a + cnt b + cnt c + 1
  | times a _ _ b c => cnt a + cnt b + cnt c + 1
  | tell a b => cnt a + cnt b + 1
  | stop a => cnt a + 1
  | call _ _ as => cnts as + 1
def cnts : List Ex → Nat
  | [] => 0
  | e :: es => cnt e + cnts es
end
theorem cnts_le {n : Nat} : ∀ {es : List Ex}, (∀ e ∈ es, cnt e ≤ n) → cnts es ≤ es.length * n
  | [], _ => by rw [cnts]; omega
  | e :: es, h => by
    have h1 := h e List.mem_cons_self
    have h2 := cnts_le (es := es) fun x hx => h x (List.mem_cons_of_mem _ hx)
    rw [cnts, List.length_cons, Nat.succ_mul]
    omega
theorem Wfs_of {nm : Str → Prop} {ah : Str → Str → Nat → Prop} {sc : List Str} : ∀ {es : List Ex}, (∀ e ∈ es, Wf nm ah sc e) → Wfs nm ah sc es
  | [], _ => by rw [Wfs]; trivial
  | e :: es, h => by rw [Wfs]; exact ⟨h e List.mem_cons_self, Wfs_of fun x hx => h x (List.mem_cons_of_mem _ hx)⟩
theorem Wfs_mem {nm : Str → Prop} {ah : Str → Str → Nat → Prop} {sc : List Str} : ∀ {es : List Ex} {e : Ex}, Wfs nm ah sc es → e ∈ es → Wf nm ah sc e
  | e' :: es, e, h, hm => by
    rw [Wfs] at h
    rcases List.mem_cons.mp hm with rfl | hm
    · exact h.1
    · exact Wfs_mem h.2 hm
theorem deps_le {n : Nat} : ∀ {es : List Ex}, (∀ e ∈ es, dep e ≤ n) → deps es ≤ n
  | [], _ => by rw [deps]; omega
  | e :: es, h => by
    have h1 := h e List.mem_cons_self
    have h2 := deps_le (es := es) fun x hx => h x (List.mem_cons_of_mem _ hx)
    rw [deps]
    omega
end Ex
theorem spot_inj {n i j : Int} (hi : 0 ≤ i) (hi2 : i < 16) (hj : 0 ≤ j) (hj2 : j < 16) (h : spotAt n i = spotAt n j) : i = j := by
  unfold spotAt at h
  have hb : n / 48 % 8 = 0 ∨ n / 48 % 8 = 1 ∨ n / 48 % 8 = 2 ∨ n / 48 % 8 = 3 ∨ n / 48 % 8 = 4 ∨ n / 48 % 8 = 5 ∨ n / 48 % 8 = 6 ∨ n / 48 % 8 = 7 := by omega
  generalize n / 3 = x at h
  rcases hb with hb | hb | hb | hb | hb | hb | hb | hb <;> rw [hb] at h <;> omega
theorem pools_nodup : pools.all (fun p => decide p.Nodup) = true := by decide +kernel
theorem atI_inj {α : Type} {xs : List α} (hn : xs.Nodup) {i j : Int} (hi : 0 ≤ i) (hi2 : i < xs.length) (hj : 0 ≤ j) (hj2 : j < xs.length) (h : atI xs i = atI xs j) : i = j := by
  have ei : ((i.toNat : Nat) : Int) = i := by omega
  have ej : ((j.toNat : Nat) : Int) = j := by omega
  have li : i.toNat < xs.length := by omega
  have lj : j.toNat < xs.length := by omega
  generalize i.toNat = a at ei li
  generalize j.toNat = b at ej lj
  subst ei ej
  rw [atI_nat (List.getElem?_eq_getElem li), atI_nat (List.getElem?_eq_getElem lj)] at h
  have := (List.getElem_inj hn).mp (Option.some.inj h)
  omega
theorem nameAt_inj {n i j : Int} (hi : 0 ≤ i) (hi2 : i < 16) (hj : 0 ≤ j) (hj2 : j < 16) (h : nameAt n i = nameAt n j) : i = j := by
  have h1 := (nameAt_mem n i).2
  have h2 := (nameAt_mem n j).2
  rw [h, ← h2] at h1
  have hn : (pool n).Nodup := by simpa using List.all_eq_true.mp pools_nodup _ (pool_mem n).1
  refine spot_inj hi hi2 hj hj2 (atI_inj hn ?_ ?_ ?_ ?_ h1) <;> (try rw [pool_len]) <;> unfold spotAt <;> omega
end TP
/-! TPz: programs, plain. -/
namespace TP
open PySem L2
structure Row where
  f : Str
  ps : List Str
  b : Ex
def Row.toD (r : Row) : D := .tup [.str r.f, .tup (r.ps.map .str), r.b.toD]
abbrev Pr := List (Str × List Row)
def rmD (m : Str × List Row) : D := .tup [.str m.1, .tup (m.2.map Row.toD)]
def pgD (P : Pr) : D := .tup (P.map rmD)
def flat : Pr → List (Str × Row)
  | [] => []
  | (m, rs) :: P => rs.map (fun r => (m, r)) ++ flat P
theorem itemsD_lst (ds : List D) : itemsD (.lst ds) = some ds := rfl
theorem itemsD_tup (ds : List D) : itemsD (.tup ds) = some ds := rfl
theorem itemsD_fro (ds : List D) : itemsD (.fro ds) = some ds := rfl
theorem itemsD_kt (ds : List D) : itemsD (.kt ds) = some ds := rfl
theorem itemsD_pg (P : Pr) : itemsD (pgD P) = some (P.map rmD) := rfl
theorem flat_append : ∀ (P Q : Pr), flat (P ++ Q) = flat P ++ flat Q
  | [], Q => rfl
  | (m, rs) :: P, Q => by rw [List.cons_append, flat, flat, flat_append P Q, List.append_assoc]
def fnD (x : Str × Row) : D := .tup [.str x.1, .str x.2.f, .tup (x.2.ps.map .str), x.2.b.toD]
theorem row_add (M : Store) (m : Str) (r : Row) : addD M (.tup [.str m]) r.toD = some (.val (fnD (m, r))) := by simp [Row.toD, addD, fnD]
/-- the functions of a row, with how many params -/
def rowP (xs : List (Str × Row)) (m f : Str) (k : Nat) : Prop := ∃ x ∈ xs, x.1 = m ∧ x.2.f = f ∧ x.2.ps.length = k
/-- one function behind others, as drawn -/
structure RowWf (n : Int) (pre : List (Str × Row)) (x : Str × Row) : Prop where
  nd : x.2.ps.Nodup
  len : x.2.ps.length ≤ 5
  ps : ∀ y ∈ x.2.ps, y ∈ namesL n
  wf : Ex.Wf (· ∈ namesL n) (rowP pre) x.2.ps x.2.b
  dep : x.2.b.dep ≤ 5
  cnt : x.2.b.cnt ≤ 7776
  m : x.1 ∈ namesL (n / 7)
  f : x.2.f ∈ namesL (n / 7)
/-- all functions, one behind the other -/
def RowsWf (n : Int) : List (Str × Row) → List (Str × Row) → Prop
  | _, [] => True
  | pre, x :: xs => RowWf n pre x ∧ RowsWf n (pre ++ [x]) xs
theorem RowsWf.snoc {n : Int} {x : Str × Row} : ∀ {xs pre : List (Str × Row)}, RowsWf n pre xs → RowWf n (pre ++ xs) x → RowsWf n pre (xs ++ [x])
  | [], pre, _, h => by
    rw [List.append_nil] at h
    exact ⟨h, True.intro⟩
  | y :: xs, pre, h, hx => by
    refine ⟨h.1, RowsWf.snoc h.2 ?_⟩
    rw [List.append_assoc]
    exact hx
theorem RowWf.mono {n : Int} {pre pre' : List (Str × Row)} {x : Str × Row} (h : RowWf n pre x) (hp : ∀ y ∈ pre, y ∈ pre') : RowWf n pre' x :=
  ⟨h.nd, h.len, h.ps, Ex.Wf.mono (fun m f k ⟨y, hy, e⟩ => ⟨y, hp y hy, e⟩) _ _ _ (fun _ z => z) h.wf, h.dep, h.cnt, h.m, h.f⟩
theorem RowsWf.mem {n : Int} {x : Str × Row} : ∀ {xs pre : List (Str × Row)}, RowsWf n pre xs → x ∈ xs → RowWf n (pre ++ xs) x
  | y :: xs, pre, h, hm => by
    rcases List.mem_cons.mp hm with rfl | hm
    · exact h.1.mono fun z hz => List.mem_append_left _ hz
    · have := RowsWf.mem h.2 hm
      rw [List.append_assoc] at this
      exact this
/-- a drawn program -/
structure PrWf (n : Int) (most : Nat) (P : Pr) : Prop where
  rows : RowsWf n [] (flat P)
  mods : (P.map (·.1)).Nodup
  names : ∀ q ∈ P, (q.2.map Row.f).Nodup ∧ q.1 ∈ namesL (n / 7)
  len : P.length ≤ 3
  each : ∀ q ∈ P, q.2.length ≤ max 1 most
  one : ∃ q Q, P = q :: Q ∧ q.2 ≠ []
theorem flat_len {k : Nat} : ∀ {P : Pr}, (∀ q ∈ P, q.2.length ≤ k) → (flat P).length ≤ P.length * k
  | [], _ => by rw [flat]; exact Nat.zero_le _
  | (m, rs) :: P, h => by
    have h1 : rs.length ≤ k := h (m, rs) List.mem_cons_self
    have h2 := flat_len (P := P) fun q hq => h q (List.mem_cons_of_mem _ hq)
    rw [flat, List.length_append, List.length_map, List.length_cons, Nat.succ_mul]
    omega
theorem set_app {M X : Store} {j : Nat} {o : MO} (h : j < M.length) : (M ++ X).set j o = M.set j o ++ X := by
  rw [List.set_append_left _ _ h]
namespace Ex
/-- where the parts stand in the tuple, but a call's -/
def spots : Ex → List Int
  | num _ => []
  | use _ => []
  | op _ _ _ => [2, 3]
  | lt _ _ _ => [2, 3]
  | ite _ _ _ => [1, 2, 3]
  | times _ _ _ _ _ => [1, 4, 5]
  | tell _ _ => [1, 2]
  | stop _ => [1]
  | call _ _ _ => []
mutual
/-- the rows of numbers of all parts -/
def rows : Ex → List (List Nat)
  | num _ => [[]]
  | use _ => [[]]
  | op _ a b => [] :: ((rows a).map (0 :: ·) ++ ((rows b).map (1 :: ·) ++ []))
  | lt _ a b => [] :: ((rows a).map (0 :: ·) ++ ((rows b).map (1 :: ·) ++ []))
  | ite a b c => [] :: ((rows a).map (0 :: ·) ++ ((rows b).map (1 :: ·) ++ ((rows c).map (2 :: ·) ++ [])))
  | times a _ _ b c => [] :: ((rows a).map (0 :: ·) ++ ((rows b).map (1 :: ·) ++ ((rows c).map (2 :: ·) ++ [])))
  | tell a b => [] :: ((rows a).map (0 :: ·) ++ ((rows b).map (1 :: ·) ++ []))
  | stop a => [] :: ((rows a).map (0 :: ·) ++ [])
  | call _ _ as => [] :: rowsL 0 as
def rowsL : Nat → List Ex → List (List Nat)
  | _, [] => []
  | k, e :: es => (rows e).map (k :: ·) ++ rowsL (k + 1) es
end
theorem rows_eq (e : Ex) : rows e = [] :: rowsL 0 e.parts := by
  cases e <;> simp [rows, rowsL, parts]
/-- the expression at a row -/
def sub : Ex → List Nat → Option Ex
  | e, [] => some e
  | e, i :: r => match e.parts[i]? with
    | some p => sub p r
    | none => none
theorem rowsL_sub : ∀ {es : List Ex} {k : Nat} {r : List Nat}, r ∈ rowsL k es → ∃ (i : Nat) (p : Ex) (r' : List Nat), r = (k + i) :: r' ∧ es[i]? = some p ∧ r' ∈ rows p
  | e :: es, k, r, h => by
    rw [rowsL] at h
    rcases List.mem_append.mp h with h | h
    · obtain ⟨r', hr, rfl⟩ := List.mem_map.mp h
      exact ⟨0, e, r', rfl, rfl, hr⟩
    · obtain ⟨i, p, r', rfl, h1, h2⟩ := rowsL_sub h
      exact ⟨i + 1, p, r', by rw [Nat.add_assoc, Nat.add_comm 1], by simpa using h1, h2⟩
theorem rows_sub : ∀ (n : Nat) {e : Ex} {r : List Nat}, e.dep ≤ n → r ∈ rows e → ∃ p, sub e r = some p
  | n, e, r, hn, h => by
    rw [rows_eq] at h
    rcases List.mem_cons.mp h with rfl | h
    · exact ⟨e, by rw [sub]⟩
    · obtain ⟨i, p, r', rfl, h1, h2⟩ := rowsL_sub h
      have hd := parts_dep (List.mem_of_getElem? h1)
      obtain ⟨m, rfl⟩ : ∃ m, n = m + 1 := ⟨n - 1, by omega⟩
      obtain ⟨q, hq⟩ := rows_sub m (by omega) h2
      refine ⟨q, ?_⟩
      rw [sub, Nat.zero_add, h1]
      exact hq
theorem sub_dep : ∀ {r : List Nat} {e p : Ex}, sub e r = some p → p.dep ≤ e.dep
  | [], e, p, h => by rw [sub] at h; cases h; exact Nat.le_refl _
  | i :: r, e, p, h => by
    rw [sub] at h
    split at h
    · rename_i q hq
      have := parts_dep (List.mem_of_getElem? hq)
      have := sub_dep h
      omega
    · cases h
theorem rowsL_len : ∀ (es : List Ex) (k : Nat), (∀ e ∈ es, (rows e).length = cnt e) → (rowsL k es).length = cnts es
  | [], k, _ => by rw [rowsL, cnts]; rfl
  | e :: es, k, h => by
    rw [rowsL, cnts, List.length_append, List.length_map, h e List.mem_cons_self, rowsL_len es (k + 1) fun x hx => h x (List.mem_cons_of_mem _ hx)]
theorem cnt_eq (e : Ex) : cnt e = 1 + cnts e.parts := by
  cases e <;> simp only [cnt, cnts, parts] <;> omega
theorem rows_len : ∀ (n : Nat) {e : Ex}, e.dep ≤ n → (rows e).length = cnt e
  | n, e, hn => by
    rw [rows_eq, List.length_cons, cnt_eq, rowsL_len e.parts 0 fun p hp => ?_, Nat.add_comm]
    have hd := parts_dep hp
    obtain ⟨m, rfl⟩ : ∃ m, n = m + 1 := ⟨n - 1, by omega⟩
    exact rows_len m (by omega)
theorem cnts_mem : ∀ {es : List Ex} {e : Ex}, e ∈ es → cnt e ≤ cnts es
  | e' :: es, e, h => by
    rw [cnts]
    rcases List.mem_cons.mp h with rfl | h
    · omega
    · have := cnts_mem h; omega
theorem parts_cnt {e p : Ex} (h : p ∈ e.parts) : cnt p < cnt e := by
  rw [cnt_eq e]
  have := cnts_mem h
  omega
theorem parts_len {e : Ex} : e.parts.length ≤ cnt e := by
  rw [cnt_eq]
  have : ∀ es : List Ex, es.length ≤ cnts es := fun es => by
    induction es with
    | nil => simp
    | cons e es ih =>
      rw [cnts, List.length_cons]
      have : 1 ≤ cnt e := by rw [cnt_eq]; omega
      omega
  have := this e.parts
  omega
end Ex
def rowD (r : List Nat) : D := .tup (r.map fun i => .int (i : Nat))
def enumF : Nat → List D → List D
  | _, [] => []
  | k, d :: ds => .tup [.int (k : Nat), d] :: enumF (k + 1) ds
theorem enumF_eq : ∀ (ds : List D) (k : Nat), ((List.range ds.length).map fun i => D.tup [.int ((k + i : Nat) : Int), ds.getD i .non]) = enumF k ds
  | [], k => rfl
  | d :: ds, k => by
    rw [List.length_cons, List.range_succ_eq_map, List.map_cons, enumF, ← enumF_eq ds (k + 1), List.map_map]
    congr 1
    apply List.map_congr_left
    intro i _
    show D.tup [.int ((k + (i + 1) : Nat) : Int), (d :: ds).getD (i + 1) .non] = _
    rw [show k + (i + 1) = k + 1 + i by omega]
    rfl
theorem enumL_eq (ds : List D) : enumL ds = enumF 0 ds := by
  rw [← enumF_eq]
  unfold enumL
  apply List.map_congr_left
  intro i _
  rw [Nat.zero_add]
theorem lcGo_mp {α : Type} {b : D → EnvD → Option EnvD} {f : FD} {ρ0 : EnvD} {M : Store} (t : α → D) (g : α → D) (xs : List α) (h : ∀ x ∈ xs, ∃ ρ1, b (t x) ρ0 = some ρ1 ∧ f ρ1 M = .ok (g x) M) (hl : xs.length ≤ 1000000) :
    lcGo b dYes f ρ0 (xs.map t) [] M = .ok (xs.map g) M := by
  have := lcGo_fmap (b := b) (c := dYes) (f := f) (ρ0 := ρ0) (M := M) t (fun _ => true) g xs [] (fun x hx => by
    obtain ⟨ρ1, h1, h2⟩ := h x hx
    exact ⟨ρ1, h1, rfl, fun _ => h2⟩) (by rw [szL, List.length_nil]; omega)
  rw [this, List.filter_eq_self.mpr (fun _ _ => rfl), List.nil_append]
namespace Ex
theorem rowsL_lens : ∀ {es : List Ex} {k n : Nat} {r : List Nat}, (∀ e ∈ es, ∀ r ∈ rows e, r.length ≤ n) → r ∈ rowsL k es → r.length ≤ n + 1
  | es, k, n, r, h, hr => by
    obtain ⟨i, p, r', rfl, h1, h2⟩ := rowsL_sub hr
    rw [List.length_cons]
    have := h p (List.mem_of_getElem? h1) r' h2
    omega
theorem rows_lens : ∀ (n : Nat) {e : Ex} {r : List Nat}, e.dep ≤ n → r ∈ rows e → r.length ≤ n
  | n, e, r, hn, h => by
    rw [rows_eq] at h
    rcases List.mem_cons.mp h with rfl | h
    · exact Nat.zero_le _
    · obtain ⟨i, p, r', rfl, h1, h2⟩ := rowsL_sub h
      have hd := parts_dep (List.mem_of_getElem? h1)
      obtain ⟨m, rfl⟩ : ∃ m, n = m + 1 := ⟨n - 1, by omega⟩
      have := rows_lens m (by omega) h2
      rw [List.length_cons]
      omega
end Ex
section
variable {κ : Type} [DecidableEq κ]
theorem look_cons (p : κ × D) (kvs : List (κ × D)) (k : κ) : lookD (p :: kvs) k = if p.1 = k then some p.2 else lookD kvs k := by
  unfold lookD
  rw [List.find?_cons]
  by_cases h : p.1 = k
  · rw [decide_eq_true h, if_pos h]; rfl
  · rw [decide_eq_false h, if_neg h]
theorem look_map : ∀ (kvs : List (κ × D)) (k k' : κ) (v : D), lookD (kvs.map fun kv => if kv.1 = k then (kv.1, v) else kv) k' = if k = k' ∧ (kvs.any fun kv => decide (kv.1 = k)) = true then some v else lookD kvs k'
  | [], k, k', v => by simp [lookD]
  | p :: kvs, k, k', v => by
    rw [List.map_cons, look_cons, look_cons, look_map kvs k k' v, List.any_cons]
    by_cases h1 : p.1 = k
    · by_cases h2 : k = k'
      · simp [h1, h2]
      · simp [h1, h2]
    · by_cases h2 : k = k'
      · subst h2
        simp only [if_neg h1, decide_eq_false h1, Bool.false_or]
      · simp [h1, h2]
theorem look_none : ∀ (kvs : List (κ × D)) (k : κ), ¬ (kvs.any fun kv => decide (kv.1 = k)) = true → lookD kvs k = none
  | [], _, _ => rfl
  | p :: kvs, k, h => by
    rw [List.any_cons, Bool.or_eq_true, not_or] at h
    rw [look_cons, if_neg (by simpa using h.1), look_none kvs k h.2]
theorem look_app : ∀ (a b : List (κ × D)) (k : κ), lookD (a ++ b) k = (lookD a k).or (lookD b k)
  | [], b, k => rfl
  | p :: a, b, k => by
    rw [List.cons_append, look_cons, look_cons, look_app a b k]
    split <;> rfl
theorem look_put (kvs : List (κ × D)) (k k' : κ) (v : D) : lookD (putD kvs k v) k' = if k = k' then some v else lookD kvs k' := by
  unfold putD
  split
  · rename_i h
    rw [look_map]
    simp only [h, and_true]
  · rename_i h
    rw [look_app, look_cons]
    by_cases hk : k = k'
    · subst hk
      rw [look_none kvs k h]
      simp
    · simp only [if_neg hk]
      show (lookD kvs k').or none = _
      rw [Option.or_none]
end
theorem mem_flat : ∀ {P : Pr} {q : Str × List Row} {r : Row}, q ∈ P → r ∈ q.2 → (q.1, r) ∈ flat P
  | (m, rs) :: P, q, r, hq, hr => by
    rw [flat]
    rcases List.mem_cons.mp hq with rfl | hq
    · exact List.mem_append_left _ (List.mem_map.mpr ⟨r, hr, rfl⟩)
    · exact List.mem_append_right _ (mem_flat hq hr)
end TP
/-! TPw: words that are written out. -/
namespace TP
open PySem L2
theorem neW {s t : Str} {b : Bool} (h : (okStr s && okStr t && (decide (s = t) == b)) = true) (M : Store) : neD M (.str s) (.str t) = some (.val (.bl !b)) := by
  simp only [Bool.and_eq_true, beq_iff_eq] at h
  rw [neD_str M h.1.1 h.1.2, h.2]
@[simp] theorem ew0 (M : Store) : eqD M (.str "num") (.str "num") = some (.val (.bl true)) := eqW (by decide +kernel) M
@[simp] theorem nw0 (M : Store) : neD M (.str "num") (.str "num") = some (.val (.bl (!true))) := neW (by decide +kernel) M
@[simp] theorem ew1 (M : Store) : eqD M (.str "num") (.str "use") = some (.val (.bl false)) := eqW (by decide +kernel) M
@[simp] theorem nw1 (M : Store) : neD M (.str "num") (.str "use") = some (.val (.bl (!false))) := neW (by decide +kernel) M
@[simp] theorem ew2 (M : Store) : eqD M (.str "num") (.str "op") = some (.val (.bl false)) := eqW (by decide +kernel) M
@[simp] theorem nw2 (M : Store) : neD M (.str "num") (.str "op") = some (.val (.bl (!false))) := neW (by decide +kernel) M
@[simp] theorem ew3 (M : Store) : eqD M (.str "num") (.str "let") = some (.val (.bl false)) := eqW (by decide +kernel) M
@[simp] theorem nw3 (M : Store) : neD M (.str "num") (.str "let") = some (.val (.bl (!false))) := neW (by decide +kernel) M
@[simp] theorem ew4 (M : Store) : eqD M (.str "num") (.str "if") = some (.val (.bl false)) := eqW (by decide +kernel) M
@[simp] theorem nw4 (M : Store) : neD M (.str "num") (.str "if") = some (.val (.bl (!false))) := neW (by decide +kernel) M
@[simp] theorem ew5 (M : Store) : eqD M (.str "num") (.str "times") = some (.val (.bl false)) := eqW (by decide +kernel) M
@[simp] theorem nw5 (M : Store) : neD M (.str "num") (.str "times") = some (.val (.bl (!false))) := neW (by decide +kernel) M
@[simp] theorem ew6 (M : Store) : eqD M (.str "num") (.str "tell") = some (.val (.bl false)) := eqW (by decide +kernel) M
@[simp] theorem nw6 (M : Store) : neD M (.str "num") (.str "tell") = some (.val (.bl (!false))) := neW (by decide +kernel) M
@[simp] theorem ew7 (M : Store) : eqD M (.str "num") (.str "stop") = some (.val (.bl false)) := eqW (by decide +kernel) M
@[simp] theorem nw7 (M : Store) : neD M (.str "num") (.str "stop") = some (.val (.bl (!false))) := neW (by decide +kernel) M
@[simp] theorem ew8 (M : Store) : eqD M (.str "num") (.str "call") = some (.val (.bl false)) := eqW (by decide +kernel) M
@[simp] theorem nw8 (M : Store) : neD M (.str "num") (.str "call") = some (.val (.bl (!false))) := neW (by decide +kernel) M
@[simp] theorem ew9 (M : Store) : eqD M (.str "use") (.str "num") = some (.val (.bl false)) := eqW (by decide +kernel) M
@[simp] theorem nw9 (M : Store) : neD M (.str "use") (.str "num") = some (.val (.bl (!false))) := neW (by decide +kernel) M
@[simp] theorem ew10 (M : Store) : eqD M (.str "use") (.str "use") = some (.val (.bl true)) := eqW (by decide +kernel) M
@[simp] theorem nw10 (M : Store) : neD M (.str "use") (.str "use") = some (.val (.bl (!true))) := neW (by decide +kernel) M
@[simp] theorem ew11 (M : Store) : eqD M (.str "use") (.str "op") = some (.val (.bl false)) := eqW (by decide +kernel) M
@[simp] theorem nw11 (M : Store) : neD M (.str "use") (.str "op") = some (.val (.bl (!false))) := neW (by decide +kernel) M
@[simp] theorem ew12 (M : Store) : eqD M (.str "use") (.str "let") = some (.val (.bl false)) := eqW (by decide +kernel) M
@[simp] theorem nw12 (M : Store) : neD M (.str "use") (.str "let") = some (.val (.bl (!false))) := neW (by decide +kernel) M
@[simp] theorem ew13 (M : Store) : eqD M (.str "use") (.str "if") = some (.val (.bl false)) := eqW (by decide +kernel) M
@[simp] theorem nw13 (M : Store) : neD M (.str "use") (.str "if") = some (.val (.bl (!false))) := neW (by decide +kernel) M
@[simp] theorem ew14 (M : Store) : eqD M (.str "use") (.str "times") = some (.val (.bl false)) := eqW (by decide +kernel) M
@[simp] theorem nw14 (M : Store) : neD M (.str "use") (.str "times") = some (.val (.bl (!false))) := neW (by decide +kernel) M
@[simp] theorem ew15 (M : Store) : eqD M (.str "use") (.str "tell") = some (.val (.bl false)) := eqW (by decide +kernel) M
@[simp] theorem nw15 (M : Store) : neD M (.str "use") (.str "tell") = some (.val (.bl (!false))) := neW (by decide +kernel) M
@[simp] theorem ew16 (M : Store) : eqD M (.str "use") (.str "stop") = some (.val (.bl false)) := eqW (by decide +kernel) M
@[simp] theorem nw16 (M : Store) : neD M (.str "use") (.str "stop") = some (.val (.bl (!false))) := neW (by decide +kernel) M
@[simp] theorem ew17 (M : Store) : eqD M (.str "use") (.str "call") = some (.val (.bl false)) := eqW (by decide +kernel) M
@[simp] theorem nw17 (M : Store) : neD M (.str "use") (.str "call") = some (.val (.bl (!false))) := neW (by decide +kernel) M
@[simp] theorem ew18 (M : Store) : eqD M (.str "op") (.str "num") = some (.val (.bl false)) := eqW (by decide +kernel) M
@[simp] theorem nw18 (M : Store) : neD M (.str "op") (.str "num") = some (.val (.bl (!false))) := neW (by decide +kernel) M
@[simp] theorem ew19 (M : Store) : eqD M (.str "op") (.str "use") = some (.val (.bl false)) := eqW (by decide +kernel) M
@[simp] theorem nw19 (M : Store) : neD M (.str "op") (.str "use") = some (.val (.bl (!false))) := neW (by decide +kernel) M
@[simp] theorem ew20 (M : Store) : eqD M (.str "op") (.str "op") = some (.val (.bl true)) := eqW (by decide +kernel) M
@[simp] theorem nw20 (M : Store) : neD M (.str "op") (.str "op") = some (.val (.bl (!true))) := neW (by decide +kernel) M
@[simp] theorem ew21 (M : Store) : eqD M (.str "op") (.str "let") = some (.val (.bl false)) := eqW (by decide +kernel) M
@[simp] theorem nw21 (M : Store) : neD M (.str "op") (.str "let") = some (.val (.bl (!false))) := neW (by decide +kernel) M
@[simp] theorem ew22 (M : Store) : eqD M (.str "op") (.str "if") = some (.val (.bl false)) := eqW (by decide +kernel) M
@[simp] theorem nw22 (M : Store) : neD M (.str "op") (.str "if") = some (.val (.bl (!false))) := neW (by decide +kernel) M
@[simp] theorem ew23 (M : Store) : eqD M (.str "op") (.str "times") = some (.val (.bl false)) := eqW (by decide +kernel) M
@[simp] theorem nw23 (M : Store) : neD M (.str "op") (.str "times") = some (.val (.bl (!false))) := neW (by decide +kernel) M
@[simp] theorem ew24 (M : Store) : eqD M (.str "op") (.str "tell") = some (.val (.bl false)) := eqW (by decide +kernel) M
@[simp] theorem nw24 (M : Store) : neD M (.str "op") (.str "tell") = some (.val (.bl (!false))) := neW (by decide +kernel) M
@[simp] theorem ew25 (M : Store) : eqD M (.str "op") (.str "stop") = some (.val (.bl false)) := eqW (by decide +kernel) M
@[simp] theorem nw25 (M : Store) : neD M (.str "op") (.str "stop") = some (.val (.bl (!false))) := neW (by decide +kernel) M
@[simp] theorem ew26 (M : Store) : eqD M (.str "op") (.str "call") = some (.val (.bl false)) := eqW (by decide +kernel) M
@[simp] theorem nw26 (M : Store) : neD M (.str "op") (.str "call") = some (.val (.bl (!false))) := neW (by decide +kernel) M
@[simp] theorem ew27 (M : Store) : eqD M (.str "let") (.str "num") = some (.val (.bl false)) := eqW (by decide +kernel) M
@[simp] theorem nw27 (M : Store) : neD M (.str "let") (.str "num") = some (.val (.bl (!false))) := neW (by decide +kernel) M
@[simp] theorem ew28 (M : Store) : eqD M (.str "let") (.str "use") = some (.val (.bl false)) := eqW (by decide +kernel) M
@[simp] theorem nw28 (M : Store) : neD M (.str "let") (.str "use") = some (.val (.bl (!false))) := neW (by decide +kernel) M
@[simp] theorem ew29 (M : Store) : eqD M (.str "let") (.str "op") = some (.val (.bl false)) := eqW (by decide +kernel) M
@[simp] theorem nw29 (M : Store) : neD M (.str "let") (.str "op") = some (.val (.bl (!false))) := neW (by decide +kernel) M
@[simp] theorem ew30 (M : Store) : eqD M (.str "let") (.str "let") = some (.val (.bl true)) := eqW (by decide +kernel) M
@[simp] theorem nw30 (M : Store) : neD M (.str "let") (.str "let") = some (.val (.bl (!true))) := neW (by decide +kernel) M
@[simp] theorem ew31 (M : Store) : eqD M (.str "let") (.str "if") = some (.val (.bl false)) := eqW (by decide +kernel) M
@[simp] theorem nw31 (M : Store) : neD M (.str "let") (.str "if") = some (.val (.bl (!false))) := neW (by decide +kernel) M
@[simp] theorem ew32 (M : Store) : eqD M (.str "let") (.str "times") = some (.val (.bl false)) := eqW (by decide +kernel) M
@[simp] theorem nw32 (M : Store) : neD M (.str "let") (.str "times") = some (.val (.bl (!false))) := neW (by decide +kernel) M
@[simp] theorem ew33 (M : Store) : eqD M (.str "let") (.str "tell") = some (.val (.bl false)) := eqW (by decide +kernel) M
@[simp] theorem nw33 (M : Store) : neD M (.str "let") (.str "tell") = some (.val (.bl (!false))) := neW (by decide +kernel) M
@[simp] theorem ew34 (M : Store) : eqD M (.str "let") (.str "stop") = some (.val (.bl false)) := eqW (by decide +kernel) M
@[simp] theorem nw34 (M : Store) : neD M (.str "let") (.str "stop") = some (.val (.bl (!false))) := neW (by decide +kernel) M
@[simp] theorem ew35 (M : Store) : eqD M (.str "let") (.str "call") = some (.val (.bl false)) := eqW (by decide +kernel) M
@[simp] theorem nw35 (M : Store) : neD M (.str "let") (.str "call") = some (.val (.bl (!false))) := neW (by decide +kernel) M
@[simp] theorem ew36 (M : Store) : eqD M (.str "if") (.str "num") = some (.val (.bl false)) := eqW (by decide +kernel) M
@[simp] theorem nw36 (M : Store) : neD M (.str "if") (.str "num") = some (.val (.bl (!false))) := neW (by decide +kernel) M
@[simp] theorem ew37 (M : Store) : eqD M (.str "if") (.str "use") = some (.val (.bl false)) := eqW (by decide +kernel) M
@[simp] theorem nw37 (M : Store) : neD M (.str "if") (.str "use") = some (.val (.bl (!false))) := neW (by decide +kernel) M
@[simp] theorem ew38 (M : Store) : eqD M (.str "if") (.str "op") = some (.val (.bl false)) := eqW (by decide +kernel) M
@[simp] theorem nw38 (M : Store) : neD M (.str "if") (.str "op") = some (.val (.bl (!false))) := neW (by decide +kernel) M
@[simp] theorem ew39 (M : Store) : eqD M (.str "if") (.str "let") = some (.val (.bl false)) := eqW (by decide +kernel) M
@[simp] theorem nw39 (M : Store) : neD M (.str "if") (.str "let") = some (.val (.bl (!false))) := neW (by decide +kernel) M
@[simp] theorem ew40 (M : Store) : eqD M (.str "if") (.str "if") = some (.val (.bl true)) := eqW (by decide +kernel) M
@[simp] theorem nw40 (M : Store) : neD M (.str "if") (.str "if") = some (.val (.bl (!true))) := neW (by decide +kernel) M
@[simp] theorem ew41 (M : Store) : eqD M (.str "if") (.str "times") = some (.val (.bl false)) := eqW (by decide +kernel) M
@[simp] theorem nw41 (M : Store) : neD M (.str "if") (.str "times") = some (.val (.bl (!false))) := neW (by decide +kernel) M
@[simp] theorem ew42 (M : Store) : eqD M (.str "if") (.str "tell") = some (.val (.bl false)) := eqW (by decide +kernel) M
@[simp] theorem nw42 (M : Store) : neD M (.str "if") (.str "tell") = some (.val (.bl (!false))) := neW (by decide +kernel) M
@[simp] theorem ew43 (M : Store) : eqD M (.str "if") (.str "stop") = some (.val (.bl false)) := eqW (by decide +kernel) M
@[simp] theorem nw43 (M : Store) : neD M (.str "if") (.str "stop") = some (.val (.bl (!false))) := neW (by decide +kernel) M
@[simp] theorem ew44 (M : Store) : eqD M (.str "if") (.str "call") = some (.val (.bl false)) := eqW (by decide +kernel) M
@[simp] theorem nw44 (M : Store) : neD M (.str "if") (.str "call") = some (.val (.bl (!false))) := neW (by decide +kernel) M
@[simp] theorem ew45 (M : Store) : eqD M (.str "times") (.str "num") = some (.val (.bl false)) := eqW (by decide +kernel) M
@[simp] theorem nw45 (M : Store) : neD M (.str "times") (.str "num") = some (.val (.bl (!false))) := neW (by decide +kernel) M
@[simp] theorem ew46 (M : Store) : eqD M (.str "times") (.str "use") = some (.val (.bl false)) := eqW (by decide +kernel) M
@[simp] theorem nw46 (M : Store) : neD M (.str "times") (.str "use") = some (.val (.bl (!false))) := neW (by decide +kernel) M
@[simp] theorem ew47 (M : Store) : eqD M (.str "times") (.str "op") = some (.val (.bl false)) := eqW (by decide +kernel) M
@[simp] theorem nw47 (M : Store) : neD M (.str "times") (.str "op") = some (.val (.bl (!false))) := neW (by decide +kernel) M
@[simp] theorem ew48 (M : Store) : eqD M (.str "times") (.str "let") = some (.val (.bl false)) := eqW (by decide +kernel) M
@[simp] theorem nw48 (M : Store) : neD M (.str "times") (.str "let") = some (.val (.bl (!false))) := neW (by decide +kernel) M
@[simp] theorem ew49 (M : Store) : eqD M (.str "times") (.str "if") = some (.val (.bl false)) := eqW (by decide +kernel) M
@[simp] theorem nw49 (M : Store) : neD M (.str "times") (.str "if") = some (.val (.bl (!false))) := neW (by decide +kernel) M
@[simp] theorem ew50 (M : Store) : eqD M (.str "times") (.str "times") = some (.val (.bl true)) := eqW (by decide +kernel) M
@[simp] theorem nw50 (M : Store) : neD M (.str "times") (.str "times") = some (.val (.bl (!true))) := neW (by decide +kernel) M
@[simp] theorem ew51 (M : Store) : eqD M (.str "times") (.str "tell") = some (.val (.bl false)) := eqW (by decide +kernel) M
@[simp] theorem nw51 (M : Store) : neD M (.str "times") (.str "tell") = some (.val (.bl (!false))) := neW (by decide +kernel) M
@[simp] theorem ew52 (M : Store) : eqD M (.str "times") (.str "stop") = some (.val (.bl false)) := eqW (by decide +kernel) M
@[simp] theorem nw52 (M : Store) : neD M (.str "times") (.str "stop") = some (.val (.bl (!false))) := neW (by decide +kernel) M
@[simp] theorem ew53 (M : Store) : eqD M (.str "times") (.str "call") = some (.val (.bl false)) := eqW (by decide +kernel) M
@[simp] theorem nw53 (M : Store) : neD M (.str "times") (.str "call") = some (.val (.bl (!false))) := neW (by decide +kernel) M
@[simp] theorem ew54 (M : Store) : eqD M (.str "tell") (.str "num") = some (.val (.bl false)) := eqW (by decide +kernel) M
@[simp] theorem nw54 (M : Store) : neD M (.str "tell") (.str "num") = some (.val (.bl (!false))) := neW (by decide +kernel) M
@[simp] theorem ew55 (M : Store) : eqD M (.str "tell") (.str "use") = some (.val (.bl false)) := eqW (by decide +kernel) M
@[simp] theorem nw55 (M : Store) : neD M (.str "tell") (.str "use") = some (.val (.bl (!false))) := neW (by decide +kernel) M
@[simp] theorem ew56 (M : Store) : eqD M (.str "tell") (.str "op") = some (.val (.bl false)) := eqW (by decide +kernel) M
@[simp] theorem nw56 (M : Store) : neD M (.str "tell") (.str "op") = some (.val (.bl (!false))) := neW (by decide +kernel) M
@[simp] theorem ew57 (M : Store) : eqD M (.str "tell") (.str "let") = some (.val (.bl false)) := eqW (by decide +kernel) M
@[simp] theorem nw57 (M : Store) : neD M (.str "tell") (.str "let") = some (.val (.bl (!false))) := neW (by decide +kernel) M
@[simp] theorem ew58 (M : Store) : eqD M (.str "tell") (.str "if") = some (.val (.bl false)) := eqW (by decide +kernel) M
@[simp] theorem nw58 (M : Store) : neD M (.str "tell") (.str "if") = some (.val (.bl (!false))) := neW (by decide +kernel) M
@[simp] theorem ew59 (M : Store) : eqD M (.str "tell") (.str "times") = some (.val (.bl false)) := eqW (by decide +kernel) M
@[simp] theorem nw59 (M : Store) : neD M (.str "tell") (.str "times") = some (.val (.bl (!false))) := neW (by decide +kernel) M
@[simp] theorem ew60 (M : Store) : eqD M (.str "tell") (.str "tell") = some (.val (.bl true)) := eqW (by decide +kernel) M
@[simp] theorem nw60 (M : Store) : neD M (.str "tell") (.str "tell") = some (.val (.bl (!true))) := neW (by decide +kernel) M
@[simp] theorem ew61 (M : Store) : eqD M (.str "tell") (.str "stop") = some (.val (.bl false)) := eqW (by decide +kernel) M
@[simp] theorem nw61 (M : Store) : neD M (.str "tell") (.str "stop") = some (.val (.bl (!false))) := neW (by decide +kernel) M
@[simp] theorem ew62 (M : Store) : eqD M (.str "tell") (.str "call") = some (.val (.bl false)) := eqW (by decide +kernel) M
@[simp] theorem nw62 (M : Store) : neD M (.str "tell") (.str "call") = some (.val (.bl (!false))) := neW (by decide +kernel) M
@[simp] theorem ew63 (M : Store) : eqD M (.str "stop") (.str "num") = some (.val (.bl false)) := eqW (by decide +kernel) M
@[simp] theorem nw63 (M : Store) : neD M (.str "stop") (.str "num") = some (.val (.bl (!false))) := neW (by decide +kernel) M
@[simp] theorem ew64 (M : Store) : eqD M (.str "stop") (.str "use") = some (.val (.bl false)) := eqW (by decide +kernel) M
@[simp] theorem nw64 (M : Store) : neD M (.str "stop") (.str "use") = some (.val (.bl (!false))) := neW (by decide +kernel) M
@[simp] theorem ew65 (M : Store) : eqD M (.str "stop") (.str "op") = some (.val (.bl false)) := eqW (by decide +kernel) M
@[simp] theorem nw65 (M : Store) : neD M (.str "stop") (.str "op") = some (.val (.bl (!false))) := neW (by decide +kernel) M
@[simp] theorem ew66 (M : Store) : eqD M (.str "stop") (.str "let") = some (.val (.bl false)) := eqW (by decide +kernel) M
@[simp] theorem nw66 (M : Store) : neD M (.str "stop") (.str "let") = some (.val (.bl (!false))) := neW (by decide +kernel) M
@[simp] theorem ew67 (M : Store) : eqD M (.str "stop") (.str "if") = some (.val (.bl false)) := eqW (by decide +kernel) M
@[simp] theorem nw67 (M : Store) : neD M (.str "stop") (.str "if") = some (.val (.bl (!false))) := neW (by decide +kernel) M
@[simp] theorem ew68 (M : Store) : eqD M (.str "stop") (.str "times") = some (.val (.bl false)) := eqW (by decide +kernel) M
@[simp] theorem nw68 (M : Store) : neD M (.str "stop") (.str "times") = some (.val (.bl (!false))) := neW (by decide +kernel) M
@[simp] theorem ew69 (M : Store) : eqD M (.str "stop") (.str "tell") = some (.val (.bl false)) := eqW (by decide +kernel) M
@[simp] theorem nw69 (M : Store) : neD M (.str "stop") (.str "tell") = some (.val (.bl (!false))) := neW (by decide +kernel) M
@[simp] theorem ew70 (M : Store) : eqD M (.str "stop") (.str "stop") = some (.val (.bl true)) := eqW (by decide +kernel) M
@[simp] theorem nw70 (M : Store) : neD M (.str "stop") (.str "stop") = some (.val (.bl (!true))) := neW (by decide +kernel) M
@[simp] theorem ew71 (M : Store) : eqD M (.str "stop") (.str "call") = some (.val (.bl false)) := eqW (by decide +kernel) M
@[simp] theorem nw71 (M : Store) : neD M (.str "stop") (.str "call") = some (.val (.bl (!false))) := neW (by decide +kernel) M
@[simp] theorem ew72 (M : Store) : eqD M (.str "call") (.str "num") = some (.val (.bl false)) := eqW (by decide +kernel) M
@[simp] theorem nw72 (M : Store) : neD M (.str "call") (.str "num") = some (.val (.bl (!false))) := neW (by decide +kernel) M
@[simp] theorem ew73 (M : Store) : eqD M (.str "call") (.str "use") = some (.val (.bl false)) := eqW (by decide +kernel) M
@[simp] theorem nw73 (M : Store) : neD M (.str "call") (.str "use") = some (.val (.bl (!false))) := neW (by decide +kernel) M
@[simp] theorem ew74 (M : Store) : eqD M (.str "call") (.str "op") = some (.val (.bl false)) := eqW (by decide +kernel) M
@[simp] theorem nw74 (M : Store) : neD M (.str "call") (.str "op") = some (.val (.bl (!false))) := neW (by decide +kernel) M
@[simp] theorem ew75 (M : Store) : eqD M (.str "call") (.str "let") = some (.val (.bl false)) := eqW (by decide +kernel) M
@[simp] theorem nw75 (M : Store) : neD M (.str "call") (.str "let") = some (.val (.bl (!false))) := neW (by decide +kernel) M
@[simp] theorem ew76 (M : Store) : eqD M (.str "call") (.str "if") = some (.val (.bl false)) := eqW (by decide +kernel) M
@[simp] theorem nw76 (M : Store) : neD M (.str "call") (.str "if") = some (.val (.bl (!false))) := neW (by decide +kernel) M
@[simp] theorem ew77 (M : Store) : eqD M (.str "call") (.str "times") = some (.val (.bl false)) := eqW (by decide +kernel) M
@[simp] theorem nw77 (M : Store) : neD M (.str "call") (.str "times") = some (.val (.bl (!false))) := neW (by decide +kernel) M
@[simp] theorem ew78 (M : Store) : eqD M (.str "call") (.str "tell") = some (.val (.bl false)) := eqW (by decide +kernel) M
@[simp] theorem nw78 (M : Store) : neD M (.str "call") (.str "tell") = some (.val (.bl (!false))) := neW (by decide +kernel) M
@[simp] theorem ew79 (M : Store) : eqD M (.str "call") (.str "stop") = some (.val (.bl false)) := eqW (by decide +kernel) M
@[simp] theorem nw79 (M : Store) : neD M (.str "call") (.str "stop") = some (.val (.bl (!false))) := neW (by decide +kernel) M
@[simp] theorem ew80 (M : Store) : eqD M (.str "call") (.str "call") = some (.val (.bl true)) := eqW (by decide +kernel) M
@[simp] theorem nw80 (M : Store) : neD M (.str "call") (.str "call") = some (.val (.bl (!true))) := neW (by decide +kernel) M
end TP
/-! TPs: how long texts of data are (repr). -/
namespace TP
open PySem L2
mutual
/-- at least as long as it is shown -/
def bigD : D → Nat
  | .non => 4
  | .bl _ => 5
  | .int i => (Str.ofString (toString i)).length
  | .str x => (reprText x).length
  | .lst xs => bigL xs + 3
  | .tup xs => bigL xs + 3
  | .fro _ => 4
  | .kt _ => 4
  | .ref _ => 4
def bigL : List D → Nat
  | [] => 0
  | x :: xs => bigD x + 2 + bigL xs
end
mutual
theorem shown_big : ∀ d : D, (toPy d).shown.length ≤ bigD d
  | .non => by simp only [toPy, bigD]; decide
  | .bl b => by simp only [toPy, bigD]; cases b <;> decide
  | .int i => by simp only [toPy, bigD, PyData.shown]; exact Nat.le_refl _
  | .str x => by simp only [toPy, bigD, PyData.shown]; exact Nat.le_refl _
  | .lst xs => by
    simp only [toPy, bigD, PyData.shown]
    have h1 := listText_len_le (PyData.shownAll (toPyL xs))
    have h2 := shownL_big xs
    omega
  | .tup xs => by
    simp only [toPy, bigD, PyData.shown]
    have h1 := tupleText_len_le (PyData.shownAll (toPyL xs))
    have h2 := shownL_big xs
    omega
  | .fro _ => by simp only [toPy, bigD]; decide
  | .kt _ => by simp only [toPy, bigD]; decide
  | .ref _ => by simp only [toPy, bigD]; decide
theorem shownL_big : ∀ xs : List D, ((PyData.shownAll (toPyL xs)).map (·.length)).sum + 2 * (PyData.shownAll (toPyL xs)).length ≤ bigL xs
  | [] => by simp [toPyL, PyData.shownAll, bigL]
  | x :: xs => by
    have h1 := shown_big x
    have h2 := shownL_big xs
    simp only [toPyL, PyData.shownAll, bigL, List.map_cons, List.sum_cons, List.length_cons]
    omega
end
/-- may be shown: at most so long, so deep -/
structure Fit (n k : Nat) (d : D) : Prop where
  good : goodD d = true
  show_ : (toPy d).showable = true
  dp : dpD d ≤ k
  big : bigD d ≤ n
theorem Fit.mono {n k n' k' : Nat} {d : D} (h : Fit n k d) (hn : n ≤ n') (hk : k ≤ k') : Fit n' k' d := ⟨h.good, h.show_, Nat.le_trans h.dp hk, Nat.le_trans h.big hn⟩
theorem Fit.repr {n k : Nat} {d : D} (h : Fit n k d) (hn : n ≤ 16777216) (hk : k ≤ 190) (M : Store) : reprD M [d] = some (.val (.str (toPy d).shown)) := by
  show (if shwD (derD M d) then some (Slot.val (D.str (toPy (derD M d)).shown)) else none) = _
  rw [der_good M h.good]
  have hs : shwD d = true := by
    unfold shwD
    simp only [Bool.and_eq_true, decide_eq_true_eq]
    refine ⟨⟨⟨h.good, h.show_⟩, Nat.le_trans h.dp hk⟩, ?_⟩
    rw [szL]
    exact Nat.le_trans (shown_big d) (Nat.le_trans h.big hn)
  rw [hs]
  rfl
structure FitL (n k : Nat) (ds : List D) : Prop where
  good : goodL ds = true
  show_ : PyData.showableAll (toPyL ds) = true
  dp : dpL ds ≤ k
  big : bigL ds ≤ n
theorem FitL.nil {k : Nat} : FitL 0 k [] := ⟨rfl, rfl, Nat.zero_le _, Nat.le_refl _⟩
theorem FitL.cons {n m k : Nat} {d : D} {ds : List D} (h : Fit n k d) (hs : FitL m k ds) : FitL (n + 2 + m) k (d :: ds) := by
  refine ⟨?_, ?_, ?_, ?_⟩
  · rw [goodL, h.good, hs.good]; rfl
  · simp only [toPyL, PyData.showableAll, h.show_, hs.show_]; rfl
  · have h1 := h.dp
    have h2 := hs.dp
    rw [dpL]; omega
  · have h1 := h.big
    have h2 := hs.big
    rw [bigL]; omega
theorem FitL.each {n k : Nat} : ∀ {ds : List D}, (∀ d ∈ ds, Fit n k d) → FitL (ds.length * (n + 2)) k ds
  | [], _ => ⟨rfl, rfl, Nat.zero_le _, by rw [List.length_nil, Nat.zero_mul]; exact Nat.le_refl _⟩
  | d :: ds, h => by
    have h1 := FitL.cons (h d List.mem_cons_self) (FitL.each fun x hx => h x (List.mem_cons_of_mem _ hx))
    rw [List.length_cons, Nat.succ_mul, Nat.add_comm]
    exact h1
theorem FitL.upto {n k c m : Nat} {ds : List D} (h : ∀ d ∈ ds, Fit n k d) (hl : ds.length ≤ c) (hm : c * (n + 2) ≤ m) : FitL m k ds := by
  have h1 := FitL.each h
  exact ⟨h1.good, h1.show_, h1.dp, Nat.le_trans h1.big (Nat.le_trans (Nat.mul_le_mul_right _ hl) hm)⟩
theorem FitL.mono {n k n' k' : Nat} {d : List D} (h : FitL n k d) (hn : n ≤ n') (hk : k ≤ k') : FitL n' k' d := ⟨h.good, h.show_, Nat.le_trans h.dp hk, Nat.le_trans h.big hn⟩
theorem FitL.tup {n k : Nat} {ds : List D} (h : FitL n k ds) : Fit (n + 3) (k + 1) (.tup ds) := by
  refine ⟨?_, ?_, ?_, ?_⟩
  · rw [goodD]; exact h.good
  · simp only [toPy, PyData.showable]; exact h.show_
  · have := h.dp; rw [dpD]; omega
  · have := h.big; rw [bigD]; omega
theorem FitL.lst {n k : Nat} {ds : List D} (h : FitL n k ds) : Fit (n + 3) (k + 1) (.lst ds) := by
  refine ⟨?_, ?_, ?_, ?_⟩
  · rw [goodD]; exact h.good
  · simp only [toPy, PyData.showable]; exact h.show_
  · have := h.dp; rw [dpD]; omega
  · have := h.big; rw [bigD]; omega
theorem Fit.non {k : Nat} : Fit 4 k .non := ⟨rfl, rfl, Nat.zero_le _, Nat.le_refl _⟩
theorem Fit.bl {k : Nat} {b : Bool} : Fit 5 k (.bl b) := ⟨rfl, rfl, Nat.zero_le _, Nat.le_refl _⟩
theorem Fit.int {k j : Nat} {i : Int} (hj : 0 < j) (hj2 : j ≤ 500) (h : i.natAbs < 10 ^ j) : Fit (j + 1) k (.int i) := by
  refine ⟨rfl, ?_, Nat.zero_le _, ?_⟩
  · simp only [toPy, PyData.showable, decide_eq_true_eq]
    have h1 : i.natAbs < 2 ^ 1920 := Nat.lt_of_lt_of_le h (Nat.le_trans (Nat.pow_le_pow_right (by decide) hj2) (by decide +kernel))
    by_cases h0 : i.natAbs = 0
    · rw [h0]; decide
    · exact (Nat.log2_lt h0).mpr h1
  · have := int_text_length_le10 hj h
    rw [bigD]
    have e : (Str.ofString (toString i)).length = (toString i).length := PySem.ofString_length _
    omega
/-- a name or a word -/
def nmB (n : Nat) (x : Str) : Bool := okStr x && decide ((reprText x).length ≤ n)
theorem Fit.str {n k : Nat} {x : Str} (h : nmB n x = true) : Fit n k (.str x) := by
  unfold nmB at h
  rw [Bool.and_eq_true, decide_eq_true_eq] at h
  exact ⟨h.1, rfl, Nat.zero_le _, h.2⟩
namespace Ex
mutual
/-- all its names are some, all its numbers are some -/
def Al (p : Str → Prop) (q : Int → Prop) : Ex → Prop
  | num n => q n
  | use x => p x
  | op s a b => p s ∧ Al p q a ∧ Al p q b
  | lt x a b => p x ∧ Al p q a ∧ Al p q b
  | ite a b c => Al p q a ∧ Al p q b ∧ Al p q c
  | times a i s b c => p i ∧ p s ∧ Al p q a ∧ Al p q b ∧ Al p q c
  | tell a b => Al p q a ∧ Al p q b
  | stop a => Al p q a
  | call m f as => p m ∧ p f ∧ Als p q as
def Als (p : Str → Prop) (q : Int → Prop) : List Ex → Prop
  | [] => True
  | e :: es => Al p q e ∧ Als p q es
end
mutual
theorem Wf.al {nm : Str → Prop} {ah : Str → Str → Nat → Prop} {p : Str → Prop} {q : Int → Prop} (h1 : ∀ x, nm x → p x) (h2 : ∀ m f k, ah m f k → p m ∧ p f) (h3 : ∀ s ∈ signs, p s) (h4 : ∀ n, -(10 ^ 30) ≤ n → n ≤ 10 ^ 30 → q n) : ∀ (e : Ex) (sc : List Str), (∀ x ∈ sc, p x) → Wf nm ah sc e → Al p q e
  | num n, sc, hs, h => by rw [Wf] at h; rw [Al]; exact h4 n h.1 h.2
  | use x, sc, hs, h => by rw [Wf] at h; rw [Al]; exact hs x h
  | op s a b, sc, hs, h => by rw [Wf] at h; rw [Al]; exact ⟨h3 s h.1, Wf.al h1 h2 h3 h4 a sc hs h.2.1, Wf.al h1 h2 h3 h4 b sc hs h.2.2⟩
  | lt x a b, sc, hs, h => by
    rw [Wf] at h; rw [Al]
    exact ⟨h1 x h.1, Wf.al h1 h2 h3 h4 a sc hs h.2.1, Wf.al h1 h2 h3 h4 b _ (fun y hy => by rcases List.mem_cons.mp hy with rfl | hy; exact h1 _ h.1; exact hs y hy) h.2.2⟩
  | ite a b c, sc, hs, h => by rw [Wf] at h; rw [Al]; exact ⟨Wf.al h1 h2 h3 h4 a sc hs h.1, Wf.al h1 h2 h3 h4 b sc hs h.2.1, Wf.al h1 h2 h3 h4 c sc hs h.2.2⟩
  | times a i s b c, sc, hs, h => by
    rw [Wf] at h; rw [Al]
    exact ⟨h1 i h.1, h1 s h.2.1, Wf.al h1 h2 h3 h4 a sc hs h.2.2.2.1, Wf.al h1 h2 h3 h4 b sc hs h.2.2.2.2.1, Wf.al h1 h2 h3 h4 c _ (fun y hy => by
      rcases List.mem_cons.mp hy with rfl | hy
      · exact h1 _ h.1
      · rcases List.mem_cons.mp hy with rfl | hy
        · exact h1 _ h.2.1
        · exact hs y hy) h.2.2.2.2.2⟩
  | tell a b, sc, hs, h => by rw [Wf] at h; rw [Al]; exact ⟨Wf.al h1 h2 h3 h4 a sc hs h.1, Wf.al h1 h2 h3 h4 b sc hs h.2⟩
  | stop a, sc, hs, h => by rw [Wf] at h; rw [Al]; exact Wf.al h1 h2 h3 h4 a sc hs h
  | call m f as, sc, hs, h => by rw [Wf] at h; rw [Al]; exact ⟨(h2 _ _ _ h.1).1, (h2 _ _ _ h.1).2, Wfs.al h1 h2 h3 h4 as sc hs h.2⟩
theorem Wfs.al {nm : Str → Prop} {ah : Str → Str → Nat → Prop} {p : Str → Prop} {q : Int → Prop} (h1 : ∀ x, nm x → p x) (h2 : ∀ m f k, ah m f k → p m ∧ p f) (h3 : ∀ s ∈ signs, p s) (h4 : ∀ n, -(10 ^ 30) ≤ n → n ≤ 10 ^ 30 → q n) : ∀ (es : List Ex) (sc : List Str), (∀ x ∈ sc, p x) → Wfs nm ah sc es → Als p q es
  | [], _, _, _ => by rw [Als]; trivial
  | e :: es, sc, hs, h => by rw [Wfs] at h; rw [Als]; exact ⟨Wf.al h1 h2 h3 h4 e sc hs h.1, Wfs.al h1 h2 h3 h4 es sc hs h.2⟩
end
theorem wNum : nmB 12 "num" = true := by decide +kernel
theorem wUse : nmB 12 "use" = true := by decide +kernel
theorem wOp : nmB 12 "op" = true := by decide +kernel
theorem wLet : nmB 12 "let" = true := by decide +kernel
theorem wIf : nmB 12 "if" = true := by decide +kernel
theorem wTimes : nmB 12 "times" = true := by decide +kernel
theorem wTell : nmB 12 "tell" = true := by decide +kernel
theorem wStop : nmB 12 "stop" = true := by decide +kernel
theorem wCall : nmB 12 "call" = true := by decide +kernel
theorem cnt_pos (e : Ex) : 1 ≤ cnt e := by rw [cnt_eq]; omega
mutual
theorem fit : ∀ (e : Ex), Al (fun x => nmB 12 x = true) (fun n => n.natAbs < 10 ^ 31) e → Fit (80 * cnt e - 2) (2 * dep e + 2) e.toD
  | num n, h => by
    rw [Al] at h; rw [toD, cnt, dep]
    exact ((FitL.cons (.str wNum) (.cons (.int (by decide) (by decide) h) .nil)).tup (k := 0)).mono (by decide) (by decide)
  | use x, h => by
    rw [Al] at h; rw [toD, cnt, dep]
    exact ((FitL.cons (.str wUse) (.cons (.str h) .nil)).tup (k := 0)).mono (by decide) (by decide)
  | op s a b, h => by
    rw [Al] at h; rw [toD, cnt, dep]
    have pa := cnt_pos a
    have pb := cnt_pos b
    have ha := (fit a h.2.1).mono (Nat.le_refl _) (show _ ≤ 2 * max (dep a) (dep b) + 2 by omega)
    have hb := (fit b h.2.2).mono (Nat.le_refl _) (show _ ≤ 2 * max (dep a) (dep b) + 2 by omega)
    exact (FitL.cons (.str wOp) (.cons (.str h.1) (.cons ha (.cons hb .nil)))).tup.mono (by omega) (by omega)
  | lt s a b, h => by
    rw [Al] at h; rw [toD, cnt, dep]
    have pa := cnt_pos a
    have pb := cnt_pos b
    have ha := (fit a h.2.1).mono (Nat.le_refl _) (show _ ≤ 2 * max (dep a) (dep b) + 2 by omega)
    have hb := (fit b h.2.2).mono (Nat.le_refl _) (show _ ≤ 2 * max (dep a) (dep b) + 2 by omega)
    exact (FitL.cons (.str wLet) (.cons (.str h.1) (.cons ha (.cons hb .nil)))).tup.mono (by omega) (by omega)
  | ite a b c, h => by
    rw [Al] at h; rw [toD, cnt, dep]
    have pa := cnt_pos a
    have pb := cnt_pos b
    have pc := cnt_pos c
    have ha := (fit a h.1).mono (Nat.le_refl _) (show _ ≤ 2 * max (dep a) (max (dep b) (dep c)) + 2 by omega)
    have hb := (fit b h.2.1).mono (Nat.le_refl _) (show _ ≤ 2 * max (dep a) (max (dep b) (dep c)) + 2 by omega)
    have hc := (fit c h.2.2).mono (Nat.le_refl _) (show _ ≤ 2 * max (dep a) (max (dep b) (dep c)) + 2 by omega)
    exact (FitL.cons (.str wIf) (.cons ha (.cons hb (.cons hc .nil)))).tup.mono (by omega) (by omega)
  | times a i s b c, h => by
    rw [Al] at h; rw [toD, cnt, dep]
    have pa := cnt_pos a
    have pb := cnt_pos b
    have pc := cnt_pos c
    have ha := (fit a h.2.2.1).mono (Nat.le_refl _) (show _ ≤ 2 * max (dep a) (max (dep b) (dep c)) + 2 by omega)
    have hb := (fit b h.2.2.2.1).mono (Nat.le_refl _) (show _ ≤ 2 * max (dep a) (max (dep b) (dep c)) + 2 by omega)
    have hc := (fit c h.2.2.2.2).mono (Nat.le_refl _) (show _ ≤ 2 * max (dep a) (max (dep b) (dep c)) + 2 by omega)
    exact (FitL.cons (.str wTimes) (.cons ha (.cons (.str h.1) (.cons (.str h.2.1) (.cons hb (.cons hc .nil)))))).tup.mono (by omega) (by omega)
  | tell a b, h => by
    rw [Al] at h; rw [toD, cnt, dep]
    have pa := cnt_pos a
    have pb := cnt_pos b
    have ha := (fit a h.1).mono (Nat.le_refl _) (show _ ≤ 2 * max (dep a) (dep b) + 2 by omega)
    have hb := (fit b h.2).mono (Nat.le_refl _) (show _ ≤ 2 * max (dep a) (dep b) + 2 by omega)
    exact (FitL.cons (.str wTell) (.cons ha (.cons hb .nil))).tup.mono (by omega) (by omega)
  | stop a, h => by
    rw [Al] at h; rw [toD, cnt, dep]
    have pa := cnt_pos a
    have ha := fit a h
    exact (FitL.cons (.str wStop) (.cons ha .nil)).tup.mono (by omega) (by omega)
  | call m f as, h => by
    rw [Al] at h; rw [toD, cnt, dep]
    have ha := (fits as h.2.2).tup
    exact (FitL.cons (.str wCall) (.cons (.str h.1) (.cons (.str h.2.1) (.cons ha .nil)))).tup.mono (by omega) (by omega)
theorem fits : ∀ (es : List Ex), Als (fun x => nmB 12 x = true) (fun n => n.natAbs < 10 ^ 31) es → FitL (80 * cnts es) (2 * deps es + 2) (toDs es)
  | [], _ => by rw [toDs, cnts, deps]; exact FitL.nil
  | e :: es, h => by
    rw [Als] at h; rw [toDs, cnts, deps]
    have h1 := (fit e h.1).mono (Nat.le_refl _) (show _ ≤ 2 * max (dep e) (deps es) + 2 by omega)
    have h2 := (fits es h.2).mono (Nat.le_refl _) (show _ ≤ 2 * max (dep e) (deps es) + 2 by omega)
    have hp := cnt_pos e
    exact (FitL.cons h1 h2).mono (by omega) (Nat.le_refl _)
end
end Ex
/-! ### drawn programs -/
theorem pools_nm : pools.all (fun p => p.all (nmB 12)) = true := by decide +kernel
theorem namesL_nm {n : Int} {x : Str} (h : x ∈ namesL n) : nmB 12 x = true := by
  unfold namesL at h
  obtain ⟨k, _, rfl⟩ := List.mem_map.mp h
  exact List.all_eq_true.mp (List.all_eq_true.mp pools_nm _ (pool_mem n).1) _ (nameAt_mem n k).1
theorem signs_nm : ∀ s ∈ signs, nmB 12 s = true := by decide +kernel
theorem RowWf.al {n : Int} {pre : List (Str × Row)} {x : Str × Row} (h : RowWf n pre x) (hp : ∀ y ∈ pre, y.1 ∈ namesL (n / 7) ∧ y.2.f ∈ namesL (n / 7)) : Ex.Al (fun x => nmB 12 x = true) (fun n => n.natAbs < 10 ^ 31) x.2.b :=
  Ex.Wf.al (fun _ => namesL_nm) (fun m f k ⟨y, hy, e1, e2, _⟩ => by subst e1 e2; exact ⟨namesL_nm (hp y hy).1, namesL_nm (hp y hy).2⟩) signs_nm (fun n h1 h2 => by omega) x.2.b x.2.ps (fun y hy => namesL_nm (h.ps y hy)) h.wf
theorem strs_fit {k : Nat} {xs : List Str} (h : ∀ x ∈ xs, nmB 12 x = true) : FitL (xs.length * 14) k (xs.map D.str) := by
  have := FitL.each (n := 12) (k := k) (ds := xs.map D.str) fun d hd => by
    obtain ⟨x, hx, rfl⟩ := List.mem_map.mp hd
    exact .str (h x hx)
  rw [List.length_map] at this
  exact this
/-- a function that may be shown -/
structure RowFit (x : Str × Row) : Prop where
  row : Fit 622300 13 x.2.toD
  fn : Fit 622320 13 (fnD x)
  body : Fit 622080 12 x.2.b.toD
theorem rowFit {x : Str × Row} (hm : nmB 12 x.1 = true) (hf : nmB 12 x.2.f = true) (hp : ∀ y ∈ x.2.ps, nmB 12 y = true) (hl : x.2.ps.length ≤ 5) (hd : x.2.b.dep ≤ 5) (hc : x.2.b.cnt ≤ 7776) (ha : Ex.Al (fun x => nmB 12 x = true) (fun n => n.natAbs < 10 ^ 31) x.2.b) : RowFit x := by
  have hb : Fit 622078 12 x.2.b.toD := (Ex.fit x.2.b ha).mono (by omega) (by omega)
  have hps : Fit 73 12 (.tup (x.2.ps.map D.str)) := ((strs_fit (k := 0) hp).tup).mono (by omega) (by omega)
  exact ⟨(FitL.cons (.str hf) (.cons hps (.cons hb .nil))).tup.mono (by omega) (by omega), (FitL.cons (.str hm) (.cons (.str hf) (.cons hps (.cons hb .nil)))).tup.mono (by omega) (by omega), hb.mono (by omega) (by omega)⟩
theorem RowsWf.names {n : Int} : ∀ {xs pre : List (Str × Row)}, RowsWf n pre xs → ∀ x ∈ xs, x.1 ∈ namesL (n / 7) ∧ x.2.f ∈ namesL (n / 7)
  | y :: xs, pre, h, x, hx => by
    rcases List.mem_cons.mp hx with rfl | hx
    · exact ⟨h.1.m, h.1.f⟩
    · exact RowsWf.names h.2 x hx
theorem RowsWf.fit {n : Int} {xs : List (Str × Row)} (h : RowsWf n [] xs) : ∀ x ∈ xs, RowFit x := fun x hx => by
  have hr := h.mem hx
  rw [List.nil_append] at hr
  have hn := h.names x hx
  exact rowFit (namesL_nm hn.1) (namesL_nm hn.2) (fun y hy => namesL_nm (hr.ps y hy)) (by have := hr.len; omega) hr.dep hr.cnt (hr.al h.names)
/-- a program that may be shown: at most n functions in all, each within so much -/
theorem rooms_fit {n k : Nat} : ∀ {P : Pr}, (∀ q ∈ P, nmB 12 q.1 = true ∧ ∀ r ∈ q.2, Fit n k r.toD) → FitL ((flat P).length * (n + 2) + P.length * 24) (k + 2) (P.map rmD)
  | [], _ => ⟨rfl, rfl, Nat.zero_le _, Nat.zero_le _⟩
  | (m, rs) :: P, h => by
    have h1 := h (m, rs) List.mem_cons_self
    have h2 : FitL (rs.length * (n + 2)) k (rs.map Row.toD) := by
      have := FitL.each (n := n) (k := k) (ds := rs.map Row.toD) fun d hd => by
        obtain ⟨r, hr, rfl⟩ := List.mem_map.mp hd
        exact h1.2 r hr
      rw [List.length_map] at this
      exact this
    have h3 : Fit (rs.length * (n + 2) + 22) (k + 2) (rmD (m, rs)) := (FitL.cons (.str h1.1) (.cons h2.tup .nil)).tup.mono (by omega) (by omega)
    have h4 := rooms_fit (P := P) fun q hq => h q (List.mem_cons_of_mem _ hq)
    rw [List.map_cons, flat, List.length_append, List.length_map, List.length_cons, Nat.add_mul]
    exact (FitL.cons h3 h4).mono (by omega) (Nat.le_refl _)
theorem pg_fit {n k j : Nat} {P : Pr} (hl : (flat P).length ≤ k) (hP : P.length ≤ 8) (h : ∀ q ∈ P, nmB 12 q.1 = true ∧ ∀ r ∈ q.2, Fit n j r.toD) : Fit (k * (n + 2) + 200) (j + 3) (pgD P) := by
  have h1 := (rooms_fit h).tup
  have h2 : (flat P).length * (n + 2) ≤ k * (n + 2) := Nat.mul_le_mul_right _ hl
  exact h1.mono (by omega) (Nat.le_refl _)
end TP
set_option maxHeartbeats 4000000
namespace K15
open PySem L2 TP
def topS (i : Nat) : Stmt := PySem.Challenge.pw_turnpaper_k15_calls_of_calls.main.body.getD i (.Pass ⟨0, 0, 0, 0⟩)
abbrev f_functions : Nat := 0
abbrev s_functions : Stmt := topS 1
theorem sc_functions : FnScope ["program", "found", "m", "rows", "row"] ["program"] (defScope s_functions) := ⟨rfl, rfl, rfl, by decide +kernel, rfl, by decide +kernel, by decide +kernel⟩
abbrev f_signed : Nat := 1
abbrev s_signed : Stmt := topS 4
theorem sc_signed : FnScope ["sign", "one", "other"] ["sign", "one", "other"] (defScope s_signed) := ⟨rfl, rfl, rfl, by decide +kernel, rfl, by decide +kernel, by decide +kernel⟩
abbrev f_Work___init__ : Nat := 2
abbrev s_Work___init__ : Stmt := clsS (topS 5) 0
theorem sc_Work___init__ : FnScope ["self", "expression", "values"] ["self", "expression", "values"] (defScope s_Work___init__) := ⟨rfl, rfl, rfl, by decide +kernel, rfl, by decide +kernel, by decide +kernel⟩
abbrev f_Work_work : Nat := 3
abbrev s_Work_work : Stmt := clsS (topS 5) 1
theorem sc_Work_work : FnScope ["self", "run", "word", "first"] ["self", "run"] (defScope s_Work_work) := ⟨rfl, rfl, rfl, by decide +kernel, rfl, by decide +kernel, by decide +kernel⟩
abbrev f_Enter___init__ : Nat := 4
abbrev s_Enter___init__ : Stmt := clsS (topS 6) 0
theorem sc_Enter___init__ : FnScope ["self", "expression"] ["self", "expression"] (defScope s_Enter___init__) := ⟨rfl, rfl, rfl, by decide +kernel, rfl, by decide +kernel, by decide +kernel⟩
abbrev f_Enter_work : Nat := 5
abbrev s_Enter_work : Stmt := clsS (topS 6) 1
theorem sc_Enter_work : FnScope ["self", "run", "args", "params", "body", "name"] ["self", "run"] (defScope s_Enter_work) := ⟨rfl, rfl, rfl, by decide +kernel, rfl, by decide +kernel, by decide +kernel⟩
abbrev f_Sign___init__ : Nat := 6
abbrev s_Sign___init__ : Stmt := clsS (topS 7) 0
theorem sc_Sign___init__ : FnScope ["self", "sign"] ["self", "sign"] (defScope s_Sign___init__) := ⟨rfl, rfl, rfl, by decide +kernel, rfl, by decide +kernel, by decide +kernel⟩
abbrev f_Sign_work : Nat := 7
abbrev s_Sign_work : Stmt := clsS (topS 7) 1
theorem sc_Sign_work : FnScope ["self", "run", "other", "one"] ["self", "run"] (defScope s_Sign_work) := ⟨rfl, rfl, rfl, by decide +kernel, rfl, by decide +kernel, by decide +kernel⟩
abbrev f_Behind___init__ : Nat := 8
abbrev s_Behind___init__ : Stmt := clsS (topS 8) 0
theorem sc_Behind___init__ : FnScope ["self", "expression", "values"] ["self", "expression", "values"] (defScope s_Behind___init__) := ⟨rfl, rfl, rfl, by decide +kernel, rfl, by decide +kernel, by decide +kernel⟩
abbrev f_Behind_work : Nat := 9
abbrev s_Behind_work : Stmt := clsS (topS 8) 1
theorem sc_Behind_work : FnScope ["self", "run", "word", "worth", "values"] ["self", "run"] (defScope s_Behind_work) := ⟨rfl, rfl, rfl, by decide +kernel, rfl, by decide +kernel, by decide +kernel⟩
abbrev f_Begin___init__ : Nat := 10
abbrev s_Begin___init__ : Stmt := clsS (topS 9) 0
theorem sc_Begin___init__ : FnScope ["self", "expression", "values"] ["self", "expression", "values"] (defScope s_Begin___init__) := ⟨rfl, rfl, rfl, by decide +kernel, rfl, by decide +kernel, by decide +kernel⟩
abbrev f_Begin_work : Nat := 11
abbrev s_Begin_work : Stmt := clsS (topS 9) 1
theorem sc_Begin_work : FnScope ["self", "run", "total", "many"] ["self", "run"] (defScope s_Begin_work) := ⟨rfl, rfl, rfl, by decide +kernel, rfl, by decide +kernel, by decide +kernel⟩
abbrev f_Round___init__ : Nat := 12
abbrev s_Round___init__ : Stmt := clsS (topS 10) 0
theorem sc_Round___init__ : FnScope ["self", "expression", "values", "number", "many"] ["self", "expression", "values", "number", "many"] (defScope s_Round___init__) := ⟨rfl, rfl, rfl, by decide +kernel, rfl, by decide +kernel, by decide +kernel⟩
abbrev f_Round_work : Nat := 13
abbrev s_Round_work : Stmt := clsS (topS 10) 1
theorem sc_Round_work : FnScope ["self", "run", "values"] ["self", "run"] (defScope s_Round_work) := ⟨rfl, rfl, rfl, by decide +kernel, rfl, by decide +kernel, by decide +kernel⟩
abbrev f_Run___init__ : Nat := 14
abbrev s_Run___init__ : Stmt := clsS (topS 11) 0
theorem sc_Run___init__ : FnScope ["self", "program", "m", "f", "params", "body"] ["self", "program"] (defScope s_Run___init__) := ⟨rfl, rfl, rfl, by decide +kernel, rfl, by decide +kernel, by decide +kernel⟩
abbrev f_Run_later : Nat := 15
abbrev s_Run_later : Stmt := clsS (topS 11) 1
theorem sc_Run_later : FnScope ["self", "behind", "expressions", "values", "one"] ["self", "behind", "expressions", "values"] (defScope s_Run_later) := ⟨rfl, rfl, rfl, by decide +kernel, rfl, by decide +kernel, by decide +kernel⟩
abbrev f_Run_finish : Nat := 16
abbrev s_Run_finish : Stmt := clsS (topS 11) 2
theorem sc_Run_finish : FnScope ["self", "end"] ["self", "end"] (defScope s_Run_finish) := ⟨rfl, rfl, rfl, by decide +kernel, rfl, by decide +kernel, by decide +kernel⟩
abbrev f_Run_ended : Nat := 17
abbrev s_Run_ended : Stmt := clsS (topS 11) 3
theorem sc_Run_ended : FnScope ["self"] ["self"] (defScope s_Run_ended) := ⟨rfl, rfl, rfl, by decide +kernel, rfl, by decide +kernel, by decide +kernel⟩
abbrev f_run : Nat := 18
abbrev s_run : Stmt := topS 12
theorem sc_run : FnScope ["program", "m", "f", "numbers", "found", "params", "body"] ["program", "m", "f", "numbers"] (defScope s_run) := ⟨rfl, rfl, rfl, by decide +kernel, rfl, by decide +kernel, by decide +kernel⟩
abbrev f__law_cell : Nat := 19
abbrev s__law_cell : Stmt := topS 14
theorem sc__law_cell : FnScope ["_law_cells", "_law_spot", "_law_k", "_law_base", "_law_own", "_law_turn"] ["_law_cells", "_law_spot"] (defScope s__law_cell) := ⟨rfl, rfl, rfl, by decide +kernel, rfl, by decide +kernel, by decide +kernel⟩
abbrev f__law_deep : Nat := 20
abbrev s__law_deep : Stmt := topS 15
theorem sc__law_deep : FnScope ["_law_n", "_law_inner", "_law_high", "_law_told", "_law_k", "_law_number"] ["_law_n", "_law_inner", "_law_high", "_law_told"] (defScope s__law_deep) := ⟨rfl, rfl, rfl, by decide +kernel, rfl, by decide +kernel, by decide +kernel⟩
abbrev f__law_functions : Nat := 21
abbrev s__law_functions : Stmt := topS 16
theorem sc__law_functions : FnScope ["_law_cells", "_law_spot", "_law_most", "_law_table", "_law_modules", "_law_m", "_law_rows", "_law_f", "_law_n", "_law_row", "_law_inner", "_law_keys", "_law_body", "_law_more", "_law_high", "_law_told", "_law_key", "_law_is_turned", "_law_args", "_law_some", "_law_one", "_law_other", "_law_k"] ["_law_cells", "_law_spot", "_law_most"] (defScope s__law_functions) := ⟨rfl, rfl, rfl, by decide +kernel, rfl, by decide +kernel, by decide +kernel⟩
abbrev f_law : Nat := 22
abbrev s_law : Stmt := topS 17
theorem sc_law : FnScope ["_law_script", "_law_spot", "_law_k", "_law_keys", "_law_some", "_law_program", "_law_table", "_law_m", "_law_f", "_law_found", "_law_x", "_law_y", "_law_told", "_law_one", "_law_other", "_law_more", "_law_turn"] ["_law_script"] (defScope s_law) := ⟨rfl, rfl, rfl, by decide +kernel, rfl, by decide +kernel, by decide +kernel⟩
def el_functions_0 (Φ : Nat → Fn) : FD := (dEF (dOp2 addD (dTup (dCons (dVar 2) dNil)) (dVarB 4)))
theorem el_functions_0_eq (Φ : Nat → Fn) (ρ : EnvD) (M : Store) : el_functions_0 Φ ρ M = (dEF (dOp2 addD (dTup (dCons (dVar 2) dNil)) (dVarB 4))) ρ M := rfl
def lp_functions_0 (Φ : Nat → Fn) : FS := (sSeq (sExt 1 (dEF (dLc (dIt (dVar 3)) (bName 4) dYes (el_functions_0 Φ) [4]))) sNil)
theorem lp_functions_0_eq (Φ : Nat → Fn) (ρ : EnvD) (M : Store) : lp_functions_0 Φ ρ M = (sSeq (sExt 1 (dEF (dLc (dIt (dVar 3)) (bName 4) dYes (el_functions_0 Φ) [4]))) sNil) ρ M := rfl
def m_functions (Φ : Nat → Fn) : FS := (sSeq (sSet 1 (dLst dNil)) (sSeq (sFor (dIt (dVar 0)) (bTup [2, 3]) (lp_functions_0 Φ)) (sSeq (sRetV 1) sNil)))
def m_signed (Φ : Nat → Fn) : FS := (sSeq (sIf (dBo (dOp2 eqD (dVarB 0) (dC (.str "+")))) (sSeq (sRet (dOp2 addD (dVarB 1) (dVarB 2))) sNil) sNil) (sSeq (sIf (dBo (dOp2 eqD (dVarB 0) (dC (.str "-")))) (sSeq (sRet (dOp2 subD (dVarB 1) (dVarB 2))) sNil) sNil) (sSeq (sIf (dBo (dOp2 eqD (dVarB 0) (dC (.str "*")))) (sSeq (sRet (dOp2 mulD (dVarB 1) (dVarB 2))) sNil) sNil) (sSeq (sIf (dBo (dOp2 eqD (dVarB 0) (dC (.str "/")))) (sSeq (sRet (dOp2 fdivD (dVarB 1) (dVarB 2))) sNil) sNil) (sSeq (sIf (dBo (dOp2 eqD (dVarB 0) (dC (.str "&")))) (sSeq (sRet (dOp2 subD (dVarB 1) (dEF (dOp2 mulD (dVarB 2) (dEF (dOp2 fdivD (dVarB 1) (dVarB 2))))))) sNil) sNil) (sSeq (sRet (dIf (dBo (dOp2 eqD (dVarB 0) (dC (.str "=")))) (dPr intD (dCons (dEF (dOp2 eqD (dVarB 1) (dVarB 2))) dNil)) (dPr intD (dCons (dEF (dOp2 (cmpD fun i j => decide (i < j)) (dVarB 1) (dVarB 2))) dNil)))) sNil))))))
def m_Work___init__ (Φ : Nat → Fn) : FS := (sSeq (sFldS "Work" "tree" (dVar 1) (dVarB 0)) (sSeq (sFldS "Work" "scope" (dVar 2) (dVarB 0)) sNil))
def m_Work_work (Φ : Nat → Fn) : FS := (sSeq (sSet 2 (dFE (dEF (dOp2 idxD (dFld "tree" (dVarB 0)) (dC (.int 0)))))) (sSeq (sIf (dBo (dOp2 eqD (dVarB 2) (dC (.str "num")))) (sSeq (sAppR (dFld "worths" (dVarB 1)) (dEF (dOp2 idxD (dFld "tree" (dVarB 0)) (dC (.int 1))))) sNil) (sSeq (sIf (dBo (dOp2 eqD (dVarB 2) (dC (.str "use")))) (sSeq (sAppR (dFld "worths" (dVarB 1)) (dEF (dOp2 dgetD (dFld "scope" (dVarB 0)) (dEF (dOp2 idxD (dFld "tree" (dVarB 0)) (dC (.int 1))))))) sNil) (sSeq (sIf (dBo (dOp2 eqD (dVarB 2) (dC (.str "call")))) (sSeq (sExpr (dMethC 4 "later" [("Run", f_Run_later)] Φ (dVarB 1) (dCons (dEF (dMake "Enter" 2 (Φ f_Enter___init__) (dCons (dFld "tree" (dVarB 0)) dNil))) (dCons (dEF (dOp2 idxD (dFld "tree" (dVarB 0)) (dC (.int 3)))) (dCons (dFld "scope" (dVarB 0)) dNil))))) sNil) (sSeq (sIf (dBo (dOp2 eqD (dVarB 2) (dC (.str "op")))) (sSeq (sExpr (dMethC 4 "later" [("Run", f_Run_later)] Φ (dVarB 1) (dCons (dEF (dMake "Sign" 2 (Φ f_Sign___init__) (dCons (dEF (dOp2 idxD (dFld "tree" (dVarB 0)) (dC (.int 1)))) dNil))) (dCons (dEF (dSl slD (dFld "tree" (dVarB 0)) (dSo (dC (.int 2))) dNo)) (dCons (dFld "scope" (dVarB 0)) dNil))))) sNil) (sSeq (sIf (dBo (dOp2 eqD (dVarB 2) (dC (.str "times")))) (sSeq (sExpr (dMethC 4 "later" [("Run", f_Run_later)] Φ (dVarB 1) (dCons (dEF (dMake "Begin" 3 (Φ f_Begin___init__) (dCons (dFld "tree" (dVarB 0)) (dCons (dFld "scope" (dVarB 0)) dNil)))) (dCons (dTup (dCons (dEF (dOp2 idxD (dFld "tree" (dVarB 0)) (dC (.int 1)))) (dCons (dEF (dOp2 idxD (dFld "tree" (dVarB 0)) (dC (.int 4)))) dNil))) (dCons (dFld "scope" (dVarB 0)) dNil))))) sNil) (sSeq (sSet 3 (dFE (dEF (dIf (dBo (dOp2 eqD (dVarB 2) (dC (.str "let")))) (dOp2 idxD (dFld "tree" (dVarB 0)) (dC (.int 2))) (dOp2 idxD (dFld "tree" (dVarB 0)) (dC (.int 1))))))) (sSeq (sExpr (dMethC 4 "later" [("Run", f_Run_later)] Φ (dVarB 1) (dCons (dEF (dMake "Behind" 3 (Φ f_Behind___init__) (dCons (dFld "tree" (dVarB 0)) (dCons (dFld "scope" (dVarB 0)) dNil)))) (dCons (dTup (dCons (dVar 3) dNil)) (dCons (dFld "scope" (dVarB 0)) dNil))))) sNil))) sNil)) sNil)) sNil)) sNil)) sNil))
def m_Enter___init__ (Φ : Nat → Fn) : FS := (sSeq (sFldS "Enter" "tree" (dVar 1) (dVarB 0)) sNil)
def el_Enter_work_0 (Φ : Nat → Fn) : FD := (dPopR (dFld "worths" (dVarB 1)))
theorem el_Enter_work_0_eq (Φ : Nat → Fn) (ρ : EnvD) (M : Store) : el_Enter_work_0 Φ ρ M = (dPopR (dFld "worths" (dVarB 1))) ρ M := rfl
def m_Enter_work (Φ : Nat → Fn) : FS := (sSeq (sAsg (bTup [3, 4]) (dEF (dOp2 dgetD (dFld "rows" (dVarB 1)) (dEF (dSl slD (dFld "tree" (dVarB 0)) (dSo (dC (.int 1))) (dSo (dC (.int 3)))))))) (sSeq (sSet 2 (dLc (dIt (dVar 3)) (bName 5) dYes (el_Enter_work_0 Φ) [5])) (sSeq (sExpr (dMethC 4 "later" [("Run", f_Run_later)] Φ (dVarB 1) (dCons (dC .non) (dCons (dTup (dCons (dVar 4) dNil)) (dCons (dDictZR (dVar 3) (dVarB 2)) dNil))))) sNil)))
def m_Sign___init__ (Φ : Nat → Fn) : FS := (sSeq (sFldS "Sign" "sign" (dVar 1) (dVarB 0)) sNil)
def m_Sign_work (Φ : Nat → Fn) : FS := (sSeq (sSet 2 (dFE (dPopR (dFld "worths" (dVarB 1))))) (sSeq (sSet 3 (dFE (dPopR (dFld "worths" (dVarB 1))))) (sSeq (sIf (dAnd (dBo (dOp2 eqD (dVarB 2) (dC (.int 0)))) (dBo (dOp2 inD (dFld "sign" (dVarB 0)) (dTup (dCons (dC (.str "/")) (dCons (dC (.str "&")) dNil)))))) (sSeq (sExpr (dMethC 2 "finish" [("Run", f_Run_finish)] Φ (dVarB 1) (dCons (dTup (dCons (dC (.str "zero")) dNil)) dNil))) sNil) (sSeq (sAppR (dFld "worths" (dVarB 1)) (dEF (dCall 3 (Φ f_signed) (dCons (dFld "sign" (dVarB 0)) (dCons (dVar 3) (dCons (dVar 2) dNil)))))) sNil)) sNil)))
def m_Behind___init__ (Φ : Nat → Fn) : FS := (sSeq (sFldS "Behind" "tree" (dVar 1) (dVarB 0)) (sSeq (sFldS "Behind" "scope" (dVar 2) (dVarB 0)) sNil))
def m_Behind_work (Φ : Nat → Fn) : FS := (sSeq (sSet 2 (dFE (dEF (dOp2 idxD (dFld "tree" (dVarB 0)) (dC (.int 0)))))) (sSeq (sSet 3 (dFE (dPopR (dFld "worths" (dVarB 1))))) (sSeq (sSet 4 (dFE (dNewD copyD (dFld "scope" (dVarB 0))))) (sSeq (sIf (dBo (dOp2 eqD (dVarB 2) (dC (.str "stop")))) (sSeq (sExpr (dMethC 2 "finish" [("Run", f_Run_finish)] Φ (dVarB 1) (dCons (dTup (dCons (dC (.str "stop")) (dCons (dVar 3) dNil))) dNil))) sNil) (sSeq (sIf (dBo (dOp2 eqD (dVarB 2) (dC (.str "if")))) (sSeq (sExpr (dMethC 4 "later" [("Run", f_Run_later)] Φ (dVarB 1) (dCons (dC .non) (dCons (dTup (dCons (dEF (dIf (dBo (dOp2 neD (dVarB 3) (dC (.int 0)))) (dOp2 idxD (dFld "tree" (dVarB 0)) (dC (.int 2))) (dOp2 idxD (dFld "tree" (dVarB 0)) (dC (.int 3))))) dNil)) (dCons (dVar 4) dNil))))) sNil) (sSeq (sIf (dBo (dOp2 eqD (dVarB 2) (dC (.str "tell")))) (sSeq (sAppR (dFld "told" (dVarB 1)) (dVar 3)) (sSeq (sExpr (dMethC 4 "later" [("Run", f_Run_later)] Φ (dVarB 1) (dCons (dC .non) (dCons (dTup (dCons (dEF (dOp2 idxD (dFld "tree" (dVarB 0)) (dC (.int 2)))) dNil)) (dCons (dVar 4) dNil))))) sNil)) (sSeq (sPutD (dVar 3) (dVarB 4) (dEF (dOp2 idxD (dFld "tree" (dVarB 0)) (dC (.int 1))))) (sSeq (sExpr (dMethC 4 "later" [("Run", f_Run_later)] Φ (dVarB 1) (dCons (dC .non) (dCons (dTup (dCons (dEF (dOp2 idxD (dFld "tree" (dVarB 0)) (dC (.int 3)))) dNil)) (dCons (dVar 4) dNil))))) sNil))) sNil)) sNil)) sNil))))
def m_Begin___init__ (Φ : Nat → Fn) : FS := (sSeq (sFldS "Begin" "tree" (dVar 1) (dVarB 0)) (sSeq (sFldS "Begin" "scope" (dVar 2) (dVarB 0)) sNil))
def m_Begin_work (Φ : Nat → Fn) : FS := (sSeq (sSet 2 (dFE (dPopR (dFld "worths" (dVarB 1))))) (sSeq (sSet 3 (dFE (dPopR (dFld "worths" (dVarB 1))))) (sSeq (sAppR (dFld "worths" (dVarB 1)) (dVar 2)) (sSeq (sIf (dBo (dOp2 (cmpD fun i j => decide (j < i)) (dVarB 3) (dC (.int 1000)))) (sSeq (sExpr (dMethC 2 "finish" [("Run", f_Run_finish)] Φ (dVarB 1) (dCons (dTup (dCons (dC (.str "far")) dNil)) dNil))) sNil) (sSeq (sAppR (dFld "deeds" (dVarB 1)) (dEF (dMake "Round" 5 (Φ f_Round___init__) (dCons (dFld "tree" (dVarB 0)) (dCons (dFld "scope" (dVarB 0)) (dCons (dC (.int 0)) (dCons (dVar 3) dNil))))))) sNil)) sNil))))
def m_Round___init__ (Φ : Nat → Fn) : FS := (sSeq (sFldS "Round" "tree" (dVar 1) (dVarB 0)) (sSeq (sFldS "Round" "scope" (dVar 2) (dVarB 0)) (sSeq (sFldS "Round" "turn" (dVar 3) (dVarB 0)) (sSeq (sFldS "Round" "turns" (dVar 4) (dVarB 0)) sNil))))
def m_Round_work (Φ : Nat → Fn) : FS := (sSeq (sIf (dBo (dOp2 (cmpD fun i j => decide (i < j)) (dFld "turn" (dVarB 0)) (dFld "turns" (dVarB 0)))) (sSeq (sSet 2 (dFE (dNewD copyD (dFld "scope" (dVarB 0))))) (sSeq (sPutD (dFld "turn" (dVarB 0)) (dVarB 2) (dEF (dOp2 idxD (dFld "tree" (dVarB 0)) (dC (.int 2))))) (sSeq (sPutD (dPopR (dFld "worths" (dVarB 1))) (dVarB 2) (dEF (dOp2 idxD (dFld "tree" (dVarB 0)) (dC (.int 3))))) (sSeq (sExpr (dMethC 4 "later" [("Run", f_Run_later)] Φ (dVarB 1) (dCons (dEF (dMake "Round" 5 (Φ f_Round___init__) (dCons (dFld "tree" (dVarB 0)) (dCons (dFld "scope" (dVarB 0)) (dCons (dEF (dOp2 addD (dFld "turn" (dVarB 0)) (dC (.int 1)))) (dCons (dFld "turns" (dVarB 0)) dNil)))))) (dCons (dTup (dCons (dEF (dOp2 idxD (dFld "tree" (dVarB 0)) (dC (.int 5)))) dNil)) (dCons (dVar 2) dNil))))) sNil)))) sNil) sNil)
def el_Run___init___0 (Φ : Nat → Fn) : FD := (dTup (dCons (dTup (dCons (dVar 2) (dCons (dVar 3) dNil))) (dCons (dTup (dCons (dVar 4) (dCons (dVar 5) dNil))) dNil)))
theorem el_Run___init___0_eq (Φ : Nat → Fn) (ρ : EnvD) (M : Store) : el_Run___init___0 Φ ρ M = (dTup (dCons (dTup (dCons (dVar 2) (dCons (dVar 3) dNil))) (dCons (dTup (dCons (dVar 4) (dCons (dVar 5) dNil))) dNil))) ρ M := rfl
def m_Run___init__ (Φ : Nat → Fn) : FS := (sSeq (sFldS "Run" "rows" (dNewD pairTD (dEF (dLc (dIt (dEF (dCall 1 (Φ f_functions) (dCons (dVar 1) dNil)))) (bTup [2, 3, 4, 5]) dYes (el_Run___init___0 Φ) [2, 3, 4, 5]))) (dVarB 0)) (sSeq (sFldS "Run" "deeds" (dEF (dRef (dLst dNil))) (dVarB 0)) (sSeq (sFldS "Run" "worths" (dEF (dRef (dLst dNil))) (dVarB 0)) (sSeq (sFldS "Run" "told" (dEF (dRef (dLst dNil))) (dVarB 0)) (sSeq (sFldS "Run" "end" (dC .non) (dVarB 0)) sNil)))))
def lp_Run_later_0 (Φ : Nat → Fn) : FS := (sSeq (sAppR (dFld "deeds" (dVarB 0)) (dEF (dMake "Work" 3 (Φ f_Work___init__) (dCons (dVar 4) (dCons (dVar 3) dNil))))) sNil)
theorem lp_Run_later_0_eq (Φ : Nat → Fn) (ρ : EnvD) (M : Store) : lp_Run_later_0 Φ ρ M = (sSeq (sAppR (dFld "deeds" (dVarB 0)) (dEF (dMake "Work" 3 (Φ f_Work___init__) (dCons (dVar 4) (dCons (dVar 3) dNil))))) sNil) ρ M := rfl
def m_Run_later (Φ : Nat → Fn) : FS := (sSeq (sIf (dBo (dOp2 isntD (dVarB 1) (dC .non))) (sSeq (sAppR (dFld "deeds" (dVarB 0)) (dVar 1)) sNil) sNil) (sSeq (sFor (dRev (dVar 2)) (bName 4) (lp_Run_later_0 Φ)) sNil))
def m_Run_finish (Φ : Nat → Fn) : FS := (sSeq (sFldS "Run" "end" (dVar 1) (dVarB 0)) sNil)
def wh_Run_ended_0 (Φ : Nat → Fn) : FS := (sSeq (sExpr (dMethC 2 "work" [("Work", f_Work_work), ("Enter", f_Enter_work), ("Sign", f_Sign_work), ("Behind", f_Behind_work), ("Begin", f_Begin_work), ("Round", f_Round_work)] Φ (dPopR (dFld "deeds" (dVarB 0))) (dCons (dVar 0) dNil))) sNil)
theorem wh_Run_ended_0_eq (Φ : Nat → Fn) (ρ : EnvD) (M : Store) : wh_Run_ended_0 Φ ρ M = (sSeq (sExpr (dMethC 2 "work" [("Work", f_Work_work), ("Enter", f_Enter_work), ("Sign", f_Sign_work), ("Behind", f_Behind_work), ("Begin", f_Begin_work), ("Round", f_Round_work)] Φ (dPopR (dFld "deeds" (dVarB 0))) (dCons (dVar 0) dNil))) sNil) ρ M := rfl
def wc_Run_ended_0 (Φ : Nat → Fn) : FB := (dAnd (dBo (dOp2 isD (dFld "end" (dVarB 0)) (dC .non))) (dBo (dOp2 neLD (dFld "deeds" (dVarB 0)) (dEF (dLst dNil)))))
theorem wc_Run_ended_0_eq (Φ : Nat → Fn) (ρ : EnvD) (M : Store) : wc_Run_ended_0 Φ ρ M = (dAnd (dBo (dOp2 isD (dFld "end" (dVarB 0)) (dC .non))) (dBo (dOp2 neLD (dFld "deeds" (dVarB 0)) (dEF (dLst dNil))))) ρ M := rfl
def m_Run_ended (Φ : Nat → Fn) : FS := (sSeq (sWhile Lw (wc_Run_ended_0 Φ) (wh_Run_ended_0 Φ)) (sSeq (sRet (dFE (dTup (dCons (dFld "told" (dVarB 0)) (dCons (dEF (dIf (dBo (dOp2 isD (dFld "end" (dVarB 0)) (dC .non))) (dFE (dTup (dCons (dC (.str "value")) (dCons (dEF (dOp2 idxD (dFld "worths" (dVarB 0)) (dC (.int 0)))) dNil)))) (dFE (dFld "end" (dVarB 0))))) dNil))))) sNil))
def m_run (Φ : Nat → Fn) : FS := (sSeq (sSet 4 (dFE (dEF (dMake "Run" 2 (Φ f_Run___init__) (dCons (dVar 0) dNil))))) (sSeq (sAsg (bTup [5, 6]) (dEF (dOp2 dgetD (dFld "rows" (dVarB 4)) (dTup (dCons (dVar 1) (dCons (dVar 2) dNil)))))) (sSeq (sExpr (dMethC 4 "later" [("Run", f_Run_later)] Φ (dVarB 4) (dCons (dC .non) (dCons (dTup (dCons (dVar 6) dNil)) (dCons (dDictZ (dCons (dVar 5) (dCons (dVar 3) dNil))) dNil))))) (sSeq (sRet (dMethC 1 "ended" [("Run", f_Run_ended)] Φ (dVarB 4) dNil)) sNil))))
def lp__law_cell_0 (Φ : Nat → Fn) : FS := (sSeq (sSet 4 (dFE (dEF (dOp2 fdivD (dVarB 4) (dC (.int 306783379)))))) sNil)
theorem lp__law_cell_0_eq (Φ : Nat → Fn) (ρ : EnvD) (M : Store) : lp__law_cell_0 Φ ρ M = (sSeq (sSet 4 (dFE (dEF (dOp2 fdivD (dVarB 4) (dC (.int 306783379)))))) sNil) ρ M := rfl
def m__law_cell (Φ : Nat → Fn) : FS := (sSeq (sPutR (dEF (dOp2 addD (dEF (dOp2 idxD (dVarB 1) (dC (.int 0)))) (dC (.int 1)))) (dVarB 1) (dC (.int 0))) (sSeq (sSet 2 (dFE (dEF (dOp2 idxD (dVarB 1) (dC (.int 0)))))) (sSeq (sSet 3 (dFE (dEF (dOp2 addD (dEF (dOp2 mulD (dEF (dOp2 mulD (dC (.int 31)) (dVarB 2))) (dVarB 2))) (dEF (dOp2 mulD (dC (.int 7919)) (dVarB 2))))))) (sSeq (sIf (dAnd (dBo (dOp2 (cmpD fun i j => decide (j < i)) (dEF (dPr lenD (dCons (dVarB 0) dNil))) (dC (.int 0)))) (dAnd (dBo (dOp2 (cmpD fun i j => decide (j ≤ i)) (dEF (dOp2 idxD (dVarB 0) (dEF (dOp2 modD (dVarB 2) (dEF (dPr lenD (dCons (dVarB 0) dNil))))))) (dEF (dOp2 powD (dC (.int 10)) (dC (.int 18)))))) (dBo (dOp2 (cmpD fun i j => decide (i < j)) (dEF (dOp2 fdivD (dVarB 2) (dEF (dPr lenD (dCons (dVarB 0) dNil))))) (dC (.int 60)))))) (sSeq (sSet 4 (dFE (dEF (dOp2 idxD (dVarB 0) (dEF (dOp2 modD (dVarB 2) (dEF (dPr lenD (dCons (dVarB 0) dNil))))))))) (sSeq (sFor (dRng1 (dCons (dEF (dOp2 fdivD (dVarB 2) (dEF (dPr lenD (dCons (dVarB 0) dNil))))) dNil)) (bName 5) (lp__law_cell_0 Φ)) (sSeq (sIf (dBo (dOp2 (cmpD fun i j => decide (j < i)) (dVarB 4) (dC (.int 0)))) (sSeq (sRet (dOp2 modD (dVarB 4) (dC (.int 306783379)))) sNil) sNil) sNil))) sNil) (sSeq (sIf (dBo (dOp2 (cmpD fun i j => decide (j < i)) (dEF (dPr lenD (dCons (dVarB 0) dNil))) (dC (.int 0)))) (sSeq (sSet 3 (dFE (dEF (dOp2 addD (dVarB 3) (dEF (dOp2 mulD (dEF (dOp2 modD (dEF (dOp2 idxD (dVarB 0) (dEF (dOp2 modD (dVarB 2) (dEF (dPr lenD (dCons (dVarB 0) dNil))))))) (dC (.int 2147483629)))) (dEF (dOp2 addD (dC (.int 1)) (dEF (dOp2 fdivD (dVarB 2) (dEF (dPr lenD (dCons (dVarB 0) dNil))))))))))))) sNil) sNil) (sSeq (sRet (dOp2 fdivD (dEF (dOp2 modD (dEF (dOp2 mulD (dEF (dOp2 modD (dEF (dOp2 mulD (dVarB 3) (dC (.int 48271)))) (dC (.int 2147483647)))) (dC (.int 69621)))) (dC (.int 2147483629)))) (dC (.int 7)))) sNil))))))
def lp__law_deep_0 (Φ : Nat → Fn) : FS := (sSeq (sSet 5 (dFE (dTup (dCons (dC (.str "num")) (dCons (dEF (dOp2 addD (dC (.int 1)) (dEF (dOp2 modD (dEF (dOp2 addD (dVarB 0) (dVarB 4))) (dC (.int 3)))))) dNil))))) (sSeq (sIf (dBo (dOp2 eqD (dEF (dOp2 modD (dEF (dOp2 addD (dEF (dOp2 fdivD (dVarB 0) (dC (.int 3)))) (dVarB 4))) (dC (.int 9)))) (dC (.int 0)))) (sSeq (sSet 5 (dFE (dTup (dCons (dC (.str "tell")) (dCons (dTup (dCons (dC (.str "num")) (dCons (dVar 4) dNil))) (dCons (dVar 5) dNil)))))) (sSeq (sInsR (dVarB 3) (dVar 4)) sNil)) sNil) (sSeq (sSet 1 (dFE (dTup (dCons (dC (.str "op")) (dCons (dC (.str "+")) (dCons (dVar 5) (dCons (dVar 1) dNil))))))) sNil)))
theorem lp__law_deep_0_eq (Φ : Nat → Fn) (ρ : EnvD) (M : Store) : lp__law_deep_0 Φ ρ M = (sSeq (sSet 5 (dFE (dTup (dCons (dC (.str "num")) (dCons (dEF (dOp2 addD (dC (.int 1)) (dEF (dOp2 modD (dEF (dOp2 addD (dVarB 0) (dVarB 4))) (dC (.int 3)))))) dNil))))) (sSeq (sIf (dBo (dOp2 eqD (dEF (dOp2 modD (dEF (dOp2 addD (dEF (dOp2 fdivD (dVarB 0) (dC (.int 3)))) (dVarB 4))) (dC (.int 9)))) (dC (.int 0)))) (sSeq (sSet 5 (dFE (dTup (dCons (dC (.str "tell")) (dCons (dTup (dCons (dC (.str "num")) (dCons (dVar 4) dNil))) (dCons (dVar 5) dNil)))))) (sSeq (sInsR (dVarB 3) (dVar 4)) sNil)) sNil) (sSeq (sSet 1 (dFE (dTup (dCons (dC (.str "op")) (dCons (dC (.str "+")) (dCons (dVar 5) (dCons (dVar 1) dNil))))))) sNil))) ρ M := rfl
def m__law_deep (Φ : Nat → Fn) : FS := (sSeq (sFor (dRng1 (dCons (dVarB 2) dNil)) (bName 4) (lp__law_deep_0 Φ)) (sSeq (sRetV 1) sNil))
def el__law_functions_0 (Φ : Nat → Fn) : FD := (dEF (dOp2 addD (dC (.int 1)) (dEF (dOp2 modD (dEF (dOp2 addD (dEF (dOp2 fdivD (dVarB 8) (dC (.int 816)))) (dVarB 22))) (dC (.int 3))))))
theorem el__law_functions_0_eq (Φ : Nat → Fn) (ρ : EnvD) (M : Store) : el__law_functions_0 Φ ρ M = (dEF (dOp2 addD (dC (.int 1)) (dEF (dOp2 modD (dEF (dOp2 addD (dEF (dOp2 fdivD (dVarB 8) (dC (.int 816)))) (dVarB 22))) (dC (.int 3)))))) ρ M := rfl
def lp__law_functions_0 (Φ : Nat → Fn) : FS := (sSeq (sSet 8 (dFE (dEF (dCall 2 (Φ f__law_cell) (dCons (dVar 0) (dCons (dVar 1) dNil)))))) (sSeq (sPar 14 15 (dCons (dEF (dOp2 modD (dVarB 8) (dC (.int 17)))) (dCons (dEF (dRef (dLst dNil))) dNil))) (sSeq (sSet 9 (dFE (dTup (dCons (dEF (dLst dNil)) (dCons (dC (.int 1)) (dCons (dC (.int 0)) (dCons (dC (.int 0)) dNil))))))) (sSeq (sSet 10 (dFE (dTup (dCons (dC (.str "use")) (dCons (dC (.str "x")) dNil))))) (sSeq (sSet 11 (dFE (dEF (dPr listTD (dCons (dVarB 3) dNil))))) (sSeq (sIf (dAnd (dBo (dOp2 neD (dVarB 11) (dEF (dLst dNil)))) (dBo (dOp2 (cmpD fun i j => decide (j < i)) (dEF (dOp2 modD (dEF (dOp2 fdivD (dVarB 8) (dC (.int 17)))) (dC (.int 8)))) (dC (.int 0))))) (sSeq (sSet 16 (dFE (dEF (dOp2 idxD (dVarB 11) (dEF (dPr max2D (dCons (dC (.int 0)) (dCons (dEF (dOp2 subD (dEF (dOp2 subD (dEF (dPr lenD (dCons (dVarB 11) dNil))) (dC (.int 1)))) (dEF (dOp2 modD (dEF (dOp2 fdivD (dVarB 8) (dC (.int 136)))) (dC (.int 3)))))) dNil)))))))) (sSeq (sAsg (bTup [19, 20, 21, 13]) (dEF (dOp2 dgetD (dVarB 3) (dVarB 16)))) (sSeq (sSet 17 (dFE (dEF (dOp2 eqD (dEF (dOp2 modD (dEF (dOp2 fdivD (dVarB 8) (dC (.int 408)))) (dC (.int 2)))) (dC (.int 1)))))) (sSeq (sSet 18 (dFE (dEF (dStepT (dTup (dCons (dTup (dCons (dC (.str "use")) (dCons (dC (.str "x")) dNil))) (dCons (dTup (dCons (dC (.str "use")) (dCons (dC (.str "y")) dNil))) dNil))) (dEF (dOp2 subD (dC (.int 1)) (dEF (dOp2 mulD (dC (.int 2)) (dEF (dPr intD (dCons (dVarB 17) dNil))))))))))) (sSeq (sSet 10 (dFE (dTup (dCons (dC (.str "call")) (dCons (dEF (dOp2 idxD (dVarB 16) (dC (.int 0)))) (dCons (dEF (dOp2 idxD (dVarB 16) (dC (.int 1)))) (dCons (dVar 18) dNil))))))) (sSeq (sSet 9 (dFE (dTup (dCons (dVar 19) (dCons (dEF (dIf (dTru (dVarB 17)) (dFE (dVar 21)) (dFE (dVar 20)))) (dCons (dEF (dIf (dTru (dVarB 17)) (dFE (dVar 20)) (dFE (dVar 21)))) (dCons (dVar 13) dNil))))))) sNil)))))) sNil) (sSeq (sSet 12 (dFE (dEF (dCall 4 (Φ f__law_deep) (dCons (dEF (dOp2 fdivD (dVarB 8) (dC (.int 816)))) (dCons (dVar 10) (dCons (dVar 14) (dCons (dVar 15) dNil)))))))) (sSeq (sSet 13 (dFE (dEF (dPr sumD (dCons (dEF (dLc (dRng1 (dCons (dVarB 14) dNil)) (bName 22) dYes (el__law_functions_0 Φ) [22])) dNil))))) (sSeq (sPutD (dTup (dCons (dEF (dOp2 addD (dVarB 15) (dEF (dOp2 idxD (dVarB 9) (dC (.int 0)))))) (dCons (dEF (dOp2 idxD (dVarB 9) (dC (.int 1)))) (dCons (dEF (dOp2 idxD (dVarB 9) (dC (.int 2)))) (dCons (dEF (dOp2 addD (dEF (dOp2 idxD (dVarB 9) (dC (.int 3)))) (dVarB 13))) dNil))))) (dVarB 3) (dTup (dCons (dVar 5) (dCons (dVar 7) dNil)))) (sSeq (sApp 6 (dTup (dCons (dVar 7) (dCons (dTup (dCons (dC (.str "x")) (dCons (dC (.str "y")) dNil))) (dCons (dVar 12) dNil))))) sNil))))))))))
theorem lp__law_functions_0_eq (Φ : Nat → Fn) (ρ : EnvD) (M : Store) : lp__law_functions_0 Φ ρ M = (sSeq (sSet 8 (dFE (dEF (dCall 2 (Φ f__law_cell) (dCons (dVar 0) (dCons (dVar 1) dNil)))))) (sSeq (sPar 14 15 (dCons (dEF (dOp2 modD (dVarB 8) (dC (.int 17)))) (dCons (dEF (dRef (dLst dNil))) dNil))) (sSeq (sSet 9 (dFE (dTup (dCons (dEF (dLst dNil)) (dCons (dC (.int 1)) (dCons (dC (.int 0)) (dCons (dC (.int 0)) dNil))))))) (sSeq (sSet 10 (dFE (dTup (dCons (dC (.str "use")) (dCons (dC (.str "x")) dNil))))) (sSeq (sSet 11 (dFE (dEF (dPr listTD (dCons (dVarB 3) dNil))))) (sSeq (sIf (dAnd (dBo (dOp2 neD (dVarB 11) (dEF (dLst dNil)))) (dBo (dOp2 (cmpD fun i j => decide (j < i)) (dEF (dOp2 modD (dEF (dOp2 fdivD (dVarB 8) (dC (.int 17)))) (dC (.int 8)))) (dC (.int 0))))) (sSeq (sSet 16 (dFE (dEF (dOp2 idxD (dVarB 11) (dEF (dPr max2D (dCons (dC (.int 0)) (dCons (dEF (dOp2 subD (dEF (dOp2 subD (dEF (dPr lenD (dCons (dVarB 11) dNil))) (dC (.int 1)))) (dEF (dOp2 modD (dEF (dOp2 fdivD (dVarB 8) (dC (.int 136)))) (dC (.int 3)))))) dNil)))))))) (sSeq (sAsg (bTup [19, 20, 21, 13]) (dEF (dOp2 dgetD (dVarB 3) (dVarB 16)))) (sSeq (sSet 17 (dFE (dEF (dOp2 eqD (dEF (dOp2 modD (dEF (dOp2 fdivD (dVarB 8) (dC (.int 408)))) (dC (.int 2)))) (dC (.int 1)))))) (sSeq (sSet 18 (dFE (dEF (dStepT (dTup (dCons (dTup (dCons (dC (.str "use")) (dCons (dC (.str "x")) dNil))) (dCons (dTup (dCons (dC (.str "use")) (dCons (dC (.str "y")) dNil))) dNil))) (dEF (dOp2 subD (dC (.int 1)) (dEF (dOp2 mulD (dC (.int 2)) (dEF (dPr intD (dCons (dVarB 17) dNil))))))))))) (sSeq (sSet 10 (dFE (dTup (dCons (dC (.str "call")) (dCons (dEF (dOp2 idxD (dVarB 16) (dC (.int 0)))) (dCons (dEF (dOp2 idxD (dVarB 16) (dC (.int 1)))) (dCons (dVar 18) dNil))))))) (sSeq (sSet 9 (dFE (dTup (dCons (dVar 19) (dCons (dEF (dIf (dTru (dVarB 17)) (dFE (dVar 21)) (dFE (dVar 20)))) (dCons (dEF (dIf (dTru (dVarB 17)) (dFE (dVar 20)) (dFE (dVar 21)))) (dCons (dVar 13) dNil))))))) sNil)))))) sNil) (sSeq (sSet 12 (dFE (dEF (dCall 4 (Φ f__law_deep) (dCons (dEF (dOp2 fdivD (dVarB 8) (dC (.int 816)))) (dCons (dVar 10) (dCons (dVar 14) (dCons (dVar 15) dNil)))))))) (sSeq (sSet 13 (dFE (dEF (dPr sumD (dCons (dEF (dLc (dRng1 (dCons (dVarB 14) dNil)) (bName 22) dYes (el__law_functions_0 Φ) [22])) dNil))))) (sSeq (sPutD (dTup (dCons (dEF (dOp2 addD (dVarB 15) (dEF (dOp2 idxD (dVarB 9) (dC (.int 0)))))) (dCons (dEF (dOp2 idxD (dVarB 9) (dC (.int 1)))) (dCons (dEF (dOp2 idxD (dVarB 9) (dC (.int 2)))) (dCons (dEF (dOp2 addD (dEF (dOp2 idxD (dVarB 9) (dC (.int 3)))) (dVarB 13))) dNil))))) (dVarB 3) (dTup (dCons (dVar 5) (dCons (dVar 7) dNil)))) (sSeq (sApp 6 (dTup (dCons (dVar 7) (dCons (dTup (dCons (dC (.str "x")) (dCons (dC (.str "y")) dNil))) (dCons (dVar 12) dNil))))) sNil)))))))))) ρ M := rfl
def lp__law_functions_1 (Φ : Nat → Fn) : FS := (sSeq (sSet 6 (dLst dNil)) (sSeq (sFor (dIt (dEF (dSl slD (dC (.str "fghijkmnopqr")) dNo (dSo (dEF (dOp2 addD (dC (.int 1)) (dEF (dOp2 modD (dEF (dCall 2 (Φ f__law_cell) (dCons (dVar 0) (dCons (dVar 1) dNil)))) (dVarB 2))))))))) (bName 7) (lp__law_functions_0 Φ)) (sSeq (sApp 4 (dTup (dCons (dVar 5) (dCons (dEF (dPr tupleD (dCons (dVarB 6) dNil))) dNil)))) sNil)))
theorem lp__law_functions_1_eq (Φ : Nat → Fn) (ρ : EnvD) (M : Store) : lp__law_functions_1 Φ ρ M = (sSeq (sSet 6 (dLst dNil)) (sSeq (sFor (dIt (dEF (dSl slD (dC (.str "fghijkmnopqr")) dNo (dSo (dEF (dOp2 addD (dC (.int 1)) (dEF (dOp2 modD (dEF (dCall 2 (Φ f__law_cell) (dCons (dVar 0) (dCons (dVar 1) dNil)))) (dVarB 2))))))))) (bName 7) (lp__law_functions_0 Φ)) (sSeq (sApp 4 (dTup (dCons (dVar 5) (dCons (dEF (dPr tupleD (dCons (dVarB 6) dNil))) dNil)))) sNil))) ρ M := rfl
def m__law_functions (Φ : Nat → Fn) : FS := (sSeq (sSet 3 (dFE dNewT)) (sSeq (sSet 4 (dLst dNil)) (sSeq (sFor (dIt (dEF (dLst (dCons (dC (.str "a")) (dCons (dC (.str "aa")) (dCons (dC (.str "b")) (dCons (dC (.str "ab")) (dCons (dC (.str "m")) (dCons (dC (.str "f")) (dCons (dC (.str "ba")) (dCons (dC (.str "z")) dNil))))))))))) (bName 5) (lp__law_functions_1 Φ)) (sSeq (sRet (dFE (dTup (dCons (dEF (dPr tupleD (dCons (dVarB 4) dNil))) (dCons (dVar 3) dNil))))) sNil))))
def el_law_0 (Φ : Nat → Fn) : FD := (dEF (dOp2 idxD (dVarB 3) (dEF (dOp2 modD (dEF (dCall 2 (Φ f__law_cell) (dCons (dVar 0) (dCons (dVar 1) dNil)))) (dEF (dPr lenD (dCons (dVarB 3) dNil)))))))
theorem el_law_0_eq (Φ : Nat → Fn) (ρ : EnvD) (M : Store) : el_law_0 Φ ρ M = (dEF (dOp2 idxD (dVarB 3) (dEF (dOp2 modD (dEF (dCall 2 (Φ f__law_cell) (dCons (dVar 0) (dCons (dVar 1) dNil)))) (dEF (dPr lenD (dCons (dVarB 3) dNil))))))) ρ M := rfl
def el_law_1 (Φ : Nat → Fn) : FD := (dEF (dOp2 subD (dEF (dOp2 modD (dEF (dCall 2 (Φ f__law_cell) (dCons (dVar 0) (dCons (dVar 1) dNil)))) (dC (.int 2001)))) (dC (.int 1000))))
theorem el_law_1_eq (Φ : Nat → Fn) (ρ : EnvD) (M : Store) : el_law_1 Φ ρ M = (dEF (dOp2 subD (dEF (dOp2 modD (dEF (dCall 2 (Φ f__law_cell) (dCons (dVar 0) (dCons (dVar 1) dNil)))) (dC (.int 2001)))) (dC (.int 1000)))) ρ M := rfl
def lp_law_0 (Φ : Nat → Fn) : FS := (sSeq (sAsg (bLst [10, 11]) (dEF (dLc (dRng1 (dCons (dC (.int 2)) dNil)) (bName 16) dYes (el_law_1 Φ) [16]))) (sSeq (sAsg (bTup [12, 13, 14, 15]) (dEF (dOp2 dgetD (dVarB 6) (dTup (dCons (dVar 7) (dCons (dVar 8) dNil)))))) (sSeq (sSet 9 (dFE (dEF (dCall 4 (Φ f_run) (dCons (dVar 5) (dCons (dVar 7) (dCons (dVar 8) (dCons (dTup (dCons (dVar 10) (dCons (dVar 11) dNil))) dNil)))))))) (sSeq (sIf (dBo (dOp2 neD (dEF (dPr reprD (dCons (dVarB 9) dNil))) (dEF (dPr reprD (dCons (dTup (dCons (dVar 12) (dCons (dTup (dCons (dC (.str "value")) (dCons (dEF (dOp2 addD (dEF (dOp2 addD (dEF (dOp2 mulD (dVarB 13) (dVarB 10))) (dEF (dOp2 mulD (dVarB 14) (dVarB 11))))) (dVarB 15))) dNil))) dNil))) dNil))))) (sSeq (sRet (dFE (dC (.bl false)))) sNil) sNil) sNil))))
theorem lp_law_0_eq (Φ : Nat → Fn) (ρ : EnvD) (M : Store) : lp_law_0 Φ ρ M = (sSeq (sAsg (bLst [10, 11]) (dEF (dLc (dRng1 (dCons (dC (.int 2)) dNil)) (bName 16) dYes (el_law_1 Φ) [16]))) (sSeq (sAsg (bTup [12, 13, 14, 15]) (dEF (dOp2 dgetD (dVarB 6) (dTup (dCons (dVar 7) (dCons (dVar 8) dNil)))))) (sSeq (sSet 9 (dFE (dEF (dCall 4 (Φ f_run) (dCons (dVar 5) (dCons (dVar 7) (dCons (dVar 8) (dCons (dTup (dCons (dVar 10) (dCons (dVar 11) dNil))) dNil)))))))) (sSeq (sIf (dBo (dOp2 neD (dEF (dPr reprD (dCons (dVarB 9) dNil))) (dEF (dPr reprD (dCons (dTup (dCons (dVar 12) (dCons (dTup (dCons (dC (.str "value")) (dCons (dEF (dOp2 addD (dEF (dOp2 addD (dEF (dOp2 mulD (dVarB 13) (dVarB 10))) (dEF (dOp2 mulD (dVarB 14) (dVarB 11))))) (dVarB 15))) dNil))) dNil))) dNil))))) (sSeq (sRet (dFE (dC (.bl false)))) sNil) sNil) sNil)))) ρ M := rfl
def lp_law_1 (Φ : Nat → Fn) : FS := (sSeq (sAsg (bTup [5, 6]) (dEF (dCall 3 (Φ f__law_functions) (dCons (dVar 0) (dCons (dVar 1) (dCons (dEF (dOp2 idxD (dEF (dLst (dCons (dC (.int 3)) (dCons (dC (.int 12)) dNil)))) (dEF (dOp2 modD (dVarB 2) (dC (.int 2)))))) dNil)))))) (sSeq (sSet 3 (dFE (dEF (dPr listTD (dCons (dVarB 6) dNil))))) (sSeq (sSet 4 (dFE (dEF (dOp2 addD (dEF (dSl slD (dVarB 3) (dSo (dEF (dOp1 negD (dC (.int 2))))) dNo)) (dEF (dLc (dRng1 (dCons (dC (.int 3)) dNil)) (bName 16) dYes (el_law_0 Φ) [16])))))) (sSeq (sFor (dIt (dVar 4)) (bTup [7, 8]) (lp_law_0 Φ)) sNil))))
theorem lp_law_1_eq (Φ : Nat → Fn) (ρ : EnvD) (M : Store) : lp_law_1 Φ ρ M = (sSeq (sAsg (bTup [5, 6]) (dEF (dCall 3 (Φ f__law_functions) (dCons (dVar 0) (dCons (dVar 1) (dCons (dEF (dOp2 idxD (dEF (dLst (dCons (dC (.int 3)) (dCons (dC (.int 12)) dNil)))) (dEF (dOp2 modD (dVarB 2) (dC (.int 2)))))) dNil)))))) (sSeq (sSet 3 (dFE (dEF (dPr listTD (dCons (dVarB 6) dNil))))) (sSeq (sSet 4 (dFE (dEF (dOp2 addD (dEF (dSl slD (dVarB 3) (dSo (dEF (dOp1 negD (dC (.int 2))))) dNo)) (dEF (dLc (dRng1 (dCons (dC (.int 3)) dNil)) (bName 16) dYes (el_law_0 Φ) [16])))))) (sSeq (sFor (dIt (dVar 4)) (bTup [7, 8]) (lp_law_0 Φ)) sNil)))) ρ M := rfl
def m_law (Φ : Nat → Fn) : FS := (sSeq (sSet 1 (dFE (dEF (dRef (dLst (dCons (dC (.int 0)) dNil)))))) (sSeq (sFor (dRng1 (dCons (dEF (dOp2 addD (dC (.int 1)) (dEF (dPr min2D (dCons (dC (.int 1)) (dCons (dEF (dPr lenD (dCons (dVarB 0) dNil))) dNil)))))) dNil)) (bName 2) (lp_law_1 Φ)) (sSeq (sRet (dFE (dC (.bl true)))) sNil)))
def lv : Nat → Nat
  | 0 => 0
  | k + 1 => lv k + 1 + 1
/-- what the defs do, k calls within one another at most -/
def semS (Φ : Nat → Fn) (i : Nat) : Fn := match i with
    | 0 => runF 5 (m_functions Φ)
    | 1 => runF 3 (m_signed Φ)
    | 2 => runF 3 (m_Work___init__ Φ)
    | 3 => runF 4 (m_Work_work Φ)
    | 4 => runF 2 (m_Enter___init__ Φ)
    | 5 => runF 6 (m_Enter_work Φ)
    | 6 => runF 2 (m_Sign___init__ Φ)
    | 7 => runF 4 (m_Sign_work Φ)
    | 8 => runF 3 (m_Behind___init__ Φ)
    | 9 => runF 5 (m_Behind_work Φ)
    | 10 => runF 3 (m_Begin___init__ Φ)
    | 11 => runF 4 (m_Begin_work Φ)
    | 12 => runF 5 (m_Round___init__ Φ)
    | 13 => runF 3 (m_Round_work Φ)
    | 14 => runF 6 (m_Run___init__ Φ)
    | 15 => runF 5 (m_Run_later Φ)
    | 16 => runF 2 (m_Run_finish Φ)
    | 17 => runF 1 (m_Run_ended Φ)
    | 18 => runF 7 (m_run Φ)
    | 19 => runF 6 (m__law_cell Φ)
    | 20 => runF 6 (m__law_deep Φ)
    | 21 => runF 23 (m__law_functions Φ)
    | 22 => runF 17 (m_law Φ)
    | _ => fun _ _ => .bad
def sem : Nat → Nat → Fn
  | 0 => fun _ _ _ => .bad
  | k + 1 => semS (sem k)
theorem e_functions (k : Nat) : sem (k + 1) f_functions = runF 5 (m_functions (sem k)) := rfl
theorem e_signed (k : Nat) : sem (k + 1) f_signed = runF 3 (m_signed (sem k)) := rfl
theorem e_Work___init__ (k : Nat) : sem (k + 1) f_Work___init__ = runF 3 (m_Work___init__ (sem k)) := rfl
theorem e_Work_work (k : Nat) : sem (k + 1) f_Work_work = runF 4 (m_Work_work (sem k)) := rfl
theorem e_Enter___init__ (k : Nat) : sem (k + 1) f_Enter___init__ = runF 2 (m_Enter___init__ (sem k)) := rfl
theorem e_Enter_work (k : Nat) : sem (k + 1) f_Enter_work = runF 6 (m_Enter_work (sem k)) := rfl
theorem e_Sign___init__ (k : Nat) : sem (k + 1) f_Sign___init__ = runF 2 (m_Sign___init__ (sem k)) := rfl
theorem e_Sign_work (k : Nat) : sem (k + 1) f_Sign_work = runF 4 (m_Sign_work (sem k)) := rfl
theorem e_Behind___init__ (k : Nat) : sem (k + 1) f_Behind___init__ = runF 3 (m_Behind___init__ (sem k)) := rfl
theorem e_Behind_work (k : Nat) : sem (k + 1) f_Behind_work = runF 5 (m_Behind_work (sem k)) := rfl
theorem e_Begin___init__ (k : Nat) : sem (k + 1) f_Begin___init__ = runF 3 (m_Begin___init__ (sem k)) := rfl
theorem e_Begin_work (k : Nat) : sem (k + 1) f_Begin_work = runF 4 (m_Begin_work (sem k)) := rfl
theorem e_Round___init__ (k : Nat) : sem (k + 1) f_Round___init__ = runF 5 (m_Round___init__ (sem k)) := rfl
theorem e_Round_work (k : Nat) : sem (k + 1) f_Round_work = runF 3 (m_Round_work (sem k)) := rfl
theorem e_Run___init__ (k : Nat) : sem (k + 1) f_Run___init__ = runF 6 (m_Run___init__ (sem k)) := rfl
theorem e_Run_later (k : Nat) : sem (k + 1) f_Run_later = runF 5 (m_Run_later (sem k)) := rfl
theorem e_Run_finish (k : Nat) : sem (k + 1) f_Run_finish = runF 2 (m_Run_finish (sem k)) := rfl
theorem e_Run_ended (k : Nat) : sem (k + 1) f_Run_ended = runF 1 (m_Run_ended (sem k)) := rfl
theorem e_run (k : Nat) : sem (k + 1) f_run = runF 7 (m_run (sem k)) := rfl
theorem e__law_cell (k : Nat) : sem (k + 1) f__law_cell = runF 6 (m__law_cell (sem k)) := rfl
theorem e__law_deep (k : Nat) : sem (k + 1) f__law_deep = runF 6 (m__law_deep (sem k)) := rfl
theorem e__law_functions (k : Nat) : sem (k + 1) f__law_functions = runF 23 (m__law_functions (sem k)) := rfl
theorem e_law (k : Nat) : sem (k + 1) f_law = runF 17 (m_law (sem k)) := rfl
/-- what the top has left -/
structure Top (w : World) (K : PySem.W.Frag) (mg : Str → Option Value) where
  a_functions : Addr
  d_functions : FuncData
  F_functions : Fun K "functions" "functions" s_functions a_functions d_functions
  b_functions : Binds K d_functions ["program"] []
  m_functions : mg "functions" = some (.ref a_functions)
  a_signed : Addr
  d_signed : FuncData
  F_signed : Fun K "signed" "signed" s_signed a_signed d_signed
  b_signed : Binds K d_signed ["sign", "one", "other"] []
  m_signed : mg "signed" = some (.ref a_signed)
  a_Work___init__ : Addr
  d_Work___init__ : FuncData
  F_Work___init__ : Fun K "__init__" "Work.__init__" s_Work___init__ a_Work___init__ d_Work___init__
  b_Work___init__ : Binds K d_Work___init__ ["self", "expression", "values"] []
  mk_Work : Mk K (clsAt K "Work") a_Work___init__
  a_Work_work : Addr
  d_Work_work : FuncData
  F_Work_work : Fun K "work" "Work.work" s_Work_work a_Work_work d_Work_work
  b_Work_work : Binds K d_Work_work ["self", "run"] []
  me_Work_work : Meth K (clsAt K "Work") "work" a_Work_work
  a_Enter___init__ : Addr
  d_Enter___init__ : FuncData
  F_Enter___init__ : Fun K "__init__" "Enter.__init__" s_Enter___init__ a_Enter___init__ d_Enter___init__
  b_Enter___init__ : Binds K d_Enter___init__ ["self", "expression"] []
  mk_Enter : Mk K (clsAt K "Enter") a_Enter___init__
  a_Enter_work : Addr
  d_Enter_work : FuncData
  F_Enter_work : Fun K "work" "Enter.work" s_Enter_work a_Enter_work d_Enter_work
  b_Enter_work : Binds K d_Enter_work ["self", "run"] []
  me_Enter_work : Meth K (clsAt K "Enter") "work" a_Enter_work
  a_Sign___init__ : Addr
  d_Sign___init__ : FuncData
  F_Sign___init__ : Fun K "__init__" "Sign.__init__" s_Sign___init__ a_Sign___init__ d_Sign___init__
  b_Sign___init__ : Binds K d_Sign___init__ ["self", "sign"] []
  mk_Sign : Mk K (clsAt K "Sign") a_Sign___init__
  a_Sign_work : Addr
  d_Sign_work : FuncData
  F_Sign_work : Fun K "work" "Sign.work" s_Sign_work a_Sign_work d_Sign_work
  b_Sign_work : Binds K d_Sign_work ["self", "run"] []
  me_Sign_work : Meth K (clsAt K "Sign") "work" a_Sign_work
  a_Behind___init__ : Addr
  d_Behind___init__ : FuncData
  F_Behind___init__ : Fun K "__init__" "Behind.__init__" s_Behind___init__ a_Behind___init__ d_Behind___init__
  b_Behind___init__ : Binds K d_Behind___init__ ["self", "expression", "values"] []
  mk_Behind : Mk K (clsAt K "Behind") a_Behind___init__
  a_Behind_work : Addr
  d_Behind_work : FuncData
  F_Behind_work : Fun K "work" "Behind.work" s_Behind_work a_Behind_work d_Behind_work
  b_Behind_work : Binds K d_Behind_work ["self", "run"] []
  me_Behind_work : Meth K (clsAt K "Behind") "work" a_Behind_work
  a_Begin___init__ : Addr
  d_Begin___init__ : FuncData
  F_Begin___init__ : Fun K "__init__" "Begin.__init__" s_Begin___init__ a_Begin___init__ d_Begin___init__
  b_Begin___init__ : Binds K d_Begin___init__ ["self", "expression", "values"] []
  mk_Begin : Mk K (clsAt K "Begin") a_Begin___init__
  a_Begin_work : Addr
  d_Begin_work : FuncData
  F_Begin_work : Fun K "work" "Begin.work" s_Begin_work a_Begin_work d_Begin_work
  b_Begin_work : Binds K d_Begin_work ["self", "run"] []
  me_Begin_work : Meth K (clsAt K "Begin") "work" a_Begin_work
  a_Round___init__ : Addr
  d_Round___init__ : FuncData
  F_Round___init__ : Fun K "__init__" "Round.__init__" s_Round___init__ a_Round___init__ d_Round___init__
  b_Round___init__ : Binds K d_Round___init__ ["self", "expression", "values", "number", "many"] []
  mk_Round : Mk K (clsAt K "Round") a_Round___init__
  a_Round_work : Addr
  d_Round_work : FuncData
  F_Round_work : Fun K "work" "Round.work" s_Round_work a_Round_work d_Round_work
  b_Round_work : Binds K d_Round_work ["self", "run"] []
  me_Round_work : Meth K (clsAt K "Round") "work" a_Round_work
  a_Run___init__ : Addr
  d_Run___init__ : FuncData
  F_Run___init__ : Fun K "__init__" "Run.__init__" s_Run___init__ a_Run___init__ d_Run___init__
  b_Run___init__ : Binds K d_Run___init__ ["self", "program"] []
  mk_Run : Mk K (clsAt K "Run") a_Run___init__
  a_Run_later : Addr
  d_Run_later : FuncData
  F_Run_later : Fun K "later" "Run.later" s_Run_later a_Run_later d_Run_later
  b_Run_later : Binds K d_Run_later ["self", "behind", "expressions", "values"] []
  me_Run_later : Meth K (clsAt K "Run") "later" a_Run_later
  a_Run_finish : Addr
  d_Run_finish : FuncData
  F_Run_finish : Fun K "finish" "Run.finish" s_Run_finish a_Run_finish d_Run_finish
  b_Run_finish : Binds K d_Run_finish ["self", "end"] []
  me_Run_finish : Meth K (clsAt K "Run") "finish" a_Run_finish
  a_Run_ended : Addr
  d_Run_ended : FuncData
  F_Run_ended : Fun K "ended" "Run.ended" s_Run_ended a_Run_ended d_Run_ended
  b_Run_ended : Binds K d_Run_ended ["self"] []
  me_Run_ended : Meth K (clsAt K "Run") "ended" a_Run_ended
  a_run : Addr
  d_run : FuncData
  F_run : Fun K "run" "run" s_run a_run d_run
  b_run : Binds K d_run ["program", "m", "f", "numbers"] []
  m_run : mg "run" = some (.ref a_run)
  a__law_cell : Addr
  d__law_cell : FuncData
  F__law_cell : Fun K "_law_cell" "_law_cell" s__law_cell a__law_cell d__law_cell
  b__law_cell : Binds K d__law_cell ["_law_cells", "_law_spot"] []
  m__law_cell : mg "_law_cell" = some (.ref a__law_cell)
  a__law_deep : Addr
  d__law_deep : FuncData
  F__law_deep : Fun K "_law_deep" "_law_deep" s__law_deep a__law_deep d__law_deep
  b__law_deep : Binds K d__law_deep ["_law_n", "_law_inner", "_law_high", "_law_told"] []
  m__law_deep : mg "_law_deep" = some (.ref a__law_deep)
  a__law_functions : Addr
  d__law_functions : FuncData
  F__law_functions : Fun K "_law_functions" "_law_functions" s__law_functions a__law_functions d__law_functions
  b__law_functions : Binds K d__law_functions ["_law_cells", "_law_spot", "_law_most"] []
  m__law_functions : mg "_law_functions" = some (.ref a__law_functions)
  a_law : Addr
  d_law : FuncData
  F_law : Fun K "law" "law" s_law a_law d_law
  b_law : Binds K d_law ["_law_script"] []
  m_law : mg "law" = some (.ref a_law)
  K_Work : Cls K (clsAt K "Work")
  g_Work : mg "Work" = some (.ref (clsAt K "Work"))
  n_Work_tree : NoAttr K (clsAt K "Work") "tree"
  n_Work_scope : NoAttr K (clsAt K "Work") "scope"
  K_Enter : Cls K (clsAt K "Enter")
  g_Enter : mg "Enter" = some (.ref (clsAt K "Enter"))
  n_Enter_tree : NoAttr K (clsAt K "Enter") "tree"
  K_Sign : Cls K (clsAt K "Sign")
  g_Sign : mg "Sign" = some (.ref (clsAt K "Sign"))
  n_Sign_sign : NoAttr K (clsAt K "Sign") "sign"
  K_Behind : Cls K (clsAt K "Behind")
  g_Behind : mg "Behind" = some (.ref (clsAt K "Behind"))
  n_Behind_tree : NoAttr K (clsAt K "Behind") "tree"
  n_Behind_scope : NoAttr K (clsAt K "Behind") "scope"
  K_Begin : Cls K (clsAt K "Begin")
  g_Begin : mg "Begin" = some (.ref (clsAt K "Begin"))
  n_Begin_tree : NoAttr K (clsAt K "Begin") "tree"
  n_Begin_scope : NoAttr K (clsAt K "Begin") "scope"
  K_Round : Cls K (clsAt K "Round")
  g_Round : mg "Round" = some (.ref (clsAt K "Round"))
  n_Round_tree : NoAttr K (clsAt K "Round") "tree"
  n_Round_scope : NoAttr K (clsAt K "Round") "scope"
  n_Round_turn : NoAttr K (clsAt K "Round") "turn"
  n_Round_turns : NoAttr K (clsAt K "Round") "turns"
  K_Run : Cls K (clsAt K "Run")
  g_Run : mg "Run" = some (.ref (clsAt K "Run"))
  n_Run_rows : NoAttr K (clsAt K "Run") "rows"
  n_Run_deeds : NoAttr K (clsAt K "Run") "deeds"
  n_Run_worths : NoAttr K (clsAt K "Run") "worths"
  n_Run_told : NoAttr K (clsAt K "Run") "told"
  n_Run_end : NoAttr K (clsAt K "Run") "end"
  bb_law : ∀ (s : Shared) (v : Value), BindsTo s d_law ⟨[v], []⟩ [("_law_script", v)]
  z_int : mg "int" = none
  z_dict : mg "dict" = none
  z_zip : mg "zip" = none
  z_reversed : mg "reversed" = none
  z_len : mg "len" = none
  z_range : mg "range" = none
  z_list : mg "list" = none
  z_max : mg "max" = none
  z_sum : mg "sum" = none
  z_tuple : mg "tuple" = none
  z_min : mg "min" = none
  z_repr : mg "repr" = none
  c_MOST_ROUNDS : ∃ t, mg "MOST_ROUNDS" = some (.int 1000 t)
section
variable {P : Program} {w : World} {K : PySem.W.Frag} {mg : Str → Option Value} {base : Heap}
structure Oks (P : Program) (w : World) (base : Heap) (T : Top w K mg) (k : Nat) : Prop where
  i_functions : GOk P w K mg base CX0 (lv k) T.a_functions T.d_functions ["program"] (spD K W0 1 (sem k f_functions))
  i_signed : GOk P w K mg base CX0 (lv k) T.a_signed T.d_signed ["sign", "one", "other"] (spD K W0 3 (sem k f_signed))
  i_Work___init__ : GOk P w K mg base CX0 (lv k) T.a_Work___init__ T.d_Work___init__ ["self", "expression", "values"] (spD K W0 3 (sem k f_Work___init__))
  i_Work_work : GOk P w K mg base CX0 (lv k) T.a_Work_work T.d_Work_work ["self", "run"] (spD K W0 2 (sem k f_Work_work))
  i_Enter___init__ : GOk P w K mg base CX0 (lv k) T.a_Enter___init__ T.d_Enter___init__ ["self", "expression"] (spD K W0 2 (sem k f_Enter___init__))
  i_Enter_work : GOk P w K mg base CX0 (lv k) T.a_Enter_work T.d_Enter_work ["self", "run"] (spD K W0 2 (sem k f_Enter_work))
  i_Sign___init__ : GOk P w K mg base CX0 (lv k) T.a_Sign___init__ T.d_Sign___init__ ["self", "sign"] (spD K W0 2 (sem k f_Sign___init__))
  i_Sign_work : GOk P w K mg base CX0 (lv k) T.a_Sign_work T.d_Sign_work ["self", "run"] (spD K W0 2 (sem k f_Sign_work))
  i_Behind___init__ : GOk P w K mg base CX0 (lv k) T.a_Behind___init__ T.d_Behind___init__ ["self", "expression", "values"] (spD K W0 3 (sem k f_Behind___init__))
  i_Behind_work : GOk P w K mg base CX0 (lv k) T.a_Behind_work T.d_Behind_work ["self", "run"] (spD K W0 2 (sem k f_Behind_work))
  i_Begin___init__ : GOk P w K mg base CX0 (lv k) T.a_Begin___init__ T.d_Begin___init__ ["self", "expression", "values"] (spD K W0 3 (sem k f_Begin___init__))
  i_Begin_work : GOk P w K mg base CX0 (lv k) T.a_Begin_work T.d_Begin_work ["self", "run"] (spD K W0 2 (sem k f_Begin_work))
  i_Round___init__ : GOk P w K mg base CX0 (lv k) T.a_Round___init__ T.d_Round___init__ ["self", "expression", "values", "number", "many"] (spD K W0 5 (sem k f_Round___init__))
  i_Round_work : GOk P w K mg base CX0 (lv k) T.a_Round_work T.d_Round_work ["self", "run"] (spD K W0 2 (sem k f_Round_work))
  i_Run___init__ : GOk P w K mg base CX0 (lv k) T.a_Run___init__ T.d_Run___init__ ["self", "program"] (spD K W0 2 (sem k f_Run___init__))
  i_Run_later : GOk P w K mg base CX0 (lv k) T.a_Run_later T.d_Run_later ["self", "behind", "expressions", "values"] (spD K W0 4 (sem k f_Run_later))
  i_Run_finish : GOk P w K mg base CX0 (lv k) T.a_Run_finish T.d_Run_finish ["self", "end"] (spD K W0 2 (sem k f_Run_finish))
  i_Run_ended : GOk P w K mg base CX0 (lv k) T.a_Run_ended T.d_Run_ended ["self"] (spD K W0 1 (sem k f_Run_ended))
  i_run : GOk P w K mg base CX0 (lv k) T.a_run T.d_run ["program", "m", "f", "numbers"] (spD K W0 4 (sem k f_run))
  i__law_cell : GOk P w K mg base CX0 (lv k) T.a__law_cell T.d__law_cell ["_law_cells", "_law_spot"] (spD K W0 2 (sem k f__law_cell))
  i__law_deep : GOk P w K mg base CX0 (lv k) T.a__law_deep T.d__law_deep ["_law_n", "_law_inner", "_law_high", "_law_told"] (spD K W0 4 (sem k f__law_deep))
  i__law_functions : GOk P w K mg base CX0 (lv k) T.a__law_functions T.d__law_functions ["_law_cells", "_law_spot", "_law_most"] (spD K W0 3 (sem k f__law_functions))
  i_law : GOk P w K mg base CX0 (lv k) T.a_law T.d_law ["_law_script"] (spD K W0 1 (sem k f_law))
theorem ok_functions (T : Top w K mg) {k : Nat} (ih : Oks P w base T k) : GOk P w K mg base CX0 (lv k + 1 + 1) T.a_functions T.d_functions ["program"] (spD K W0 1 (sem (k + 1) f_functions)) := by
  rw [e_functions]
  refine g_fn (N := ["program", "found", "m", "rows", "row"]) (ps := ["program"]) (g := m_functions (sem k)) T.F_functions sc_functions (fun cdv A outer s H EX hr hq => ?_)
  have hc := hr.mono (Nat.le_succ _)
  exact (s_seq (pss_cons (s_set (ps_set (i := 1) sc_functions.nd rfl (by first | exact Or.inl rfl | exact Or.inr rfl) (x_lst (pe_lst (xa_nil pa_nil))))) (s_seq (pss_cons (s_for (ps_for PassesOwn.never rfl (x_it (PI.or (pi_list (x_var (pv 0))) (PI.or (pi_tup (x_var (pv 0))) (pi_str (x_var (pv 0)))))) (x_gtup (is := [2, 3]) rfl (pg_tup rfl (pgs_cons (pg_name (i := 2) sc_functions.nd rfl (by first | exact Or.inl rfl | exact Or.inr rfl)) (pgs_cons (pg_name (i := 3) sc_functions.nd rfl (by first | exact Or.inl rfl | exact Or.inr rfl)) pgs_nil)))) (s_seq (pss_cons (s_ext (ps_expr (pe_bm PySem.F.plainAttrs_list PySem.F.slot_list_extend PySem.F.type_list_extend mt_extend (pv 1) (pa_cons (c_EF (x_lc (by decide) (pe_lc (own := [("row", 4)]) rfl sc_functions.nd (x_it (PI.or (pi_list (x_var (pv 3))) (PI.or (pi_tup (x_var (pv 3))) (pi_str (x_var (pv 3)))))) (blkOk_by (N := ["program", "found", "m", "rows", "row"]) (sc := defScope s_functions) (by decide +kernel)) (fun _ _ _ _ _ => (x_gname (pg_name (i := 4) sc_functions.nd rfl (by first | exact Or.inl rfl | exact Or.inr rfl)))) (fun _ _ _ _ _ => x_yes) (fun _ _ _ _ _ => (c_EF (x_op2 (pe_op op_addA (c_FB (x_tup (pe_tup (xa_cons (pa_cons (x_var (pv 2)) (xa_nil pa_nil)))))) (x_varB (pv 4))) p_add)))))) pa_nil)))) (s_nil pss_nil))))) (s_seq (pss_cons (s_retV (ps_ret (pv 1))) (s_nil pss_nil)))))))
theorem ok_signed (T : Top w K mg) {k : Nat} (ih : Oks P w base T k) : GOk P w K mg base CX0 (lv k + 1 + 1) T.a_signed T.d_signed ["sign", "one", "other"] (spD K W0 3 (sem (k + 1) f_signed)) := by
  rw [e_signed]
  refine g_fn (N := ["sign", "one", "other"]) (ps := ["sign", "one", "other"]) (g := m_signed (sem k)) T.F_signed sc_signed (fun cdv A outer s H EX hr hq => ?_)
  have hc := hr.mono (Nat.le_succ _)
  exact (s_seq (pss_cons (s_if (ps_if (x_test2 (pt_cmpR (op_eqW (un_of hr)) (x_varB (pv 0)) (c_FB (x_c pe_str fun _ _ => .str _)) rfl) p_eq) (s_seq (pss_cons (s_ret (ps_ret (x_op2 (pe_op op_addA (x_varB (pv 1)) (x_varB (pv 2))) p_add))) (s_nil pss_nil))) (s_nil pss_nil))) (s_seq (pss_cons (s_if (ps_if (x_test2 (pt_cmpR (op_eqW (un_of hr)) (x_varB (pv 0)) (c_FB (x_c pe_str fun _ _ => .str _)) rfl) p_eq) (s_seq (pss_cons (s_ret (ps_ret (x_op2 (pe_op op_sub (x_varB (pv 1)) (x_varB (pv 2))) p_sub))) (s_nil pss_nil))) (s_nil pss_nil))) (s_seq (pss_cons (s_if (ps_if (x_test2 (pt_cmpR (op_eqW (un_of hr)) (x_varB (pv 0)) (c_FB (x_c pe_str fun _ _ => .str _)) rfl) p_eq) (s_seq (pss_cons (s_ret (ps_ret (x_op2 (pe_op op_mulA (x_varB (pv 1)) (x_varB (pv 2))) p_mul))) (s_nil pss_nil))) (s_nil pss_nil))) (s_seq (pss_cons (s_if (ps_if (x_test2 (pt_cmpR (op_eqW (un_of hr)) (x_varB (pv 0)) (c_FB (x_c pe_str fun _ _ => .str _)) rfl) p_eq) (s_seq (pss_cons (s_ret (ps_ret (x_op2 (pe_op op_fdivA (x_varB (pv 1)) (x_varB (pv 2))) p_fdiv))) (s_nil pss_nil))) (s_nil pss_nil))) (s_seq (pss_cons (s_if (ps_if (x_test2 (pt_cmpR (op_eqW (un_of hr)) (x_varB (pv 0)) (c_FB (x_c pe_str fun _ _ => .str _)) rfl) p_eq) (s_seq (pss_cons (s_ret (ps_ret (x_op2 (pe_op op_sub (x_varB (pv 1)) (c_EB (x_op2 (pe_op op_mulA (x_varB (pv 2)) (c_EB (x_op2 (pe_op op_fdivA (x_varB (pv 1)) (x_varB (pv 2))) p_fdiv))) p_mul))) p_sub))) (s_nil pss_nil))) (s_nil pss_nil))) (s_seq (pss_cons (s_ret (ps_ret (x_if (pe_ifExp (x_test2 (pt_cmpR (op_eqW (un_of hr)) (x_varB (pv 0)) (c_FB (x_c pe_str fun _ _ => .str _)) rfl) p_eq) (x_prim (pe_callTy call_int1 (by rfl) T.z_int bt_int (xr_cons (pa_cons (c_EB (x_op2 (pe_cmpR (op_eqW (un_of hr)) (x_varB (pv 1)) (x_varB (pv 2)) rfl) p_eq)) (xr_nil pa_nil)))) p_int) (x_prim (pe_callTy call_int1 (by rfl) T.z_int bt_int (xr_cons (pa_cons (c_EB (x_op2 (pe_cmpR op_lt (x_varB (pv 1)) (x_varB (pv 2)) rfl) (p_cmp fun i j => decide (i < j)))) (xr_nil pa_nil)))) p_int))))) (s_nil pss_nil)))))))))))))
theorem ok_Work___init__ (T : Top w K mg) {k : Nat} (ih : Oks P w base T k) : GOk P w K mg base CX0 (lv k + 1 + 1) T.a_Work___init__ T.d_Work___init__ ["self", "expression", "values"] (spD K W0 3 (sem (k + 1) f_Work___init__)) := by
  rw [e_Work___init__]
  refine g_fn (N := ["self", "expression", "values"]) (ps := ["self", "expression", "values"]) (g := m_Work___init__ (sem k)) T.F_Work___init__ sc_Work___init__ (fun cdv A outer s H EX hr hq => ?_)
  have hc := hr.mono (Nat.le_succ _)
  exact (s_seq (pss_cons (s_fldS T.n_Work_tree (ps_fld (x_varB (pv 0)) (x_var (pv 1)) (by rfl))) (s_seq (pss_cons (s_fldS T.n_Work_scope (ps_fld (x_varB (pv 0)) (x_var (pv 2)) (by rfl))) (s_nil pss_nil)))))
theorem ok_Work_work (T : Top w K mg) {k : Nat} (ih : Oks P w base T k) : GOk P w K mg base CX0 (lv k + 1 + 1) T.a_Work_work T.d_Work_work ["self", "run"] (spD K W0 2 (sem (k + 1) f_Work_work)) := by
  rw [e_Work_work]
  refine g_fn (N := ["self", "run", "word", "first"]) (ps := ["self", "run"]) (g := m_Work_work (sem k)) T.F_Work_work sc_Work_work (fun cdv A outer s H EX hr hq => ?_)
  have hc := hr.mono (Nat.le_succ _)
  exact (s_seq (pss_cons (s_set (ps_set (i := 2) sc_Work_work.nd rfl (by first | exact Or.inl rfl | exact Or.inr rfl) (c_FE (c_EF (x_ix (pe_ix ix_seq (c_FB (x_fld (pe_fld (x_varB (pv 0)) (by rfl)))) (c_FB (x_c pe_int fun _ _ => .int _)) (fun _ _ => rfl))))))) (s_seq (pss_cons (s_if (ps_if (x_test2 (pt_cmpR (op_eqW (un_of hr)) (x_varB (pv 2)) (c_FB (x_c pe_str fun _ _ => .str _)) rfl) p_eq) (s_seq (pss_cons (s_appR (ps_expr (pe_bm PySem.F.plainAttrs_list PySem.F.slot_list_append PySem.F.type_list_append mt_append (c_FB (x_fld (pe_fld (x_varB (pv 1)) (by rfl)))) (pa_cons (c_EF (x_ix (pe_ix ix_seq (c_FB (x_fld (pe_fld (x_varB (pv 0)) (by rfl)))) (c_FB (x_c pe_int fun _ _ => .int _)) (fun _ _ => rfl)))) pa_nil)))) (s_nil pss_nil))) (s_seq (pss_cons (s_if (ps_if (x_test2 (pt_cmpR (op_eqW (un_of hr)) (x_varB (pv 2)) (c_FB (x_c pe_str fun _ _ => .str _)) rfl) p_eq) (s_seq (pss_cons (s_appR (ps_expr (pe_bm PySem.F.plainAttrs_list PySem.F.slot_list_append PySem.F.type_list_append mt_append (c_FB (x_fld (pe_fld (x_varB (pv 1)) (by rfl)))) (pa_cons (c_EF (x_dget (pe_dget (hu_of hr) (c_FB (x_fld (pe_fld (x_varB (pv 0)) (by rfl)))) (c_EB (x_ix (pe_ix ix_seq (c_FB (x_fld (pe_fld (x_varB (pv 0)) (by rfl)))) (c_FB (x_c pe_int fun _ _ => .int _)) (fun _ _ => rfl)))) (fun _ _ => rfl)))) pa_nil)))) (s_nil pss_nil))) (s_seq (pss_cons (s_if (ps_if (x_test2 (pt_cmpR (op_eqW (un_of hr)) (x_varB (pv 2)) (c_FB (x_c pe_str fun _ _ => .str _)) rfl) p_eq) (s_seq (pss_cons (s_expr (ps_expr (x_methC rfl ⟨"Run", _, rfl⟩ (tab_cons (g_meth (x_varB (pv 1)) T.K_Run T.me_Run_later ih.i_Run_later hc hq T.b_Run_later pass0 (xa_cons (pa_cons (c_EF (x_make rfl T.K_Enter (g_make T.mk_Enter ih.i_Enter___init__ hr hq (by rfl) T.g_Enter T.b_Enter___init__ pass0 (xa_cons (pa_cons (x_fld (pe_fld (x_varB (pv 0)) (by rfl))) (xa_nil pa_nil)))))) (xa_cons (pa_cons (c_EF (x_ix (pe_ix ix_seq (c_FB (x_fld (pe_fld (x_varB (pv 0)) (by rfl)))) (c_FB (x_c pe_int fun _ _ => .int _)) (fun _ _ => rfl)))) (xa_cons (pa_cons (x_fld (pe_fld (x_varB (pv 0)) (by rfl))) (xa_nil pa_nil)))))))) tab_nil)))) (s_nil pss_nil))) (s_seq (pss_cons (s_if (ps_if (x_test2 (pt_cmpR (op_eqW (un_of hr)) (x_varB (pv 2)) (c_FB (x_c pe_str fun _ _ => .str _)) rfl) p_eq) (s_seq (pss_cons (s_expr (ps_expr (x_methC rfl ⟨"Run", _, rfl⟩ (tab_cons (g_meth (x_varB (pv 1)) T.K_Run T.me_Run_later ih.i_Run_later hc hq T.b_Run_later pass0 (xa_cons (pa_cons (c_EF (x_make rfl T.K_Sign (g_make T.mk_Sign ih.i_Sign___init__ hr hq (by rfl) T.g_Sign T.b_Sign___init__ pass0 (xa_cons (pa_cons (c_EF (x_ix (pe_ix ix_seq (c_FB (x_fld (pe_fld (x_varB (pv 0)) (by rfl)))) (c_FB (x_c pe_int fun _ _ => .int _)) (fun _ _ => rfl)))) (xa_nil pa_nil)))))) (xa_cons (pa_cons (c_EF (x_sl (pe_slice sl_A3 (c_FB (x_fld (pe_fld (x_varB (pv 0)) (by rfl)))) (x_so (c_FB (x_c pe_int fun _ _ => .int _))) x_no) p_sl)) (xa_cons (pa_cons (x_fld (pe_fld (x_varB (pv 0)) (by rfl))) (xa_nil pa_nil)))))))) tab_nil)))) (s_nil pss_nil))) (s_seq (pss_cons (s_if (ps_if (x_test2 (pt_cmpR (op_eqW (un_of hr)) (x_varB (pv 2)) (c_FB (x_c pe_str fun _ _ => .str _)) rfl) p_eq) (s_seq (pss_cons (s_expr (ps_expr (x_methC rfl ⟨"Run", _, rfl⟩ (tab_cons (g_meth (x_varB (pv 1)) T.K_Run T.me_Run_later ih.i_Run_later hc hq T.b_Run_later pass0 (xa_cons (pa_cons (c_EF (x_make rfl T.K_Begin (g_make T.mk_Begin ih.i_Begin___init__ hr hq (by rfl) T.g_Begin T.b_Begin___init__ pass0 (xa_cons (pa_cons (x_fld (pe_fld (x_varB (pv 0)) (by rfl))) (xa_cons (pa_cons (x_fld (pe_fld (x_varB (pv 0)) (by rfl))) (xa_nil pa_nil)))))))) (xa_cons (pa_cons (x_tup (pe_tup (xa_cons (pa_cons (c_EF (x_ix (pe_ix ix_seq (c_FB (x_fld (pe_fld (x_varB (pv 0)) (by rfl)))) (c_FB (x_c pe_int fun _ _ => .int _)) (fun _ _ => rfl)))) (xa_cons (pa_cons (c_EF (x_ix (pe_ix ix_seq (c_FB (x_fld (pe_fld (x_varB (pv 0)) (by rfl)))) (c_FB (x_c pe_int fun _ _ => .int _)) (fun _ _ => rfl)))) (xa_nil pa_nil))))))) (xa_cons (pa_cons (x_fld (pe_fld (x_varB (pv 0)) (by rfl))) (xa_nil pa_nil)))))))) tab_nil)))) (s_nil pss_nil))) (s_seq (pss_cons (s_set (ps_set (i := 3) sc_Work_work.nd rfl (by first | exact Or.inl rfl | exact Or.inr rfl) (c_FE (c_EF (x_if (pe_ifExp (x_test2 (pt_cmpR (op_eqW (un_of hr)) (x_varB (pv 2)) (c_FB (x_c pe_str fun _ _ => .str _)) rfl) p_eq) (x_ix (pe_ix ix_seq (c_FB (x_fld (pe_fld (x_varB (pv 0)) (by rfl)))) (c_FB (x_c pe_int fun _ _ => .int _)) (fun _ _ => rfl))) (x_ix (pe_ix ix_seq (c_FB (x_fld (pe_fld (x_varB (pv 0)) (by rfl)))) (c_FB (x_c pe_int fun _ _ => .int _)) (fun _ _ => rfl))))))))) (s_seq (pss_cons (s_expr (ps_expr (x_methC rfl ⟨"Run", _, rfl⟩ (tab_cons (g_meth (x_varB (pv 1)) T.K_Run T.me_Run_later ih.i_Run_later hc hq T.b_Run_later pass0 (xa_cons (pa_cons (c_EF (x_make rfl T.K_Behind (g_make T.mk_Behind ih.i_Behind___init__ hr hq (by rfl) T.g_Behind T.b_Behind___init__ pass0 (xa_cons (pa_cons (x_fld (pe_fld (x_varB (pv 0)) (by rfl))) (xa_cons (pa_cons (x_fld (pe_fld (x_varB (pv 0)) (by rfl))) (xa_nil pa_nil)))))))) (xa_cons (pa_cons (x_tup (pe_tup (xa_cons (pa_cons (x_var (pv 3)) (xa_nil pa_nil))))) (xa_cons (pa_cons (x_fld (pe_fld (x_varB (pv 0)) (by rfl))) (xa_nil pa_nil)))))))) tab_nil)))) (s_nil pss_nil))))))) (s_nil pss_nil))))) (s_nil pss_nil))))) (s_nil pss_nil))))) (s_nil pss_nil))))) (s_nil pss_nil)))))
theorem ok_Enter___init__ (T : Top w K mg) {k : Nat} (ih : Oks P w base T k) : GOk P w K mg base CX0 (lv k + 1 + 1) T.a_Enter___init__ T.d_Enter___init__ ["self", "expression"] (spD K W0 2 (sem (k + 1) f_Enter___init__)) := by
  rw [e_Enter___init__]
  refine g_fn (N := ["self", "expression"]) (ps := ["self", "expression"]) (g := m_Enter___init__ (sem k)) T.F_Enter___init__ sc_Enter___init__ (fun cdv A outer s H EX hr hq => ?_)
  have hc := hr.mono (Nat.le_succ _)
  exact (s_seq (pss_cons (s_fldS T.n_Enter_tree (ps_fld (x_varB (pv 0)) (x_var (pv 1)) (by rfl))) (s_nil pss_nil)))
theorem ok_Enter_work (T : Top w K mg) {k : Nat} (ih : Oks P w base T k) : GOk P w K mg base CX0 (lv k + 1 + 1) T.a_Enter_work T.d_Enter_work ["self", "run"] (spD K W0 2 (sem (k + 1) f_Enter_work)) := by
  rw [e_Enter_work]
  refine g_fn (N := ["self", "run", "args", "params", "body", "name"]) (ps := ["self", "run"]) (g := m_Enter_work (sem k)) T.F_Enter_work sc_Enter_work (fun cdv A outer s H EX hr hq => ?_)
  have hc := hr.mono (Nat.le_succ _)
  exact (s_seq (pss_cons (s_asg (ps_asg (c_EF (x_dget (pe_dget (hu_of hr) (c_FB (x_fld (pe_fld (x_varB (pv 1)) (by rfl)))) (c_EB (x_sl (pe_slice sl_A3 (c_FB (x_fld (pe_fld (x_varB (pv 0)) (by rfl)))) (x_so (c_FB (x_c pe_int fun _ _ => .int _))) (x_so (c_FB (x_c pe_int fun _ _ => .int _)))) p_sl)) (fun _ _ => rfl)))) (x_gtup (is := [3, 4]) rfl (pg_tup rfl (pgs_cons (pg_name (i := 3) sc_Enter_work.nd rfl (by first | exact Or.inl rfl | exact Or.inr rfl)) (pgs_cons (pg_name (i := 4) sc_Enter_work.nd rfl (by first | exact Or.inl rfl | exact Or.inr rfl)) pgs_nil)))))) (s_seq (pss_cons (s_setLc (by decide) (ps_setLc (i := 2) (own := [("name", 5)]) rfl sc_Enter_work.nd rfl rfl (sw_true rfl rfl rfl (by decide +kernel)) (x_it (PI.or (pi_list (x_var (pv 3))) (PI.or (pi_tup (x_var (pv 3))) (pi_str (x_var (pv 3)))))) (blkOk_by (N := ["self", "run", "args", "params", "body", "name"]) (sc := defScope s_Enter_work) (by decide +kernel)) (fun _ _ _ _ _ => (x_gname (pg_name (i := 5) sc_Enter_work.nd rfl (by first | exact Or.inl rfl | exact Or.inr rfl)))) (fun _ _ _ _ _ => x_yes) (fun _ _ _ _ _ => (x_popR (pe_bm0 PySem.F.plainAttrs_list PySem.F.slot_list_pop PySem.F.type_list_pop mt_pop (c_FB (x_fld (pe_fld (x_varB (pv 1)) (by rfl))))))))) (s_seq (pss_cons (s_expr (ps_expr (x_methC rfl ⟨"Run", _, rfl⟩ (tab_cons (g_meth (x_varB (pv 1)) T.K_Run T.me_Run_later ih.i_Run_later hc hq T.b_Run_later pass0 (xa_cons (pa_cons (x_c pe_non fun _ _ => .non) (xa_cons (pa_cons (x_tup (pe_tup (xa_cons (pa_cons (x_var (pv 4)) (xa_nil pa_nil))))) (xa_cons (pa_cons (x_dictZR (pe_dictzipR (x_var (pv 3)) (x_varB (pv 2)) rfl (by rfl) T.z_dict (by rfl) T.z_zip (by rfl) T.z_reversed)) (xa_nil pa_nil)))))))) tab_nil)))) (s_nil pss_nil)))))))
theorem ok_Sign___init__ (T : Top w K mg) {k : Nat} (ih : Oks P w base T k) : GOk P w K mg base CX0 (lv k + 1 + 1) T.a_Sign___init__ T.d_Sign___init__ ["self", "sign"] (spD K W0 2 (sem (k + 1) f_Sign___init__)) := by
  rw [e_Sign___init__]
  refine g_fn (N := ["self", "sign"]) (ps := ["self", "sign"]) (g := m_Sign___init__ (sem k)) T.F_Sign___init__ sc_Sign___init__ (fun cdv A outer s H EX hr hq => ?_)
  have hc := hr.mono (Nat.le_succ _)
  exact (s_seq (pss_cons (s_fldS T.n_Sign_sign (ps_fld (x_varB (pv 0)) (x_var (pv 1)) (by rfl))) (s_nil pss_nil)))
theorem ok_Sign_work (T : Top w K mg) {k : Nat} (ih : Oks P w base T k) : GOk P w K mg base CX0 (lv k + 1 + 1) T.a_Sign_work T.d_Sign_work ["self", "run"] (spD K W0 2 (sem (k + 1) f_Sign_work)) := by
  rw [e_Sign_work]
  refine g_fn (N := ["self", "run", "other", "one"]) (ps := ["self", "run"]) (g := m_Sign_work (sem k)) T.F_Sign_work sc_Sign_work (fun cdv A outer s H EX hr hq => ?_)
  have hc := hr.mono (Nat.le_succ _)
  exact (s_seq (pss_cons (s_set (ps_set (i := 2) sc_Sign_work.nd rfl (by first | exact Or.inl rfl | exact Or.inr rfl) (c_FE (x_popR (pe_bm0 PySem.F.plainAttrs_list PySem.F.slot_list_pop PySem.F.type_list_pop mt_pop (c_FB (x_fld (pe_fld (x_varB (pv 1)) (by rfl))))))))) (s_seq (pss_cons (s_set (ps_set (i := 3) sc_Sign_work.nd rfl (by first | exact Or.inl rfl | exact Or.inr rfl) (c_FE (x_popR (pe_bm0 PySem.F.plainAttrs_list PySem.F.slot_list_pop PySem.F.type_list_pop mt_pop (c_FB (x_fld (pe_fld (x_varB (pv 1)) (by rfl))))))))) (s_seq (pss_cons (s_if (ps_if (PW.pt (x_and (pw_and (x_test2 (pt_cmpR (op_eqW (un_of hr)) (x_varB (pv 2)) (c_FB (x_c pe_int fun _ _ => .int _)) rfl) p_eq) (pw_and1 (x_test2 (pt_cmpR op_inA (c_FB (x_fld (pe_fld (x_varB (pv 0)) (by rfl)))) (c_FB (x_tup (pe_tup (xa_cons (pa_cons (x_c pe_str fun _ _ => .str _) (xa_cons (pa_cons (x_c pe_str fun _ _ => .str _) (xa_nil pa_nil)))))))) rfl) p_in))))) (s_seq (pss_cons (s_expr (ps_expr (x_methC rfl ⟨"Run", _, rfl⟩ (tab_cons (g_meth (x_varB (pv 1)) T.K_Run T.me_Run_finish ih.i_Run_finish hc hq T.b_Run_finish pass0 (xa_cons (pa_cons (x_tup (pe_tup (xa_cons (pa_cons (x_c pe_str fun _ _ => .str _) (xa_nil pa_nil))))) (xa_nil pa_nil)))) tab_nil)))) (s_nil pss_nil))) (s_seq (pss_cons (s_appR (ps_expr (pe_bm PySem.F.plainAttrs_list PySem.F.slot_list_append PySem.F.type_list_append mt_append (c_FB (x_fld (pe_fld (x_varB (pv 1)) (by rfl)))) (pa_cons (c_EF (x_call rfl (g_call ih.i_signed hc hq (by rfl) T.m_signed T.F_signed.kp T.b_signed pass0 (xa_cons (pa_cons (x_fld (pe_fld (x_varB (pv 0)) (by rfl))) (xa_cons (pa_cons (x_var (pv 3)) (xa_cons (pa_cons (x_var (pv 2)) (xa_nil pa_nil)))))))))) pa_nil)))) (s_nil pss_nil))))) (s_nil pss_nil)))))))
theorem ok_Behind___init__ (T : Top w K mg) {k : Nat} (ih : Oks P w base T k) : GOk P w K mg base CX0 (lv k + 1 + 1) T.a_Behind___init__ T.d_Behind___init__ ["self", "expression", "values"] (spD K W0 3 (sem (k + 1) f_Behind___init__)) := by
  rw [e_Behind___init__]
  refine g_fn (N := ["self", "expression", "values"]) (ps := ["self", "expression", "values"]) (g := m_Behind___init__ (sem k)) T.F_Behind___init__ sc_Behind___init__ (fun cdv A outer s H EX hr hq => ?_)
  have hc := hr.mono (Nat.le_succ _)
  exact (s_seq (pss_cons (s_fldS T.n_Behind_tree (ps_fld (x_varB (pv 0)) (x_var (pv 1)) (by rfl))) (s_seq (pss_cons (s_fldS T.n_Behind_scope (ps_fld (x_varB (pv 0)) (x_var (pv 2)) (by rfl))) (s_nil pss_nil)))))
theorem ok_Behind_work (T : Top w K mg) {k : Nat} (ih : Oks P w base T k) : GOk P w K mg base CX0 (lv k + 1 + 1) T.a_Behind_work T.d_Behind_work ["self", "run"] (spD K W0 2 (sem (k + 1) f_Behind_work)) := by
  rw [e_Behind_work]
  refine g_fn (N := ["self", "run", "word", "worth", "values"]) (ps := ["self", "run"]) (g := m_Behind_work (sem k)) T.F_Behind_work sc_Behind_work (fun cdv A outer s H EX hr hq => ?_)
  have hc := hr.mono (Nat.le_succ _)
  exact (s_seq (pss_cons (s_set (ps_set (i := 2) sc_Behind_work.nd rfl (by first | exact Or.inl rfl | exact Or.inr rfl) (c_FE (c_EF (x_ix (pe_ix ix_seq (c_FB (x_fld (pe_fld (x_varB (pv 0)) (by rfl)))) (c_FB (x_c pe_int fun _ _ => .int _)) (fun _ _ => rfl))))))) (s_seq (pss_cons (s_set (ps_set (i := 3) sc_Behind_work.nd rfl (by first | exact Or.inl rfl | exact Or.inr rfl) (c_FE (x_popR (pe_bm0 PySem.F.plainAttrs_list PySem.F.slot_list_pop PySem.F.type_list_pop mt_pop (c_FB (x_fld (pe_fld (x_varB (pv 1)) (by rfl))))))))) (s_seq (pss_cons (s_set (ps_set (i := 4) sc_Behind_work.nd rfl (by first | exact Or.inl rfl | exact Or.inr rfl) (c_FE (x_newD (pe_callTy call_dictD (by rfl) T.z_dict bt_dict (xr_cons (pa_cons (c_FB (x_fld (pe_fld (x_varB (pv 0)) (by rfl)))) (xr_nil pa_nil)))) p_copyD)))) (s_seq (pss_cons (s_if (ps_if (x_test2 (pt_cmpR (op_eqW (un_of hr)) (x_varB (pv 2)) (c_FB (x_c pe_str fun _ _ => .str _)) rfl) p_eq) (s_seq (pss_cons (s_expr (ps_expr (x_methC rfl ⟨"Run", _, rfl⟩ (tab_cons (g_meth (x_varB (pv 1)) T.K_Run T.me_Run_finish ih.i_Run_finish hc hq T.b_Run_finish pass0 (xa_cons (pa_cons (x_tup (pe_tup (xa_cons (pa_cons (x_c pe_str fun _ _ => .str _) (xa_cons (pa_cons (x_var (pv 3)) (xa_nil pa_nil))))))) (xa_nil pa_nil)))) tab_nil)))) (s_nil pss_nil))) (s_seq (pss_cons (s_if (ps_if (x_test2 (pt_cmpR (op_eqW (un_of hr)) (x_varB (pv 2)) (c_FB (x_c pe_str fun _ _ => .str _)) rfl) p_eq) (s_seq (pss_cons (s_expr (ps_expr (x_methC rfl ⟨"Run", _, rfl⟩ (tab_cons (g_meth (x_varB (pv 1)) T.K_Run T.me_Run_later ih.i_Run_later hc hq T.b_Run_later pass0 (xa_cons (pa_cons (x_c pe_non fun _ _ => .non) (xa_cons (pa_cons (x_tup (pe_tup (xa_cons (pa_cons (c_EF (x_if (pe_ifExp (x_test2 (pt_cmpR (op_neW (un_of hr)) (x_varB (pv 3)) (c_FB (x_c pe_int fun _ _ => .int _)) rfl) p_ne) (x_ix (pe_ix ix_seq (c_FB (x_fld (pe_fld (x_varB (pv 0)) (by rfl)))) (c_FB (x_c pe_int fun _ _ => .int _)) (fun _ _ => rfl))) (x_ix (pe_ix ix_seq (c_FB (x_fld (pe_fld (x_varB (pv 0)) (by rfl)))) (c_FB (x_c pe_int fun _ _ => .int _)) (fun _ _ => rfl)))))) (xa_nil pa_nil))))) (xa_cons (pa_cons (x_var (pv 4)) (xa_nil pa_nil)))))))) tab_nil)))) (s_nil pss_nil))) (s_seq (pss_cons (s_if (ps_if (x_test2 (pt_cmpR (op_eqW (un_of hr)) (x_varB (pv 2)) (c_FB (x_c pe_str fun _ _ => .str _)) rfl) p_eq) (s_seq (pss_cons (s_appR (ps_expr (pe_bm PySem.F.plainAttrs_list PySem.F.slot_list_append PySem.F.type_list_append mt_append (c_FB (x_fld (pe_fld (x_varB (pv 1)) (by rfl)))) (pa_cons (x_var (pv 3)) pa_nil)))) (s_seq (pss_cons (s_expr (ps_expr (x_methC rfl ⟨"Run", _, rfl⟩ (tab_cons (g_meth (x_varB (pv 1)) T.K_Run T.me_Run_later ih.i_Run_later hc hq T.b_Run_later pass0 (xa_cons (pa_cons (x_c pe_non fun _ _ => .non) (xa_cons (pa_cons (x_tup (pe_tup (xa_cons (pa_cons (c_EF (x_ix (pe_ix ix_seq (c_FB (x_fld (pe_fld (x_varB (pv 0)) (by rfl)))) (c_FB (x_c pe_int fun _ _ => .int _)) (fun _ _ => rfl)))) (xa_nil pa_nil))))) (xa_cons (pa_cons (x_var (pv 4)) (xa_nil pa_nil)))))))) tab_nil)))) (s_nil pss_nil))))) (s_seq (pss_cons (s_putD (ps_dput (hu_of hr) (x_varB (pv 4)) (c_EB (x_ix (pe_ix ix_seq (c_FB (x_fld (pe_fld (x_varB (pv 0)) (by rfl)))) (c_FB (x_c pe_int fun _ _ => .int _)) (fun _ _ => rfl)))) (x_var (pv 3)) rfl)) (s_seq (pss_cons (s_expr (ps_expr (x_methC rfl ⟨"Run", _, rfl⟩ (tab_cons (g_meth (x_varB (pv 1)) T.K_Run T.me_Run_later ih.i_Run_later hc hq T.b_Run_later pass0 (xa_cons (pa_cons (x_c pe_non fun _ _ => .non) (xa_cons (pa_cons (x_tup (pe_tup (xa_cons (pa_cons (c_EF (x_ix (pe_ix ix_seq (c_FB (x_fld (pe_fld (x_varB (pv 0)) (by rfl)))) (c_FB (x_c pe_int fun _ _ => .int _)) (fun _ _ => rfl)))) (xa_nil pa_nil))))) (xa_cons (pa_cons (x_var (pv 4)) (xa_nil pa_nil)))))))) tab_nil)))) (s_nil pss_nil))))))) (s_nil pss_nil))))) (s_nil pss_nil))))) (s_nil pss_nil)))))))))
theorem ok_Begin___init__ (T : Top w K mg) {k : Nat} (ih : Oks P w base T k) : GOk P w K mg base CX0 (lv k + 1 + 1) T.a_Begin___init__ T.d_Begin___init__ ["self", "expression", "values"] (spD K W0 3 (sem (k + 1) f_Begin___init__)) := by
  rw [e_Begin___init__]
  refine g_fn (N := ["self", "expression", "values"]) (ps := ["self", "expression", "values"]) (g := m_Begin___init__ (sem k)) T.F_Begin___init__ sc_Begin___init__ (fun cdv A outer s H EX hr hq => ?_)
  have hc := hr.mono (Nat.le_succ _)
  exact (s_seq (pss_cons (s_fldS T.n_Begin_tree (ps_fld (x_varB (pv 0)) (x_var (pv 1)) (by rfl))) (s_seq (pss_cons (s_fldS T.n_Begin_scope (ps_fld (x_varB (pv 0)) (x_var (pv 2)) (by rfl))) (s_nil pss_nil)))))
theorem ok_Begin_work (T : Top w K mg) {k : Nat} (ih : Oks P w base T k) : GOk P w K mg base CX0 (lv k + 1 + 1) T.a_Begin_work T.d_Begin_work ["self", "run"] (spD K W0 2 (sem (k + 1) f_Begin_work)) := by
  rw [e_Begin_work]
  refine g_fn (N := ["self", "run", "total", "many"]) (ps := ["self", "run"]) (g := m_Begin_work (sem k)) T.F_Begin_work sc_Begin_work (fun cdv A outer s H EX hr hq => ?_)
  have hc := hr.mono (Nat.le_succ _)
  exact (s_seq (pss_cons (s_set (ps_set (i := 2) sc_Begin_work.nd rfl (by first | exact Or.inl rfl | exact Or.inr rfl) (c_FE (x_popR (pe_bm0 PySem.F.plainAttrs_list PySem.F.slot_list_pop PySem.F.type_list_pop mt_pop (c_FB (x_fld (pe_fld (x_varB (pv 1)) (by rfl))))))))) (s_seq (pss_cons (s_set (ps_set (i := 3) sc_Begin_work.nd rfl (by first | exact Or.inl rfl | exact Or.inr rfl) (c_FE (x_popR (pe_bm0 PySem.F.plainAttrs_list PySem.F.slot_list_pop PySem.F.type_list_pop mt_pop (c_FB (x_fld (pe_fld (x_varB (pv 1)) (by rfl))))))))) (s_seq (pss_cons (s_appR (ps_expr (pe_bm PySem.F.plainAttrs_list PySem.F.slot_list_append PySem.F.type_list_append mt_append (c_FB (x_fld (pe_fld (x_varB (pv 1)) (by rfl)))) (pa_cons (x_var (pv 2)) pa_nil)))) (s_seq (pss_cons (s_if (ps_if (x_test2 (pt_cmpR op_gt (x_varB (pv 3)) (c_FB (x_c (pe_glob (v := .int 1000) (by rfl) T.c_MOST_ROUNDS.choose_spec ⟨_, rfl⟩) fun _ _ => .int _)) rfl) (p_cmp fun i j => decide (j < i))) (s_seq (pss_cons (s_expr (ps_expr (x_methC rfl ⟨"Run", _, rfl⟩ (tab_cons (g_meth (x_varB (pv 1)) T.K_Run T.me_Run_finish ih.i_Run_finish hc hq T.b_Run_finish pass0 (xa_cons (pa_cons (x_tup (pe_tup (xa_cons (pa_cons (x_c pe_str fun _ _ => .str _) (xa_nil pa_nil))))) (xa_nil pa_nil)))) tab_nil)))) (s_nil pss_nil))) (s_seq (pss_cons (s_appR (ps_expr (pe_bm PySem.F.plainAttrs_list PySem.F.slot_list_append PySem.F.type_list_append mt_append (c_FB (x_fld (pe_fld (x_varB (pv 1)) (by rfl)))) (pa_cons (c_EF (x_make rfl T.K_Round (g_make T.mk_Round ih.i_Round___init__ hr hq (by rfl) T.g_Round T.b_Round___init__ pass0 (xa_cons (pa_cons (x_fld (pe_fld (x_varB (pv 0)) (by rfl))) (xa_cons (pa_cons (x_fld (pe_fld (x_varB (pv 0)) (by rfl))) (xa_cons (pa_cons (x_c pe_int fun _ _ => .int _) (xa_cons (pa_cons (x_var (pv 3)) (xa_nil pa_nil)))))))))))) pa_nil)))) (s_nil pss_nil))))) (s_nil pss_nil)))))))))
theorem ok_Round___init__ (T : Top w K mg) {k : Nat} (ih : Oks P w base T k) : GOk P w K mg base CX0 (lv k + 1 + 1) T.a_Round___init__ T.d_Round___init__ ["self", "expression", "values", "number", "many"] (spD K W0 5 (sem (k + 1) f_Round___init__)) := by
  rw [e_Round___init__]
  refine g_fn (N := ["self", "expression", "values", "number", "many"]) (ps := ["self", "expression", "values", "number", "many"]) (g := m_Round___init__ (sem k)) T.F_Round___init__ sc_Round___init__ (fun cdv A outer s H EX hr hq => ?_)
  have hc := hr.mono (Nat.le_succ _)
  exact (s_seq (pss_cons (s_fldS T.n_Round_tree (ps_fld (x_varB (pv 0)) (x_var (pv 1)) (by rfl))) (s_seq (pss_cons (s_fldS T.n_Round_scope (ps_fld (x_varB (pv 0)) (x_var (pv 2)) (by rfl))) (s_seq (pss_cons (s_fldS T.n_Round_turn (ps_fld (x_varB (pv 0)) (x_var (pv 3)) (by rfl))) (s_seq (pss_cons (s_fldS T.n_Round_turns (ps_fld (x_varB (pv 0)) (x_var (pv 4)) (by rfl))) (s_nil pss_nil)))))))))
theorem ok_Round_work (T : Top w K mg) {k : Nat} (ih : Oks P w base T k) : GOk P w K mg base CX0 (lv k + 1 + 1) T.a_Round_work T.d_Round_work ["self", "run"] (spD K W0 2 (sem (k + 1) f_Round_work)) := by
  rw [e_Round_work]
  refine g_fn (N := ["self", "run", "values"]) (ps := ["self", "run"]) (g := m_Round_work (sem k)) T.F_Round_work sc_Round_work (fun cdv A outer s H EX hr hq => ?_)
  have hc := hr.mono (Nat.le_succ _)
  exact (s_seq (pss_cons (s_if (ps_if (x_test2 (pt_cmpR op_lt (c_FB (x_fld (pe_fld (x_varB (pv 0)) (by rfl)))) (c_FB (x_fld (pe_fld (x_varB (pv 0)) (by rfl)))) rfl) (p_cmp fun i j => decide (i < j))) (s_seq (pss_cons (s_set (ps_set (i := 2) sc_Round_work.nd rfl (by first | exact Or.inl rfl | exact Or.inr rfl) (c_FE (x_newD (pe_callTy call_dictD (by rfl) T.z_dict bt_dict (xr_cons (pa_cons (c_FB (x_fld (pe_fld (x_varB (pv 0)) (by rfl)))) (xr_nil pa_nil)))) p_copyD)))) (s_seq (pss_cons (s_putD (ps_dput (hu_of hr) (x_varB (pv 2)) (c_EB (x_ix (pe_ix ix_seq (c_FB (x_fld (pe_fld (x_varB (pv 0)) (by rfl)))) (c_FB (x_c pe_int fun _ _ => .int _)) (fun _ _ => rfl)))) (x_fld (pe_fld (x_varB (pv 0)) (by rfl))) rfl)) (s_seq (pss_cons (s_putD (ps_dput (hu_of hr) (x_varB (pv 2)) (c_EB (x_ix (pe_ix ix_seq (c_FB (x_fld (pe_fld (x_varB (pv 0)) (by rfl)))) (c_FB (x_c pe_int fun _ _ => .int _)) (fun _ _ => rfl)))) (x_popR (pe_bm0 PySem.F.plainAttrs_list PySem.F.slot_list_pop PySem.F.type_list_pop mt_pop (c_FB (x_fld (pe_fld (x_varB (pv 1)) (by rfl)))))) rfl)) (s_seq (pss_cons (s_expr (ps_expr (x_methC rfl ⟨"Run", _, rfl⟩ (tab_cons (g_meth (x_varB (pv 1)) T.K_Run T.me_Run_later ih.i_Run_later hc hq T.b_Run_later pass0 (xa_cons (pa_cons (c_EF (x_make rfl T.K_Round (g_make T.mk_Round ih.i_Round___init__ hr hq (by rfl) T.g_Round T.b_Round___init__ pass0 (xa_cons (pa_cons (x_fld (pe_fld (x_varB (pv 0)) (by rfl))) (xa_cons (pa_cons (x_fld (pe_fld (x_varB (pv 0)) (by rfl))) (xa_cons (pa_cons (c_EF (x_op2 (pe_op op_addA (c_FB (x_fld (pe_fld (x_varB (pv 0)) (by rfl)))) (c_FB (x_c pe_int fun _ _ => .int _))) p_add)) (xa_cons (pa_cons (x_fld (pe_fld (x_varB (pv 0)) (by rfl))) (xa_nil pa_nil)))))))))))) (xa_cons (pa_cons (x_tup (pe_tup (xa_cons (pa_cons (c_EF (x_ix (pe_ix ix_seq (c_FB (x_fld (pe_fld (x_varB (pv 0)) (by rfl)))) (c_FB (x_c pe_int fun _ _ => .int _)) (fun _ _ => rfl)))) (xa_nil pa_nil))))) (xa_cons (pa_cons (x_var (pv 2)) (xa_nil pa_nil)))))))) tab_nil)))) (s_nil pss_nil))))))))) (s_nil pss_nil))) (s_nil pss_nil)))
theorem ok_Run___init__ (T : Top w K mg) {k : Nat} (ih : Oks P w base T k) : GOk P w K mg base CX0 (lv k + 1 + 1) T.a_Run___init__ T.d_Run___init__ ["self", "program"] (spD K W0 2 (sem (k + 1) f_Run___init__)) := by
  rw [e_Run___init__]
  refine g_fn (N := ["self", "program", "m", "f", "params", "body"]) (ps := ["self", "program"]) (g := m_Run___init__ (sem k)) T.F_Run___init__ sc_Run___init__ (fun cdv A outer s H EX hr hq => ?_)
  have hc := hr.mono (Nat.le_succ _)
  exact (s_seq (pss_cons (s_fldS T.n_Run_rows (ps_fld (x_varB (pv 0)) (x_newD (pe_callTy (call_dictT rfl (un_of hr)) (by rfl) T.z_dict bt_dict (xr_cons (pa_cons (c_EB (x_lc (by decide) (pe_lc (own := [("m", 2), ("f", 3), ("params", 4), ("body", 5)]) rfl sc_Run___init__.nd (x_it (PI.or (pi_list (c_EF (x_call rfl (g_call ih.i_functions hc hq (by rfl) T.m_functions T.F_functions.kp T.b_functions pass0 (xa_cons (pa_cons (x_var (pv 1)) (xa_nil pa_nil))))))) (PI.or (pi_tup (c_EF (x_call rfl (g_call ih.i_functions hc hq (by rfl) T.m_functions T.F_functions.kp T.b_functions pass0 (xa_cons (pa_cons (x_var (pv 1)) (xa_nil pa_nil))))))) (pi_str (c_EF (x_call rfl (g_call ih.i_functions hc hq (by rfl) T.m_functions T.F_functions.kp T.b_functions pass0 (xa_cons (pa_cons (x_var (pv 1)) (xa_nil pa_nil)))))))))) (blkOk_by (N := ["self", "program", "m", "f", "params", "body"]) (sc := defScope s_Run___init__) (by decide +kernel)) (fun _ _ _ _ _ => (x_gtup (is := [2, 3, 4, 5]) rfl (pg_tup rfl (pgs_cons (pg_name (i := 2) sc_Run___init__.nd rfl (by first | exact Or.inl rfl | exact Or.inr rfl)) (pgs_cons (pg_name (i := 3) sc_Run___init__.nd rfl (by first | exact Or.inl rfl | exact Or.inr rfl)) (pgs_cons (pg_name (i := 4) sc_Run___init__.nd rfl (by first | exact Or.inl rfl | exact Or.inr rfl)) (pgs_cons (pg_name (i := 5) sc_Run___init__.nd rfl (by first | exact Or.inl rfl | exact Or.inr rfl)) pgs_nil))))))) (fun _ _ _ _ _ => x_yes) (fun _ _ _ _ _ => (x_tup (pe_tup (xa_cons (pa_cons (x_tup (pe_tup (xa_cons (pa_cons (x_var (pv 2)) (xa_cons (pa_cons (x_var (pv 3)) (xa_nil pa_nil))))))) (xa_cons (pa_cons (x_tup (pe_tup (xa_cons (pa_cons (x_var (pv 4)) (xa_cons (pa_cons (x_var (pv 5)) (xa_nil pa_nil))))))) (xa_nil pa_nil))))))))))) (xr_nil pa_nil)))) p_pairTD) (by rfl))) (s_seq (pss_cons (s_fldS T.n_Run_deeds (ps_fld (x_varB (pv 0)) (c_EF (x_ref (x_lst (pe_lst (xa_nil pa_nil))))) (by rfl))) (s_seq (pss_cons (s_fldS T.n_Run_worths (ps_fld (x_varB (pv 0)) (c_EF (x_ref (x_lst (pe_lst (xa_nil pa_nil))))) (by rfl))) (s_seq (pss_cons (s_fldS T.n_Run_told (ps_fld (x_varB (pv 0)) (c_EF (x_ref (x_lst (pe_lst (xa_nil pa_nil))))) (by rfl))) (s_seq (pss_cons (s_fldS T.n_Run_end (ps_fld (x_varB (pv 0)) (x_c pe_non fun _ _ => .non) (by rfl))) (s_nil pss_nil)))))))))))
theorem ok_Run_later (T : Top w K mg) {k : Nat} (ih : Oks P w base T k) : GOk P w K mg base CX0 (lv k + 1 + 1) T.a_Run_later T.d_Run_later ["self", "behind", "expressions", "values"] (spD K W0 4 (sem (k + 1) f_Run_later)) := by
  rw [e_Run_later]
  refine g_fn (N := ["self", "behind", "expressions", "values", "one"]) (ps := ["self", "behind", "expressions", "values"]) (g := m_Run_later (sem k)) T.F_Run_later sc_Run_later (fun cdv A outer s H EX hr hq => ?_)
  have hc := hr.mono (Nat.le_succ _)
  exact (s_seq (pss_cons (s_if (ps_if (x_test2 (pt_cmpR op_isntA (x_varB (pv 1)) (c_FB (x_c pe_non fun _ _ => .non)) rfl) p_isnt) (s_seq (pss_cons (s_appR (ps_expr (pe_bm PySem.F.plainAttrs_list PySem.F.slot_list_append PySem.F.type_list_append mt_append (c_FB (x_fld (pe_fld (x_varB (pv 0)) (by rfl)))) (pa_cons (x_var (pv 1)) pa_nil)))) (s_nil pss_nil))) (s_nil pss_nil))) (s_seq (pss_cons (s_for (ps_for PassesOwn.never rfl (x_rev (RT.pi_revA (by rfl) T.z_reversed (x_var (pv 2)))) (x_gname (pg_name (i := 4) sc_Run_later.nd rfl (by first | exact Or.inl rfl | exact Or.inr rfl))) (s_seq (pss_cons (s_appR (ps_expr (pe_bm PySem.F.plainAttrs_list PySem.F.slot_list_append PySem.F.type_list_append mt_append (c_FB (x_fld (pe_fld (x_varB (pv 0)) (by rfl)))) (pa_cons (c_EF (x_make rfl T.K_Work (g_make T.mk_Work ih.i_Work___init__ hr hq (by rfl) T.g_Work T.b_Work___init__ pass0 (xa_cons (pa_cons (x_var (pv 4)) (xa_cons (pa_cons (x_var (pv 3)) (xa_nil pa_nil)))))))) pa_nil)))) (s_nil pss_nil))))) (s_nil pss_nil)))))
theorem ok_Run_finish (T : Top w K mg) {k : Nat} (ih : Oks P w base T k) : GOk P w K mg base CX0 (lv k + 1 + 1) T.a_Run_finish T.d_Run_finish ["self", "end"] (spD K W0 2 (sem (k + 1) f_Run_finish)) := by
  rw [e_Run_finish]
  refine g_fn (N := ["self", "end"]) (ps := ["self", "end"]) (g := m_Run_finish (sem k)) T.F_Run_finish sc_Run_finish (fun cdv A outer s H EX hr hq => ?_)
  have hc := hr.mono (Nat.le_succ _)
  exact (s_seq (pss_cons (s_fldS T.n_Run_end (ps_fld (x_varB (pv 0)) (x_var (pv 1)) (by rfl))) (s_nil pss_nil)))
theorem ok_Run_ended (T : Top w K mg) {k : Nat} (ih : Oks P w base T k) : GOk P w K mg base CX0 (lv k + 1 + 1) T.a_Run_ended T.d_Run_ended ["self"] (spD K W0 1 (sem (k + 1) f_Run_ended)) := by
  rw [e_Run_ended]
  refine g_fn (N := ["self"]) (ps := ["self"]) (g := m_Run_ended (sem k)) T.F_Run_ended sc_Run_ended (fun cdv A outer s H EX hr hq => ?_)
  have hc := hr.mono (Nat.le_succ _)
  exact (s_seq (pss_cons (s_while (ps_while PassesOwn.never (PW.pt (x_and (pw_and (x_test2 (pt_cmpR op_isA (c_FB (x_fld (pe_fld (x_varB (pv 0)) (by rfl)))) (c_FB (x_c pe_non fun _ _ => .non)) rfl) p_is) (pw_and1 (x_test2 (pt_cmpR (op_neL (un_of hr)) (c_FB (x_fld (pe_fld (x_varB (pv 0)) (by rfl)))) (c_EB (x_lst (pe_lst (xa_nil pa_nil)))) rfl) p_neL))))) (s_seq (pss_cons (s_expr (ps_expr (x_methC rfl ⟨"Work", _, rfl⟩ (tab_cons (g_meth (c_FB (x_popR (pe_bm0 PySem.F.plainAttrs_list PySem.F.slot_list_pop PySem.F.type_list_pop mt_pop (c_FB (x_fld (pe_fld (x_varB (pv 0)) (by rfl))))))) T.K_Work T.me_Work_work ih.i_Work_work hc hq T.b_Work_work pass0 (xa_cons (pa_cons (x_var (pv 0)) (xa_nil pa_nil)))) (tab_cons (g_meth (c_FB (x_popR (pe_bm0 PySem.F.plainAttrs_list PySem.F.slot_list_pop PySem.F.type_list_pop mt_pop (c_FB (x_fld (pe_fld (x_varB (pv 0)) (by rfl))))))) T.K_Enter T.me_Enter_work ih.i_Enter_work hc hq T.b_Enter_work pass0 (xa_cons (pa_cons (x_var (pv 0)) (xa_nil pa_nil)))) (tab_cons (g_meth (c_FB (x_popR (pe_bm0 PySem.F.plainAttrs_list PySem.F.slot_list_pop PySem.F.type_list_pop mt_pop (c_FB (x_fld (pe_fld (x_varB (pv 0)) (by rfl))))))) T.K_Sign T.me_Sign_work ih.i_Sign_work hc hq T.b_Sign_work pass0 (xa_cons (pa_cons (x_var (pv 0)) (xa_nil pa_nil)))) (tab_cons (g_meth (c_FB (x_popR (pe_bm0 PySem.F.plainAttrs_list PySem.F.slot_list_pop PySem.F.type_list_pop mt_pop (c_FB (x_fld (pe_fld (x_varB (pv 0)) (by rfl))))))) T.K_Behind T.me_Behind_work ih.i_Behind_work hc hq T.b_Behind_work pass0 (xa_cons (pa_cons (x_var (pv 0)) (xa_nil pa_nil)))) (tab_cons (g_meth (c_FB (x_popR (pe_bm0 PySem.F.plainAttrs_list PySem.F.slot_list_pop PySem.F.type_list_pop mt_pop (c_FB (x_fld (pe_fld (x_varB (pv 0)) (by rfl))))))) T.K_Begin T.me_Begin_work ih.i_Begin_work hc hq T.b_Begin_work pass0 (xa_cons (pa_cons (x_var (pv 0)) (xa_nil pa_nil)))) (tab_cons (g_meth (c_FB (x_popR (pe_bm0 PySem.F.plainAttrs_list PySem.F.slot_list_pop PySem.F.type_list_pop mt_pop (c_FB (x_fld (pe_fld (x_varB (pv 0)) (by rfl))))))) T.K_Round T.me_Round_work ih.i_Round_work hc hq T.b_Round_work pass0 (xa_cons (pa_cons (x_var (pv 0)) (xa_nil pa_nil)))) tab_nil))))))))) (s_nil pss_nil))))) (s_seq (pss_cons (s_ret (ps_ret (c_FE (x_tup (pe_tup (xa_cons (pa_cons (x_fld (pe_fld (x_varB (pv 0)) (by rfl))) (xa_cons (pa_cons (c_EF (x_if (pe_ifExp (x_test2 (pt_cmpR op_isA (c_FB (x_fld (pe_fld (x_varB (pv 0)) (by rfl)))) (c_FB (x_c pe_non fun _ _ => .non)) rfl) p_is) (c_FE (x_tup (pe_tup (xa_cons (pa_cons (x_c pe_str fun _ _ => .str _) (xa_cons (pa_cons (c_EF (x_ix (pe_ix ix_seq (c_FB (x_fld (pe_fld (x_varB (pv 0)) (by rfl)))) (c_FB (x_c pe_int fun _ _ => .int _)) (fun _ _ => rfl)))) (xa_nil pa_nil)))))))) (c_FE (x_fld (pe_fld (x_varB (pv 0)) (by rfl))))))) (xa_nil pa_nil)))))))))) (s_nil pss_nil)))))
theorem ok_run (T : Top w K mg) {k : Nat} (ih : Oks P w base T k) : GOk P w K mg base CX0 (lv k + 1 + 1) T.a_run T.d_run ["program", "m", "f", "numbers"] (spD K W0 4 (sem (k + 1) f_run)) := by
  rw [e_run]
  refine g_fn (N := ["program", "m", "f", "numbers", "found", "params", "body"]) (ps := ["program", "m", "f", "numbers"]) (g := m_run (sem k)) T.F_run sc_run (fun cdv A outer s H EX hr hq => ?_)
  have hc := hr.mono (Nat.le_succ _)
  exact (s_seq (pss_cons (s_set (ps_set (i := 4) sc_run.nd rfl (by first | exact Or.inl rfl | exact Or.inr rfl) (c_FE (c_EF (x_make rfl T.K_Run (g_make T.mk_Run ih.i_Run___init__ hr hq (by rfl) T.g_Run T.b_Run___init__ pass0 (xa_cons (pa_cons (x_var (pv 0)) (xa_nil pa_nil))))))))) (s_seq (pss_cons (s_asg (ps_asg (c_EF (x_dget (pe_dget (hu_of hr) (c_FB (x_fld (pe_fld (x_varB (pv 4)) (by rfl)))) (c_FB (x_tup (pe_tup (xa_cons (pa_cons (x_var (pv 1)) (xa_cons (pa_cons (x_var (pv 2)) (xa_nil pa_nil)))))))) (fun _ _ => rfl)))) (x_gtup (is := [5, 6]) rfl (pg_tup rfl (pgs_cons (pg_name (i := 5) sc_run.nd rfl (by first | exact Or.inl rfl | exact Or.inr rfl)) (pgs_cons (pg_name (i := 6) sc_run.nd rfl (by first | exact Or.inl rfl | exact Or.inr rfl)) pgs_nil)))))) (s_seq (pss_cons (s_expr (ps_expr (x_methC rfl ⟨"Run", _, rfl⟩ (tab_cons (g_meth (x_varB (pv 4)) T.K_Run T.me_Run_later ih.i_Run_later hc hq T.b_Run_later pass0 (xa_cons (pa_cons (x_c pe_non fun _ _ => .non) (xa_cons (pa_cons (x_tup (pe_tup (xa_cons (pa_cons (x_var (pv 6)) (xa_nil pa_nil))))) (xa_cons (pa_cons (x_dictZ (pe_dictzip (xa_cons (pa_cons (x_var (pv 5)) (xa_cons (pa_cons (x_var (pv 3)) (xa_nil pa_nil))))) rfl (by rfl) T.z_dict (by rfl) T.z_zip)) (xa_nil pa_nil)))))))) tab_nil)))) (s_seq (pss_cons (s_ret (ps_ret (x_methC0 rfl ⟨"Run", _, rfl⟩ (tab_cons (g_meth0 (x_varB (pv 4)) T.K_Run T.me_Run_ended ih.i_Run_ended hc hq T.b_Run_ended pass0) tab_nil)))) (s_nil pss_nil)))))))))
theorem ok__law_cell (T : Top w K mg) {k : Nat} (ih : Oks P w base T k) : GOk P w K mg base CX0 (lv k + 1 + 1) T.a__law_cell T.d__law_cell ["_law_cells", "_law_spot"] (spD K W0 2 (sem (k + 1) f__law_cell)) := by
  rw [e__law_cell]
  refine g_fn (N := ["_law_cells", "_law_spot", "_law_k", "_law_base", "_law_own", "_law_turn"]) (ps := ["_law_cells", "_law_spot"]) (g := m__law_cell (sem k)) T.F__law_cell sc__law_cell (fun cdv A outer s H EX hr hq => ?_)
  have hc := hr.mono (Nat.le_succ _)
  exact (s_seq (pss_cons (s_putR (ps_asg (c_EF (x_op2 (pe_op op_addA (c_EB (x_ix (pe_ix ix_seq (x_varB (pv 1)) (c_FB (x_c pe_int fun _ _ => .int _)) (fun _ _ => rfl)))) (c_FB (x_c pe_int fun _ _ => .int _))) p_add)) (pg_sub (x_varB (pv 1)) (c_FB (x_c pe_int fun _ _ => .int _)) set_list))) (s_seq (pss_cons (s_set (ps_set (i := 2) sc__law_cell.nd rfl (by first | exact Or.inl rfl | exact Or.inr rfl) (c_FE (c_EF (x_ix (pe_ix ix_seq (x_varB (pv 1)) (c_FB (x_c pe_int fun _ _ => .int _)) (fun _ _ => rfl))))))) (s_seq (pss_cons (s_set (ps_set (i := 3) sc__law_cell.nd rfl (by first | exact Or.inl rfl | exact Or.inr rfl) (c_FE (c_EF (x_op2 (pe_op op_addA (c_EB (x_op2 (pe_op op_mulA (c_EB (x_op2 (pe_op op_mulA (c_FB (x_c pe_int fun _ _ => .int _)) (x_varB (pv 2))) p_mul)) (x_varB (pv 2))) p_mul)) (c_EB (x_op2 (pe_op op_mulA (c_FB (x_c pe_int fun _ _ => .int _)) (x_varB (pv 2))) p_mul))) p_add))))) (s_seq (pss_cons (s_if (ps_if (PW.pt (x_and (pw_and (x_test2 (pt_cmpR op_gt (c_EB (x_prim (pe_callB call_lenA (by rfl) T.z_len bt_len (xr_cons (pa_cons (x_varB (pv 0)) (xr_nil pa_nil)))) p_len)) (c_FB (x_c pe_int fun _ _ => .int _)) rfl) (p_cmp fun i j => decide (j < i))) (x_and (pw_and (x_test2 (pt_cmpR op_ge (c_EB (x_ix (pe_ix ix_seq (x_varB (pv 0)) (c_EB (x_op2 (pe_op op_modA (x_varB (pv 2)) (c_EB (x_prim (pe_callB call_lenA (by rfl) T.z_len bt_len (xr_cons (pa_cons (x_varB (pv 0)) (xr_nil pa_nil)))) p_len))) p_mod)) (fun _ _ => rfl)))) (c_EB (x_op2 (pe_op op_pow (c_FB (x_c pe_int fun _ _ => .int _)) (c_FB (x_c pe_int fun _ _ => .int _))) p_pow)) rfl) (p_cmp fun i j => decide (j ≤ i))) (pw_and1 (x_test2 (pt_cmpR op_lt (c_EB (x_op2 (pe_op op_fdivA (x_varB (pv 2)) (c_EB (x_prim (pe_callB call_lenA (by rfl) T.z_len bt_len (xr_cons (pa_cons (x_varB (pv 0)) (xr_nil pa_nil)))) p_len))) p_fdiv)) (c_FB (x_c pe_int fun _ _ => .int _)) rfl) (p_cmp fun i j => decide (i < j))))))))) (s_seq (pss_cons (s_set (ps_set (i := 4) sc__law_cell.nd rfl (by first | exact Or.inl rfl | exact Or.inr rfl) (c_FE (c_EF (x_ix (pe_ix ix_seq (x_varB (pv 0)) (c_EB (x_op2 (pe_op op_modA (x_varB (pv 2)) (c_EB (x_prim (pe_callB call_lenA (by rfl) T.z_len bt_len (xr_cons (pa_cons (x_varB (pv 0)) (xr_nil pa_nil)))) p_len))) p_mod)) (fun _ _ => rfl))))))) (s_seq (pss_cons (s_for (ps_for PassesOwn.never rfl (x_rng1 (pi_range1 (by rfl) T.z_range (xr_cons (pa_cons (c_EB (x_op2 (pe_op op_fdivA (x_varB (pv 2)) (c_EB (x_prim (pe_callB call_lenA (by rfl) T.z_len bt_len (xr_cons (pa_cons (x_varB (pv 0)) (xr_nil pa_nil)))) p_len))) p_fdiv)) (xr_nil pa_nil))))) (x_gname (pg_name (i := 5) sc__law_cell.nd rfl (by first | exact Or.inl rfl | exact Or.inr rfl))) (s_seq (pss_cons (s_set (ps_set (i := 4) sc__law_cell.nd rfl (by first | exact Or.inl rfl | exact Or.inr rfl) (c_FE (c_EF (x_op2 (pe_op op_fdivA (x_varB (pv 4)) (c_FB (x_c pe_int fun _ _ => .int _))) p_fdiv))))) (s_nil pss_nil))))) (s_seq (pss_cons (s_if (ps_if (x_test2 (pt_cmpR op_gt (x_varB (pv 4)) (c_FB (x_c pe_int fun _ _ => .int _)) rfl) (p_cmp fun i j => decide (j < i))) (s_seq (pss_cons (s_ret (ps_ret (x_op2 (pe_op op_modA (x_varB (pv 4)) (c_FB (x_c pe_int fun _ _ => .int _))) p_mod))) (s_nil pss_nil))) (s_nil pss_nil))) (s_nil pss_nil))))))) (s_nil pss_nil))) (s_seq (pss_cons (s_if (ps_if (x_test2 (pt_cmpR op_gt (c_EB (x_prim (pe_callB call_lenA (by rfl) T.z_len bt_len (xr_cons (pa_cons (x_varB (pv 0)) (xr_nil pa_nil)))) p_len)) (c_FB (x_c pe_int fun _ _ => .int _)) rfl) (p_cmp fun i j => decide (j < i))) (s_seq (pss_cons (s_set (ps_set (i := 3) sc__law_cell.nd rfl (by first | exact Or.inl rfl | exact Or.inr rfl) (c_FE (c_EF (x_op2 (pe_op op_addA (x_varB (pv 3)) (c_EB (x_op2 (pe_op op_mulA (c_EB (x_op2 (pe_op op_modA (c_EB (x_ix (pe_ix ix_seq (x_varB (pv 0)) (c_EB (x_op2 (pe_op op_modA (x_varB (pv 2)) (c_EB (x_prim (pe_callB call_lenA (by rfl) T.z_len bt_len (xr_cons (pa_cons (x_varB (pv 0)) (xr_nil pa_nil)))) p_len))) p_mod)) (fun _ _ => rfl)))) (c_FB (x_c pe_int fun _ _ => .int _))) p_mod)) (c_EB (x_op2 (pe_op op_addA (c_FB (x_c pe_int fun _ _ => .int _)) (c_EB (x_op2 (pe_op op_fdivA (x_varB (pv 2)) (c_EB (x_prim (pe_callB call_lenA (by rfl) T.z_len bt_len (xr_cons (pa_cons (x_varB (pv 0)) (xr_nil pa_nil)))) p_len))) p_fdiv))) p_add))) p_mul))) p_add))))) (s_nil pss_nil))) (s_nil pss_nil))) (s_seq (pss_cons (s_ret (ps_ret (x_op2 (pe_op op_fdivA (c_EB (x_op2 (pe_op op_modA (c_EB (x_op2 (pe_op op_mulA (c_EB (x_op2 (pe_op op_modA (c_EB (x_op2 (pe_op op_mulA (x_varB (pv 3)) (c_FB (x_c pe_int fun _ _ => .int _))) p_mul)) (c_FB (x_c pe_int fun _ _ => .int _))) p_mod)) (c_FB (x_c pe_int fun _ _ => .int _))) p_mul)) (c_FB (x_c pe_int fun _ _ => .int _))) p_mod)) (c_FB (x_c pe_int fun _ _ => .int _))) p_fdiv))) (s_nil pss_nil)))))))))))))
theorem ok__law_deep (T : Top w K mg) {k : Nat} (ih : Oks P w base T k) : GOk P w K mg base CX0 (lv k + 1 + 1) T.a__law_deep T.d__law_deep ["_law_n", "_law_inner", "_law_high", "_law_told"] (spD K W0 4 (sem (k + 1) f__law_deep)) := by
  rw [e__law_deep]
  refine g_fn (N := ["_law_n", "_law_inner", "_law_high", "_law_told", "_law_k", "_law_number"]) (ps := ["_law_n", "_law_inner", "_law_high", "_law_told"]) (g := m__law_deep (sem k)) T.F__law_deep sc__law_deep (fun cdv A outer s H EX hr hq => ?_)
  have hc := hr.mono (Nat.le_succ _)
  exact (s_seq (pss_cons (s_for (ps_for PassesOwn.never rfl (x_rng1 (pi_range1 (by rfl) T.z_range (xr_cons (pa_cons (x_varB (pv 2)) (xr_nil pa_nil))))) (x_gname (pg_name (i := 4) sc__law_deep.nd rfl (by first | exact Or.inl rfl | exact Or.inr rfl))) (s_seq (pss_cons (s_set (ps_set (i := 5) sc__law_deep.nd rfl (by first | exact Or.inl rfl | exact Or.inr rfl) (c_FE (x_tup (pe_tup (xa_cons (pa_cons (x_c pe_str fun _ _ => .str _) (xa_cons (pa_cons (c_EF (x_op2 (pe_op op_addA (c_FB (x_c pe_int fun _ _ => .int _)) (c_EB (x_op2 (pe_op op_modA (c_EB (x_op2 (pe_op op_addA (x_varB (pv 0)) (x_varB (pv 4))) p_add)) (c_FB (x_c pe_int fun _ _ => .int _))) p_mod))) p_add)) (xa_nil pa_nil)))))))))) (s_seq (pss_cons (s_if (ps_if (x_test2 (pt_cmpR (op_eqW (un_of hr)) (c_EB (x_op2 (pe_op op_modA (c_EB (x_op2 (pe_op op_addA (c_EB (x_op2 (pe_op op_fdivA (x_varB (pv 0)) (c_FB (x_c pe_int fun _ _ => .int _))) p_fdiv)) (x_varB (pv 4))) p_add)) (c_FB (x_c pe_int fun _ _ => .int _))) p_mod)) (c_FB (x_c pe_int fun _ _ => .int _)) rfl) p_eq) (s_seq (pss_cons (s_set (ps_set (i := 5) sc__law_deep.nd rfl (by first | exact Or.inl rfl | exact Or.inr rfl) (c_FE (x_tup (pe_tup (xa_cons (pa_cons (x_c pe_str fun _ _ => .str _) (xa_cons (pa_cons (x_tup (pe_tup (xa_cons (pa_cons (x_c pe_str fun _ _ => .str _) (xa_cons (pa_cons (x_var (pv 4)) (xa_nil pa_nil))))))) (xa_cons (pa_cons (x_var (pv 5)) (xa_nil pa_nil)))))))))))) (s_seq (pss_cons (s_insR (ps_expr (pe_bm PySem.F.plainAttrs_list PySem.F.slot_list_insert PySem.F.type_list_insert mt_insert (x_varB (pv 3)) (pa_cons pe_int (pa_cons (x_var (pv 4)) pa_nil))))) (s_nil pss_nil))))) (s_nil pss_nil))) (s_seq (pss_cons (s_set (ps_set (i := 1) sc__law_deep.nd rfl (by first | exact Or.inl rfl | exact Or.inr rfl) (c_FE (x_tup (pe_tup (xa_cons (pa_cons (x_c pe_str fun _ _ => .str _) (xa_cons (pa_cons (x_c pe_str fun _ _ => .str _) (xa_cons (pa_cons (x_var (pv 5)) (xa_cons (pa_cons (x_var (pv 1)) (xa_nil pa_nil)))))))))))))) (s_nil pss_nil))))))))) (s_seq (pss_cons (s_retV (ps_ret (pv 1))) (s_nil pss_nil)))))
theorem ok__law_functions (T : Top w K mg) {k : Nat} (ih : Oks P w base T k) : GOk P w K mg base CX0 (lv k + 1 + 1) T.a__law_functions T.d__law_functions ["_law_cells", "_law_spot", "_law_most"] (spD K W0 3 (sem (k + 1) f__law_functions)) := by
  rw [e__law_functions]
  refine g_fn (N := ["_law_cells", "_law_spot", "_law_most", "_law_table", "_law_modules", "_law_m", "_law_rows", "_law_f", "_law_n", "_law_row", "_law_inner", "_law_keys", "_law_body", "_law_more", "_law_high", "_law_told", "_law_key", "_law_is_turned", "_law_args", "_law_some", "_law_one", "_law_other", "_law_k"]) (ps := ["_law_cells", "_law_spot", "_law_most"]) (g := m__law_functions (sem k)) T.F__law_functions sc__law_functions (fun cdv A outer s H EX hr hq => ?_)
  have hc := hr.mono (Nat.le_succ _)
  exact (s_seq (pss_cons (s_set (ps_set (i := 3) sc__law_functions.nd rfl (by first | exact Or.inl rfl | exact Or.inr rfl) (c_FE (x_dnewT pe_dnewT)))) (s_seq (pss_cons (s_set (ps_set (i := 4) sc__law_functions.nd rfl (by first | exact Or.inl rfl | exact Or.inr rfl) (x_lst (pe_lst (xa_nil pa_nil))))) (s_seq (pss_cons (s_for (ps_for PassesOwn.never rfl (x_it (PI.or (pi_list (c_EF (x_lst (pe_lst (xa_cons (pa_cons (x_c pe_str fun _ _ => .str _) (xa_cons (pa_cons (x_c pe_str fun _ _ => .str _) (xa_cons (pa_cons (x_c pe_str fun _ _ => .str _) (xa_cons (pa_cons (x_c pe_str fun _ _ => .str _) (xa_cons (pa_cons (x_c pe_str fun _ _ => .str _) (xa_cons (pa_cons (x_c pe_str fun _ _ => .str _) (xa_cons (pa_cons (x_c pe_str fun _ _ => .str _) (xa_cons (pa_cons (x_c pe_str fun _ _ => .str _) (xa_nil pa_nil))))))))))))))))))))) (PI.or (pi_tup (c_EF (x_lst (pe_lst (xa_cons (pa_cons (x_c pe_str fun _ _ => .str _) (xa_cons (pa_cons (x_c pe_str fun _ _ => .str _) (xa_cons (pa_cons (x_c pe_str fun _ _ => .str _) (xa_cons (pa_cons (x_c pe_str fun _ _ => .str _) (xa_cons (pa_cons (x_c pe_str fun _ _ => .str _) (xa_cons (pa_cons (x_c pe_str fun _ _ => .str _) (xa_cons (pa_cons (x_c pe_str fun _ _ => .str _) (xa_cons (pa_cons (x_c pe_str fun _ _ => .str _) (xa_nil pa_nil))))))))))))))))))))) (pi_str (c_EF (x_lst (pe_lst (xa_cons (pa_cons (x_c pe_str fun _ _ => .str _) (xa_cons (pa_cons (x_c pe_str fun _ _ => .str _) (xa_cons (pa_cons (x_c pe_str fun _ _ => .str _) (xa_cons (pa_cons (x_c pe_str fun _ _ => .str _) (xa_cons (pa_cons (x_c pe_str fun _ _ => .str _) (xa_cons (pa_cons (x_c pe_str fun _ _ => .str _) (xa_cons (pa_cons (x_c pe_str fun _ _ => .str _) (xa_cons (pa_cons (x_c pe_str fun _ _ => .str _) (xa_nil pa_nil)))))))))))))))))))))))) (x_gname (pg_name (i := 5) sc__law_functions.nd rfl (by first | exact Or.inl rfl | exact Or.inr rfl))) (s_seq (pss_cons (s_set (ps_set (i := 6) sc__law_functions.nd rfl (by first | exact Or.inl rfl | exact Or.inr rfl) (x_lst (pe_lst (xa_nil pa_nil))))) (s_seq (pss_cons (s_for (ps_for PassesOwn.never rfl (x_it (PI.or (pi_list (c_EF (x_sl (pe_slice sl_A3 (c_FB (x_c pe_str fun _ _ => .str _)) x_no (x_so (c_EB (x_op2 (pe_op op_addA (c_FB (x_c pe_int fun _ _ => .int _)) (c_EB (x_op2 (pe_op op_modA (c_EB (x_call rfl (g_call ih.i__law_cell hc hq (by rfl) T.m__law_cell T.F__law_cell.kp T.b__law_cell pass0 (xa_cons (pa_cons (x_var (pv 0)) (xa_cons (pa_cons (x_var (pv 1)) (xa_nil pa_nil)))))))) (x_varB (pv 2))) p_mod))) p_add)))) p_sl))) (PI.or (pi_tup (c_EF (x_sl (pe_slice sl_A3 (c_FB (x_c pe_str fun _ _ => .str _)) x_no (x_so (c_EB (x_op2 (pe_op op_addA (c_FB (x_c pe_int fun _ _ => .int _)) (c_EB (x_op2 (pe_op op_modA (c_EB (x_call rfl (g_call ih.i__law_cell hc hq (by rfl) T.m__law_cell T.F__law_cell.kp T.b__law_cell pass0 (xa_cons (pa_cons (x_var (pv 0)) (xa_cons (pa_cons (x_var (pv 1)) (xa_nil pa_nil)))))))) (x_varB (pv 2))) p_mod))) p_add)))) p_sl))) (pi_str (c_EF (x_sl (pe_slice sl_A3 (c_FB (x_c pe_str fun _ _ => .str _)) x_no (x_so (c_EB (x_op2 (pe_op op_addA (c_FB (x_c pe_int fun _ _ => .int _)) (c_EB (x_op2 (pe_op op_modA (c_EB (x_call rfl (g_call ih.i__law_cell hc hq (by rfl) T.m__law_cell T.F__law_cell.kp T.b__law_cell pass0 (xa_cons (pa_cons (x_var (pv 0)) (xa_cons (pa_cons (x_var (pv 1)) (xa_nil pa_nil)))))))) (x_varB (pv 2))) p_mod))) p_add)))) p_sl)))))) (x_gname (pg_name (i := 7) sc__law_functions.nd rfl (by first | exact Or.inl rfl | exact Or.inr rfl))) (s_seq (pss_cons (s_set (ps_set (i := 8) sc__law_functions.nd rfl (by first | exact Or.inl rfl | exact Or.inr rfl) (c_FE (c_EF (x_call rfl (g_call ih.i__law_cell hc hq (by rfl) T.m__law_cell T.F__law_cell.kp T.b__law_cell pass0 (xa_cons (pa_cons (x_var (pv 0)) (xa_cons (pa_cons (x_var (pv 1)) (xa_nil pa_nil))))))))))) (s_seq (pss_cons (s_par (ps_par (i := 14) (j := 15) rfl sc__law_functions.nd rfl rfl (by decide) rfl rfl (xa_cons (pa_cons (c_EF (x_op2 (pe_op op_modA (x_varB (pv 8)) (c_FB (x_c pe_int fun _ _ => .int _))) p_mod)) (xa_cons (pa_cons (c_EF (x_ref (x_lst (pe_lst (xa_nil pa_nil))))) (xa_nil pa_nil))))) rfl)) (s_seq (pss_cons (s_set (ps_set (i := 9) sc__law_functions.nd rfl (by first | exact Or.inl rfl | exact Or.inr rfl) (c_FE (x_tup (pe_tup (xa_cons (pa_cons (c_EF (x_lst (pe_lst (xa_nil pa_nil)))) (xa_cons (pa_cons (x_c pe_int fun _ _ => .int _) (xa_cons (pa_cons (x_c pe_int fun _ _ => .int _) (xa_cons (pa_cons (x_c pe_int fun _ _ => .int _) (xa_nil pa_nil)))))))))))))) (s_seq (pss_cons (s_set (ps_set (i := 10) sc__law_functions.nd rfl (by first | exact Or.inl rfl | exact Or.inr rfl) (c_FE (x_tup (pe_tup (xa_cons (pa_cons (x_c pe_str fun _ _ => .str _) (xa_cons (pa_cons (x_c pe_str fun _ _ => .str _) (xa_nil pa_nil)))))))))) (s_seq (pss_cons (s_set (ps_set (i := 11) sc__law_functions.nd rfl (by first | exact Or.inl rfl | exact Or.inr rfl) (c_FE (c_EF (x_prim (pe_callTy (call_list_of.or (call_list_dT rfl)) (by rfl) T.z_list bt_list (xr_cons (pa_cons (x_varB (pv 3)) (xr_nil pa_nil)))) p_listT))))) (s_seq (pss_cons (s_if (ps_if (PW.pt (x_and (pw_and (x_test2 (pt_cmpR (op_neW (un_of hr)) (x_varB (pv 11)) (c_EB (x_lst (pe_lst (xa_nil pa_nil)))) rfl) p_ne) (pw_and1 (x_test2 (pt_cmpR op_gt (c_EB (x_op2 (pe_op op_modA (c_EB (x_op2 (pe_op op_fdivA (x_varB (pv 8)) (c_FB (x_c pe_int fun _ _ => .int _))) p_fdiv)) (c_FB (x_c pe_int fun _ _ => .int _))) p_mod)) (c_FB (x_c pe_int fun _ _ => .int _)) rfl) (p_cmp fun i j => decide (j < i))))))) (s_seq (pss_cons (s_set (ps_set (i := 16) sc__law_functions.nd rfl (by first | exact Or.inl rfl | exact Or.inr rfl) (c_FE (c_EF (x_ix (pe_ix ix_seq (x_varB (pv 11)) (c_EB (x_prim (pe_callB (call_max2 rfl) (by rfl) T.z_max bt_max (xr_cons (pa_cons (c_FB (x_c pe_int fun _ _ => .int _)) (xr_cons (pa_cons (c_EB (x_op2 (pe_op op_sub (c_EB (x_op2 (pe_op op_sub (c_EB (x_prim (pe_callB call_lenA (by rfl) T.z_len bt_len (xr_cons (pa_cons (x_varB (pv 11)) (xr_nil pa_nil)))) p_len)) (c_FB (x_c pe_int fun _ _ => .int _))) p_sub)) (c_EB (x_op2 (pe_op op_modA (c_EB (x_op2 (pe_op op_fdivA (x_varB (pv 8)) (c_FB (x_c pe_int fun _ _ => .int _))) p_fdiv)) (c_FB (x_c pe_int fun _ _ => .int _))) p_mod))) p_sub)) (xr_nil pa_nil)))))) p_max2)) (fun _ _ => rfl))))))) (s_seq (pss_cons (s_asg (ps_asg (c_EF (x_dget (pe_dget (hu_of hr) (x_varB (pv 3)) (x_varB (pv 16)) (fun _ _ => rfl)))) (x_gtup (is := [19, 20, 21, 13]) rfl (pg_tup rfl (pgs_cons (pg_name (i := 19) sc__law_functions.nd rfl (by first | exact Or.inl rfl | exact Or.inr rfl)) (pgs_cons (pg_name (i := 20) sc__law_functions.nd rfl (by first | exact Or.inl rfl | exact Or.inr rfl)) (pgs_cons (pg_name (i := 21) sc__law_functions.nd rfl (by first | exact Or.inl rfl | exact Or.inr rfl)) (pgs_cons (pg_name (i := 13) sc__law_functions.nd rfl (by first | exact Or.inl rfl | exact Or.inr rfl)) pgs_nil)))))))) (s_seq (pss_cons (s_set (ps_set (i := 17) sc__law_functions.nd rfl (by first | exact Or.inl rfl | exact Or.inr rfl) (c_FE (c_EF (x_op2 (pe_cmpR (op_eqW (un_of hr)) (c_EB (x_op2 (pe_op op_modA (c_EB (x_op2 (pe_op op_fdivA (x_varB (pv 8)) (c_FB (x_c pe_int fun _ _ => .int _))) p_fdiv)) (c_FB (x_c pe_int fun _ _ => .int _))) p_mod)) (c_FB (x_c pe_int fun _ _ => .int _)) rfl) p_eq))))) (s_seq (pss_cons (s_set (ps_set (i := 18) sc__law_functions.nd rfl (by first | exact Or.inl rfl | exact Or.inr rfl) (c_FE (c_EF (x_stepT (pe_stepT (c_FB (x_tup (pe_tup (xa_cons (pa_cons (x_tup (pe_tup (xa_cons (pa_cons (x_c pe_str fun _ _ => .str _) (xa_cons (pa_cons (x_c pe_str fun _ _ => .str _) (xa_nil pa_nil))))))) (xa_cons (pa_cons (x_tup (pe_tup (xa_cons (pa_cons (x_c pe_str fun _ _ => .str _) (xa_cons (pa_cons (x_c pe_str fun _ _ => .str _) (xa_nil pa_nil))))))) (xa_nil pa_nil)))))))) (c_EB (x_op2 (pe_op op_sub (c_FB (x_c pe_int fun _ _ => .int _)) (c_EB (x_op2 (pe_op op_mulA (c_FB (x_c pe_int fun _ _ => .int _)) (c_EB (x_prim (pe_callTy call_int1 (by rfl) T.z_int bt_int (xr_cons (pa_cons (x_varB (pv 17)) (xr_nil pa_nil)))) p_int))) p_mul))) p_sub)))))))) (s_seq (pss_cons (s_set (ps_set (i := 10) sc__law_functions.nd rfl (by first | exact Or.inl rfl | exact Or.inr rfl) (c_FE (x_tup (pe_tup (xa_cons (pa_cons (x_c pe_str fun _ _ => .str _) (xa_cons (pa_cons (c_EF (x_ix (pe_ix ix_seq (x_varB (pv 16)) (c_FB (x_c pe_int fun _ _ => .int _)) (fun _ _ => rfl)))) (xa_cons (pa_cons (c_EF (x_ix (pe_ix ix_seq (x_varB (pv 16)) (c_FB (x_c pe_int fun _ _ => .int _)) (fun _ _ => rfl)))) (xa_cons (pa_cons (x_var (pv 18)) (xa_nil pa_nil)))))))))))))) (s_seq (pss_cons (s_set (ps_set (i := 9) sc__law_functions.nd rfl (by first | exact Or.inl rfl | exact Or.inr rfl) (c_FE (x_tup (pe_tup (xa_cons (pa_cons (x_var (pv 19)) (xa_cons (pa_cons (c_EF (x_if (pe_ifExp (x_truth (pt_truth (x_varB (pv 17)) (fun _ => rfl))) (c_FE (x_var (pv 21))) (c_FE (x_var (pv 20)))))) (xa_cons (pa_cons (c_EF (x_if (pe_ifExp (x_truth (pt_truth (x_varB (pv 17)) (fun _ => rfl))) (c_FE (x_var (pv 20))) (c_FE (x_var (pv 21)))))) (xa_cons (pa_cons (x_var (pv 13)) (xa_nil pa_nil)))))))))))))) (s_nil pss_nil))))))))))))) (s_nil pss_nil))) (s_seq (pss_cons (s_set (ps_set (i := 12) sc__law_functions.nd rfl (by first | exact Or.inl rfl | exact Or.inr rfl) (c_FE (c_EF (x_call rfl (g_call ih.i__law_deep hc hq (by rfl) T.m__law_deep T.F__law_deep.kp T.b__law_deep pass0 (xa_cons (pa_cons (c_EF (x_op2 (pe_op op_fdivA (x_varB (pv 8)) (c_FB (x_c pe_int fun _ _ => .int _))) p_fdiv)) (xa_cons (pa_cons (x_var (pv 10)) (xa_cons (pa_cons (x_var (pv 14)) (xa_cons (pa_cons (x_var (pv 15)) (xa_nil pa_nil))))))))))))))) (s_seq (pss_cons (s_set (ps_set (i := 13) sc__law_functions.nd rfl (by first | exact Or.inl rfl | exact Or.inr rfl) (c_FE (c_EF (x_prim (pe_callB (cr_sum rfl) (by rfl) T.z_sum bt_sum (xr_cons (pa_cons (c_EB (x_lc (by decide) (pe_lc (own := [("_law_k", 22)]) rfl sc__law_functions.nd (x_rng1 (pi_range1 (by rfl) T.z_range (xr_cons (pa_cons (x_varB (pv 14)) (xr_nil pa_nil))))) (blkOk_by (N := ["_law_cells", "_law_spot", "_law_most", "_law_table", "_law_modules", "_law_m", "_law_rows", "_law_f", "_law_n", "_law_row", "_law_inner", "_law_keys", "_law_body", "_law_more", "_law_high", "_law_told", "_law_key", "_law_is_turned", "_law_args", "_law_some", "_law_one", "_law_other", "_law_k"]) (sc := defScope s__law_functions) (by decide +kernel)) (fun _ _ _ _ _ => (x_gname (pg_name (i := 22) sc__law_functions.nd rfl (by first | exact Or.inl rfl | exact Or.inr rfl)))) (fun _ _ _ _ _ => x_yes) (fun _ _ _ _ _ => (c_EF (x_op2 (pe_op op_addA (c_FB (x_c pe_int fun _ _ => .int _)) (c_EB (x_op2 (pe_op op_modA (c_EB (x_op2 (pe_op op_addA (c_EB (x_op2 (pe_op op_fdivA (x_varB (pv 8)) (c_FB (x_c pe_int fun _ _ => .int _))) p_fdiv)) (x_varB (pv 22))) p_add)) (c_FB (x_c pe_int fun _ _ => .int _))) p_mod))) p_add)))))) (xr_nil pa_nil)))) p_sum))))) (s_seq (pss_cons (s_putD (ps_dput (hu_of hr) (x_varB (pv 3)) (c_FB (x_tup (pe_tup (xa_cons (pa_cons (x_var (pv 5)) (xa_cons (pa_cons (x_var (pv 7)) (xa_nil pa_nil)))))))) (x_tup (pe_tup (xa_cons (pa_cons (c_EF (x_op2 (pe_op op_addA (x_varB (pv 15)) (c_EB (x_ix (pe_ix ix_seq (x_varB (pv 9)) (c_FB (x_c pe_int fun _ _ => .int _)) (fun _ _ => rfl))))) p_add)) (xa_cons (pa_cons (c_EF (x_ix (pe_ix ix_seq (x_varB (pv 9)) (c_FB (x_c pe_int fun _ _ => .int _)) (fun _ _ => rfl)))) (xa_cons (pa_cons (c_EF (x_ix (pe_ix ix_seq (x_varB (pv 9)) (c_FB (x_c pe_int fun _ _ => .int _)) (fun _ _ => rfl)))) (xa_cons (pa_cons (c_EF (x_op2 (pe_op op_addA (c_EB (x_ix (pe_ix ix_seq (x_varB (pv 9)) (c_FB (x_c pe_int fun _ _ => .int _)) (fun _ _ => rfl)))) (x_varB (pv 13))) p_add)) (xa_nil pa_nil))))))))))) rfl)) (s_seq (pss_cons (s_app (ps_expr (pe_bm PySem.F.plainAttrs_list PySem.F.slot_list_append PySem.F.type_list_append mt_append (pv 6) (pa_cons (x_tup (pe_tup (xa_cons (pa_cons (x_var (pv 7)) (xa_cons (pa_cons (x_tup (pe_tup (xa_cons (pa_cons (x_c pe_str fun _ _ => .str _) (xa_cons (pa_cons (x_c pe_str fun _ _ => .str _) (xa_nil pa_nil))))))) (xa_cons (pa_cons (x_var (pv 12)) (xa_nil pa_nil))))))))) pa_nil)))) (s_nil pss_nil))))))))))))))))))))))) (s_seq (pss_cons (s_app (ps_expr (pe_bm PySem.F.plainAttrs_list PySem.F.slot_list_append PySem.F.type_list_append mt_append (pv 4) (pa_cons (x_tup (pe_tup (xa_cons (pa_cons (x_var (pv 5)) (xa_cons (pa_cons (c_EF (x_prim (pe_callTy call_tuple_of (by rfl) T.z_tuple bt_tuple (xr_cons (pa_cons (x_varB (pv 6)) (xr_nil pa_nil)))) p_tuple)) (xa_nil pa_nil))))))) pa_nil)))) (s_nil pss_nil))))))))) (s_seq (pss_cons (s_ret (ps_ret (c_FE (x_tup (pe_tup (xa_cons (pa_cons (c_EF (x_prim (pe_callTy call_tuple_of (by rfl) T.z_tuple bt_tuple (xr_cons (pa_cons (x_varB (pv 4)) (xr_nil pa_nil)))) p_tuple)) (xa_cons (pa_cons (x_var (pv 3)) (xa_nil pa_nil)))))))))) (s_nil pss_nil)))))))))
theorem ok_law (T : Top w K mg) {k : Nat} (ih : Oks P w base T k) : GOk P w K mg base CX0 (lv k + 1 + 1) T.a_law T.d_law ["_law_script"] (spD K W0 1 (sem (k + 1) f_law)) := by
  rw [e_law]
  refine g_fn (N := ["_law_script", "_law_spot", "_law_k", "_law_keys", "_law_some", "_law_program", "_law_table", "_law_m", "_law_f", "_law_found", "_law_x", "_law_y", "_law_told", "_law_one", "_law_other", "_law_more", "_law_turn"]) (ps := ["_law_script"]) (g := m_law (sem k)) T.F_law sc_law (fun cdv A outer s H EX hr hq => ?_)
  have hc := hr.mono (Nat.le_succ _)
  exact (s_seq (pss_cons (s_set (ps_set (i := 1) sc_law.nd rfl (by first | exact Or.inl rfl | exact Or.inr rfl) (c_FE (c_EF (x_ref (x_lst (pe_lst (xa_cons (pa_cons (x_c pe_int fun _ _ => .int _) (xa_nil pa_nil)))))))))) (s_seq (pss_cons (s_for (ps_for PassesOwn.never rfl (x_rng1 (pi_range1 (by rfl) T.z_range (xr_cons (pa_cons (c_EB (x_op2 (pe_op op_addA (c_FB (x_c pe_int fun _ _ => .int _)) (c_EB (x_prim (pe_callB (call_min2 rfl) (by rfl) T.z_min bt_min (xr_cons (pa_cons (c_FB (x_c pe_int fun _ _ => .int _)) (xr_cons (pa_cons (c_EB (x_prim (pe_callB call_lenA (by rfl) T.z_len bt_len (xr_cons (pa_cons (x_varB (pv 0)) (xr_nil pa_nil)))) p_len)) (xr_nil pa_nil)))))) p_min2))) p_add)) (xr_nil pa_nil))))) (x_gname (pg_name (i := 2) sc_law.nd rfl (by first | exact Or.inl rfl | exact Or.inr rfl))) (s_seq (pss_cons (s_asg (ps_asg (c_EF (x_call rfl (g_call ih.i__law_functions hc hq (by rfl) T.m__law_functions T.F__law_functions.kp T.b__law_functions pass0 (xa_cons (pa_cons (x_var (pv 0)) (xa_cons (pa_cons (x_var (pv 1)) (xa_cons (pa_cons (c_EF (x_ix (pe_ix ix_seq (c_EB (x_lst (pe_lst (xa_cons (pa_cons (x_c pe_int fun _ _ => .int _) (xa_cons (pa_cons (x_c pe_int fun _ _ => .int _) (xa_nil pa_nil)))))))) (c_EB (x_op2 (pe_op op_modA (x_varB (pv 2)) (c_FB (x_c pe_int fun _ _ => .int _))) p_mod)) (fun _ _ => rfl)))) (xa_nil pa_nil)))))))))) (x_gtup (is := [5, 6]) rfl (pg_tup rfl (pgs_cons (pg_name (i := 5) sc_law.nd rfl (by first | exact Or.inl rfl | exact Or.inr rfl)) (pgs_cons (pg_name (i := 6) sc_law.nd rfl (by first | exact Or.inl rfl | exact Or.inr rfl)) pgs_nil)))))) (s_seq (pss_cons (s_set (ps_set (i := 3) sc_law.nd rfl (by first | exact Or.inl rfl | exact Or.inr rfl) (c_FE (c_EF (x_prim (pe_callTy (call_list_of.or (call_list_dT rfl)) (by rfl) T.z_list bt_list (xr_cons (pa_cons (x_varB (pv 6)) (xr_nil pa_nil)))) p_listT))))) (s_seq (pss_cons (s_set (ps_set (i := 4) sc_law.nd rfl (by first | exact Or.inl rfl | exact Or.inr rfl) (c_FE (c_EF (x_op2 (pe_op op_addA (c_EB (x_sl (pe_slice sl_A3 (x_varB (pv 3)) (x_so (c_EB (x_op1 (pe_un un_neg (c_FB (x_c pe_int fun _ _ => .int _))) p_neg))) x_no) p_sl)) (c_EB (x_lc (by decide) (pe_lc (own := [("_law_turn", 16)]) rfl sc_law.nd (x_rng1 (pi_range1 (by rfl) T.z_range (xr_cons (pa_cons (c_FB (x_c pe_int fun _ _ => .int _)) (xr_nil pa_nil))))) (blkOk_by (N := ["_law_script", "_law_spot", "_law_k", "_law_keys", "_law_some", "_law_program", "_law_table", "_law_m", "_law_f", "_law_found", "_law_x", "_law_y", "_law_told", "_law_one", "_law_other", "_law_more", "_law_turn"]) (sc := defScope s_law) (by decide +kernel)) (fun _ _ _ _ _ => (x_gname (pg_name (i := 16) sc_law.nd rfl (by first | exact Or.inl rfl | exact Or.inr rfl)))) (fun _ _ _ _ _ => x_yes) (fun _ _ _ _ _ => (c_EF (x_ix (pe_ix ix_seq (x_varB (pv 3)) (c_EB (x_op2 (pe_op op_modA (c_EB (x_call rfl (g_call ih.i__law_cell hc hq (by rfl) T.m__law_cell T.F__law_cell.kp T.b__law_cell pass0 (xa_cons (pa_cons (x_var (pv 0)) (xa_cons (pa_cons (x_var (pv 1)) (xa_nil pa_nil)))))))) (c_EB (x_prim (pe_callB call_lenA (by rfl) T.z_len bt_len (xr_cons (pa_cons (x_varB (pv 3)) (xr_nil pa_nil)))) p_len))) p_mod)) (fun _ _ => rfl))))))))) p_add))))) (s_seq (pss_cons (s_for (ps_for PassesOwn.never rfl (x_it (PI.or (pi_list (x_var (pv 4))) (PI.or (pi_tup (x_var (pv 4))) (pi_str (x_var (pv 4)))))) (x_gtup (is := [7, 8]) rfl (pg_tup rfl (pgs_cons (pg_name (i := 7) sc_law.nd rfl (by first | exact Or.inl rfl | exact Or.inr rfl)) (pgs_cons (pg_name (i := 8) sc_law.nd rfl (by first | exact Or.inl rfl | exact Or.inr rfl)) pgs_nil)))) (s_seq (pss_cons (s_asg (ps_asg (c_EF (x_lc (by decide) (pe_lc (own := [("_law_turn", 16)]) rfl sc_law.nd (x_rng1 (pi_range1 (by rfl) T.z_range (xr_cons (pa_cons (c_FB (x_c pe_int fun _ _ => .int _)) (xr_nil pa_nil))))) (blkOk_by (N := ["_law_script", "_law_spot", "_law_k", "_law_keys", "_law_some", "_law_program", "_law_table", "_law_m", "_law_f", "_law_found", "_law_x", "_law_y", "_law_told", "_law_one", "_law_other", "_law_more", "_law_turn"]) (sc := defScope s_law) (by decide +kernel)) (fun _ _ _ _ _ => (x_gname (pg_name (i := 16) sc_law.nd rfl (by first | exact Or.inl rfl | exact Or.inr rfl)))) (fun _ _ _ _ _ => x_yes) (fun _ _ _ _ _ => (c_EF (x_op2 (pe_op op_sub (c_EB (x_op2 (pe_op op_modA (c_EB (x_call rfl (g_call ih.i__law_cell hc hq (by rfl) T.m__law_cell T.F__law_cell.kp T.b__law_cell pass0 (xa_cons (pa_cons (x_var (pv 0)) (xa_cons (pa_cons (x_var (pv 1)) (xa_nil pa_nil)))))))) (c_FB (x_c pe_int fun _ _ => .int _))) p_mod)) (c_FB (x_c pe_int fun _ _ => .int _))) p_sub)))))) (x_glst (is := [10, 11]) rfl (pg_lst rfl (pgs_cons (pg_name (i := 10) sc_law.nd rfl (by first | exact Or.inl rfl | exact Or.inr rfl)) (pgs_cons (pg_name (i := 11) sc_law.nd rfl (by first | exact Or.inl rfl | exact Or.inr rfl)) pgs_nil)))))) (s_seq (pss_cons (s_asg (ps_asg (c_EF (x_dget (pe_dget (hu_of hr) (x_varB (pv 6)) (c_FB (x_tup (pe_tup (xa_cons (pa_cons (x_var (pv 7)) (xa_cons (pa_cons (x_var (pv 8)) (xa_nil pa_nil)))))))) (fun _ _ => rfl)))) (x_gtup (is := [12, 13, 14, 15]) rfl (pg_tup rfl (pgs_cons (pg_name (i := 12) sc_law.nd rfl (by first | exact Or.inl rfl | exact Or.inr rfl)) (pgs_cons (pg_name (i := 13) sc_law.nd rfl (by first | exact Or.inl rfl | exact Or.inr rfl)) (pgs_cons (pg_name (i := 14) sc_law.nd rfl (by first | exact Or.inl rfl | exact Or.inr rfl)) (pgs_cons (pg_name (i := 15) sc_law.nd rfl (by first | exact Or.inl rfl | exact Or.inr rfl)) pgs_nil)))))))) (s_seq (pss_cons (s_set (ps_set (i := 9) sc_law.nd rfl (by first | exact Or.inl rfl | exact Or.inr rfl) (c_FE (c_EF (x_call rfl (g_call ih.i_run hc hq (by rfl) T.m_run T.F_run.kp T.b_run pass0 (xa_cons (pa_cons (x_var (pv 5)) (xa_cons (pa_cons (x_var (pv 7)) (xa_cons (pa_cons (x_var (pv 8)) (xa_cons (pa_cons (x_tup (pe_tup (xa_cons (pa_cons (x_var (pv 10)) (xa_cons (pa_cons (x_var (pv 11)) (xa_nil pa_nil))))))) (xa_nil pa_nil))))))))))))))) (s_seq (pss_cons (s_if (ps_if (x_test2 (pt_cmpR (op_neW (un_of hr)) (c_EB (x_prim (pe_callB (call_repr (un_of hr) hq) (by rfl) T.z_repr bt_repr (xr_cons (pa_cons (x_varB (pv 9)) (xr_nil pa_nil)))) p_repr)) (c_EB (x_prim (pe_callB (call_repr (un_of hr) hq) (by rfl) T.z_repr bt_repr (xr_cons (pa_cons (c_FB (x_tup (pe_tup (xa_cons (pa_cons (x_var (pv 12)) (xa_cons (pa_cons (x_tup (pe_tup (xa_cons (pa_cons (x_c pe_str fun _ _ => .str _) (xa_cons (pa_cons (c_EF (x_op2 (pe_op op_addA (c_EB (x_op2 (pe_op op_addA (c_EB (x_op2 (pe_op op_mulA (x_varB (pv 13)) (x_varB (pv 10))) p_mul)) (c_EB (x_op2 (pe_op op_mulA (x_varB (pv 14)) (x_varB (pv 11))) p_mul))) p_add)) (x_varB (pv 15))) p_add)) (xa_nil pa_nil))))))) (xa_nil pa_nil)))))))) (xr_nil pa_nil)))) p_repr)) rfl) p_ne) (s_seq (pss_cons (s_ret (ps_ret (c_FE (x_c pe_bl fun _ _ => .bl _)))) (s_nil pss_nil))) (s_nil pss_nil))) (s_nil pss_nil))))))))))) (s_nil pss_nil))))))))))) (s_seq (pss_cons (s_ret (ps_ret (c_FE (x_c pe_bl fun _ _ => .bl _)))) (s_nil pss_nil)))))))
theorem oks (T : Top w K mg) : ∀ k, Oks P w base T k
  | 0 => ⟨g_zero, g_zero, g_zero, g_zero, g_zero, g_zero, g_zero, g_zero, g_zero, g_zero, g_zero, g_zero, g_zero, g_zero, g_zero, g_zero, g_zero, g_zero, g_zero, g_zero, g_zero, g_zero, g_zero⟩
  | k + 1 => have ih := oks T k; ⟨ok_functions T ih, ok_signed T ih, ok_Work___init__ T ih, ok_Work_work T ih, ok_Enter___init__ T ih, ok_Enter_work T ih, ok_Sign___init__ T ih, ok_Sign_work T ih, ok_Behind___init__ T ih, ok_Behind_work T ih, ok_Begin___init__ T ih, ok_Begin_work T ih, ok_Round___init__ T ih, ok_Round_work T ih, ok_Run___init__ T ih, ok_Run_later T ih, ok_Run_finish T ih, ok_Run_ended T ih, ok_run T ih, ok__law_cell T ih, ok__law_deep T ih, ok__law_functions T ih, ok_law T ih⟩
end
noncomputable def top_mk {w : World} {K : PySem.W.Frag} {h : Heap} {mg : Str → Option Value} (X : K.In h) (G : h.Ns mainGlobals mg) {C_Work : Addr} {C_Enter : Addr} {C_Sign : Addr} {C_Behind : Addr} {C_Begin : Addr} {C_Round : Addr} {C_Run : Addr} {f0 : Addr} {od0 an0 : Option Addr} {sl0 : Array (Option Value)} {oc0 kV0 dc0 pm0 cd0 ct0 : Value} {f1 : Addr} {od1 an1 : Option Addr} {sl1 : Array (Option Value)} {oc1 kV1 dc1 pm1 cd1 ct1 : Value} {f2 : Addr} {od2 an2 : Option Addr} {sl2 : Array (Option Value)} {oc2 kV2 dc2 pm2 cd2 ct2 : Value} {f3 : Addr} {od3 an3 : Option Addr} {sl3 : Array (Option Value)} {oc3 kV3 dc3 pm3 cd3 ct3 : Value} {f4 : Addr} {od4 an4 : Option Addr} {sl4 : Array (Option Value)} {oc4 kV4 dc4 pm4 cd4 ct4 : Value} {f5 : Addr} {od5 an5 : Option Addr} {sl5 : Array (Option Value)} {oc5 kV5 dc5 pm5 cd5 ct5 : Value} {f6 : Addr} {od6 an6 : Option Addr} {sl6 : Array (Option Value)} {oc6 kV6 dc6 pm6 cd6 ct6 : Value} {f7 : Addr} {od7 an7 : Option Addr} {sl7 : Array (Option Value)} {oc7 kV7 dc7 pm7 cd7 ct7 : Value} {f8 : Addr} {od8 an8 : Option Addr} {sl8 : Array (Option Value)} {oc8 kV8 dc8 pm8 cd8 ct8 : Value} {f9 : Addr} {od9 an9 : Option Addr} {sl9 : Array (Option Value)} {oc9 kV9 dc9 pm9 cd9 ct9 : Value} {f10 : Addr} {od10 an10 : Option Addr} {sl10 : Array (Option Value)} {oc10 kV10 dc10 pm10 cd10 ct10 : Value} {f11 : Addr} {od11 an11 : Option Addr} {sl11 : Array (Option Value)} {oc11 kV11 dc11 pm11 cd11 ct11 : Value} {f12 : Addr} {od12 an12 : Option Addr} {sl12 : Array (Option Value)} {oc12 kV12 dc12 pm12 cd12 ct12 : Value} {f13 : Addr} {od13 an13 : Option Addr} {sl13 : Array (Option Value)} {oc13 kV13 dc13 pm13 cd13 ct13 : Value} {f14 : Addr} {od14 an14 : Option Addr} {sl14 : Array (Option Value)} {oc14 kV14 dc14 pm14 cd14 ct14 : Value} {f15 : Addr} {od15 an15 : Option Addr} {sl15 : Array (Option Value)} {oc15 kV15 dc15 pm15 cd15 ct15 : Value} {f16 : Addr} {od16 an16 : Option Addr} {sl16 : Array (Option Value)} {oc16 kV16 dc16 pm16 cd16 ct16 : Value} {f17 : Addr} {od17 an17 : Option Addr} {sl17 : Array (Option Value)} {oc17 kV17 dc17 pm17 cd17 ct17 : Value} {f18 : Addr} {od18 an18 : Option Addr} {sl18 : Array (Option Value)} {oc18 kV18 dc18 pm18 cd18 ct18 : Value} {f19 : Addr} {od19 an19 : Option Addr} {sl19 : Array (Option Value)} {oc19 kV19 dc19 pm19 cd19 ct19 : Value} {f20 : Addr} {od20 an20 : Option Addr} {sl20 : Array (Option Value)} {oc20 kV20 dc20 pm20 cd20 ct20 : Value} {f21 : Addr} {od21 an21 : Option Addr} {sl21 : Array (Option Value)} {oc21 kV21 dc21 pm21 cd21 ct21 : Value} {f22 : Addr} {od22 an22 : Option Addr} {sl22 : Array (Option Value)} {oc22 kV22 dc22 pm22 cd22 ct22 : Value} {t_MOST_ROUNDS : Tok} (ca_Work : PySem.W.nsIn K mainGlobals "Work" = some (some (.ref C_Work))) (cb_Work : PySem.W.makesIn K C_Work = true) (cc_Work : PySem.W.keepIn K (.ref C_Work) = true) (cd_Work : PySem.W.plainGet K C_Work Str.empty = true) (ce_Work : PySem.W.hasDictIn K C_Work = true) (cf_Work : PySem.W.plainOver K C_Work = true) (cg_Work : PySem.W.findIn K (.ref C_Work) "__setattr__" = some (some (.builtin "object.__setattr__"))) (nf_Work_tree : PySem.W.findIn K (.ref C_Work) "tree" = some none) (nf_Work_scope : PySem.W.findIn K (.ref C_Work) "scope" = some none) (ca_Enter : PySem.W.nsIn K mainGlobals "Enter" = some (some (.ref C_Enter))) (cb_Enter : PySem.W.makesIn K C_Enter = true) (cc_Enter : PySem.W.keepIn K (.ref C_Enter) = true) (cd_Enter : PySem.W.plainGet K C_Enter Str.empty = true) (ce_Enter : PySem.W.hasDictIn K C_Enter = true) (cf_Enter : PySem.W.plainOver K C_Enter = true) (cg_Enter : PySem.W.findIn K (.ref C_Enter) "__setattr__" = some (some (.builtin "object.__setattr__"))) (nf_Enter_tree : PySem.W.findIn K (.ref C_Enter) "tree" = some none) (ca_Sign : PySem.W.nsIn K mainGlobals "Sign" = some (some (.ref C_Sign))) (cb_Sign : PySem.W.makesIn K C_Sign = true) (cc_Sign : PySem.W.keepIn K (.ref C_Sign) = true) (cd_Sign : PySem.W.plainGet K C_Sign Str.empty = true) (ce_Sign : PySem.W.hasDictIn K C_Sign = true) (cf_Sign : PySem.W.plainOver K C_Sign = true) (cg_Sign : PySem.W.findIn K (.ref C_Sign) "__setattr__" = some (some (.builtin "object.__setattr__"))) (nf_Sign_sign : PySem.W.findIn K (.ref C_Sign) "sign" = some none) (ca_Behind : PySem.W.nsIn K mainGlobals "Behind" = some (some (.ref C_Behind))) (cb_Behind : PySem.W.makesIn K C_Behind = true) (cc_Behind : PySem.W.keepIn K (.ref C_Behind) = true) (cd_Behind : PySem.W.plainGet K C_Behind Str.empty = true) (ce_Behind : PySem.W.hasDictIn K C_Behind = true) (cf_Behind : PySem.W.plainOver K C_Behind = true) (cg_Behind : PySem.W.findIn K (.ref C_Behind) "__setattr__" = some (some (.builtin "object.__setattr__"))) (nf_Behind_tree : PySem.W.findIn K (.ref C_Behind) "tree" = some none) (nf_Behind_scope : PySem.W.findIn K (.ref C_Behind) "scope" = some none) (ca_Begin : PySem.W.nsIn K mainGlobals "Begin" = some (some (.ref C_Begin))) (cb_Begin : PySem.W.makesIn K C_Begin = true) (cc_Begin : PySem.W.keepIn K (.ref C_Begin) = true) (cd_Begin : PySem.W.plainGet K C_Begin Str.empty = true) (ce_Begin : PySem.W.hasDictIn K C_Begin = true) (cf_Begin : PySem.W.plainOver K C_Begin = true) (cg_Begin : PySem.W.findIn K (.ref C_Begin) "__setattr__" = some (some (.builtin "object.__setattr__"))) (nf_Begin_tree : PySem.W.findIn K (.ref C_Begin) "tree" = some none) (nf_Begin_scope : PySem.W.findIn K (.ref C_Begin) "scope" = some none) (ca_Round : PySem.W.nsIn K mainGlobals "Round" = some (some (.ref C_Round))) (cb_Round : PySem.W.makesIn K C_Round = true) (cc_Round : PySem.W.keepIn K (.ref C_Round) = true) (cd_Round : PySem.W.plainGet K C_Round Str.empty = true) (ce_Round : PySem.W.hasDictIn K C_Round = true) (cf_Round : PySem.W.plainOver K C_Round = true) (cg_Round : PySem.W.findIn K (.ref C_Round) "__setattr__" = some (some (.builtin "object.__setattr__"))) (nf_Round_tree : PySem.W.findIn K (.ref C_Round) "tree" = some none) (nf_Round_scope : PySem.W.findIn K (.ref C_Round) "scope" = some none) (nf_Round_turn : PySem.W.findIn K (.ref C_Round) "turn" = some none) (nf_Round_turns : PySem.W.findIn K (.ref C_Round) "turns" = some none) (ca_Run : PySem.W.nsIn K mainGlobals "Run" = some (some (.ref C_Run))) (cb_Run : PySem.W.makesIn K C_Run = true) (cc_Run : PySem.W.keepIn K (.ref C_Run) = true) (cd_Run : PySem.W.plainGet K C_Run Str.empty = true) (ce_Run : PySem.W.hasDictIn K C_Run = true) (cf_Run : PySem.W.plainOver K C_Run = true) (cg_Run : PySem.W.findIn K (.ref C_Run) "__setattr__" = some (some (.builtin "object.__setattr__"))) (nf_Run_rows : PySem.W.findIn K (.ref C_Run) "rows" = some none) (nf_Run_deeds : PySem.W.findIn K (.ref C_Run) "deeds" = some none) (nf_Run_worths : PySem.W.findIn K (.ref C_Run) "worths" = some none) (nf_Run_told : PySem.W.findIn K (.ref C_Run) "told" = some none) (nf_Run_end : PySem.W.findIn K (.ref C_Run) "end" = some none) (a0 : PySem.W.nsIn K mainGlobals "functions" = some (some (.ref f0))) (l0 : K.lookup f0 = some ⟨oc0, od0, .func (PySem.W.fnOf "functions" "functions" (defArgs s_functions) (defBody s_functions) (defScope s_functions) .none kV0 dc0 pm0 an0 cd0 ct0), sl0⟩) (c0 : PySem.W.codeIn K cd0 "functions" = true) (k0 : PySem.W.keepIn K (.ref f0) = true) (a1 : PySem.W.nsIn K mainGlobals "signed" = some (some (.ref f1))) (l1 : K.lookup f1 = some ⟨oc1, od1, .func (PySem.W.fnOf "signed" "signed" (defArgs s_signed) (defBody s_signed) (defScope s_signed) .none kV1 dc1 pm1 an1 cd1 ct1), sl1⟩) (c1 : PySem.W.codeIn K cd1 "signed" = true) (k1 : PySem.W.keepIn K (.ref f1) = true) (a2 : PySem.W.findIn K (.ref C_Work) "__init__" = some (some (.ref f2))) (l2 : K.lookup f2 = some ⟨oc2, od2, .func (PySem.W.fnOf "__init__" "Work.__init__" (defArgs s_Work___init__) (defBody s_Work___init__) (defScope s_Work___init__) .none kV2 dc2 pm2 an2 cd2 ct2), sl2⟩) (c2 : PySem.W.codeIn K cd2 "Work.__init__" = true) (k2 : PySem.W.keepIn K (.ref f2) = true) (i2 : PySem.W.isFn K (.ref f2) = true) (a3 : PySem.W.findIn K (.ref C_Work) "work" = some (some (.ref f3))) (l3 : K.lookup f3 = some ⟨oc3, od3, .func (PySem.W.fnOf "work" "Work.work" (defArgs s_Work_work) (defBody s_Work_work) (defScope s_Work_work) .none kV3 dc3 pm3 an3 cd3 ct3), sl3⟩) (c3 : PySem.W.codeIn K cd3 "Work.work" = true) (k3 : PySem.W.keepIn K (.ref f3) = true) (i3 : PySem.W.isFn K (.ref f3) = true) (a4 : PySem.W.findIn K (.ref C_Enter) "__init__" = some (some (.ref f4))) (l4 : K.lookup f4 = some ⟨oc4, od4, .func (PySem.W.fnOf "__init__" "Enter.__init__" (defArgs s_Enter___init__) (defBody s_Enter___init__) (defScope s_Enter___init__) .none kV4 dc4 pm4 an4 cd4 ct4), sl4⟩) (c4 : PySem.W.codeIn K cd4 "Enter.__init__" = true) (k4 : PySem.W.keepIn K (.ref f4) = true) (i4 : PySem.W.isFn K (.ref f4) = true) (a5 : PySem.W.findIn K (.ref C_Enter) "work" = some (some (.ref f5))) (l5 : K.lookup f5 = some ⟨oc5, od5, .func (PySem.W.fnOf "work" "Enter.work" (defArgs s_Enter_work) (defBody s_Enter_work) (defScope s_Enter_work) .none kV5 dc5 pm5 an5 cd5 ct5), sl5⟩) (c5 : PySem.W.codeIn K cd5 "Enter.work" = true) (k5 : PySem.W.keepIn K (.ref f5) = true) (i5 : PySem.W.isFn K (.ref f5) = true) (a6 : PySem.W.findIn K (.ref C_Sign) "__init__" = some (some (.ref f6))) (l6 : K.lookup f6 = some ⟨oc6, od6, .func (PySem.W.fnOf "__init__" "Sign.__init__" (defArgs s_Sign___init__) (defBody s_Sign___init__) (defScope s_Sign___init__) .none kV6 dc6 pm6 an6 cd6 ct6), sl6⟩) (c6 : PySem.W.codeIn K cd6 "Sign.__init__" = true) (k6 : PySem.W.keepIn K (.ref f6) = true) (i6 : PySem.W.isFn K (.ref f6) = true) (a7 : PySem.W.findIn K (.ref C_Sign) "work" = some (some (.ref f7))) (l7 : K.lookup f7 = some ⟨oc7, od7, .func (PySem.W.fnOf "work" "Sign.work" (defArgs s_Sign_work) (defBody s_Sign_work) (defScope s_Sign_work) .none kV7 dc7 pm7 an7 cd7 ct7), sl7⟩) (c7 : PySem.W.codeIn K cd7 "Sign.work" = true) (k7 : PySem.W.keepIn K (.ref f7) = true) (i7 : PySem.W.isFn K (.ref f7) = true) (a8 : PySem.W.findIn K (.ref C_Behind) "__init__" = some (some (.ref f8))) (l8 : K.lookup f8 = some ⟨oc8, od8, .func (PySem.W.fnOf "__init__" "Behind.__init__" (defArgs s_Behind___init__) (defBody s_Behind___init__) (defScope s_Behind___init__) .none kV8 dc8 pm8 an8 cd8 ct8), sl8⟩) (c8 : PySem.W.codeIn K cd8 "Behind.__init__" = true) (k8 : PySem.W.keepIn K (.ref f8) = true) (i8 : PySem.W.isFn K (.ref f8) = true) (a9 : PySem.W.findIn K (.ref C_Behind) "work" = some (some (.ref f9))) (l9 : K.lookup f9 = some ⟨oc9, od9, .func (PySem.W.fnOf "work" "Behind.work" (defArgs s_Behind_work) (defBody s_Behind_work) (defScope s_Behind_work) .none kV9 dc9 pm9 an9 cd9 ct9), sl9⟩) (c9 : PySem.W.codeIn K cd9 "Behind.work" = true) (k9 : PySem.W.keepIn K (.ref f9) = true) (i9 : PySem.W.isFn K (.ref f9) = true) (a10 : PySem.W.findIn K (.ref C_Begin) "__init__" = some (some (.ref f10))) (l10 : K.lookup f10 = some ⟨oc10, od10, .func (PySem.W.fnOf "__init__" "Begin.__init__" (defArgs s_Begin___init__) (defBody s_Begin___init__) (defScope s_Begin___init__) .none kV10 dc10 pm10 an10 cd10 ct10), sl10⟩) (c10 : PySem.W.codeIn K cd10 "Begin.__init__" = true) (k10 : PySem.W.keepIn K (.ref f10) = true) (i10 : PySem.W.isFn K (.ref f10) = true) (a11 : PySem.W.findIn K (.ref C_Begin) "work" = some (some (.ref f11))) (l11 : K.lookup f11 = some ⟨oc11, od11, .func (PySem.W.fnOf "work" "Begin.work" (defArgs s_Begin_work) (defBody s_Begin_work) (defScope s_Begin_work) .none kV11 dc11 pm11 an11 cd11 ct11), sl11⟩) (c11 : PySem.W.codeIn K cd11 "Begin.work" = true) (k11 : PySem.W.keepIn K (.ref f11) = true) (i11 : PySem.W.isFn K (.ref f11) = true) (a12 : PySem.W.findIn K (.ref C_Round) "__init__" = some (some (.ref f12))) (l12 : K.lookup f12 = some ⟨oc12, od12, .func (PySem.W.fnOf "__init__" "Round.__init__" (defArgs s_Round___init__) (defBody s_Round___init__) (defScope s_Round___init__) .none kV12 dc12 pm12 an12 cd12 ct12), sl12⟩) (c12 : PySem.W.codeIn K cd12 "Round.__init__" = true) (k12 : PySem.W.keepIn K (.ref f12) = true) (i12 : PySem.W.isFn K (.ref f12) = true) (a13 : PySem.W.findIn K (.ref C_Round) "work" = some (some (.ref f13))) (l13 : K.lookup f13 = some ⟨oc13, od13, .func (PySem.W.fnOf "work" "Round.work" (defArgs s_Round_work) (defBody s_Round_work) (defScope s_Round_work) .none kV13 dc13 pm13 an13 cd13 ct13), sl13⟩) (c13 : PySem.W.codeIn K cd13 "Round.work" = true) (k13 : PySem.W.keepIn K (.ref f13) = true) (i13 : PySem.W.isFn K (.ref f13) = true) (a14 : PySem.W.findIn K (.ref C_Run) "__init__" = some (some (.ref f14))) (l14 : K.lookup f14 = some ⟨oc14, od14, .func (PySem.W.fnOf "__init__" "Run.__init__" (defArgs s_Run___init__) (defBody s_Run___init__) (defScope s_Run___init__) .none kV14 dc14 pm14 an14 cd14 ct14), sl14⟩) (c14 : PySem.W.codeIn K cd14 "Run.__init__" = true) (k14 : PySem.W.keepIn K (.ref f14) = true) (i14 : PySem.W.isFn K (.ref f14) = true) (a15 : PySem.W.findIn K (.ref C_Run) "later" = some (some (.ref f15))) (l15 : K.lookup f15 = some ⟨oc15, od15, .func (PySem.W.fnOf "later" "Run.later" (defArgs s_Run_later) (defBody s_Run_later) (defScope s_Run_later) .none kV15 dc15 pm15 an15 cd15 ct15), sl15⟩) (c15 : PySem.W.codeIn K cd15 "Run.later" = true) (k15 : PySem.W.keepIn K (.ref f15) = true) (i15 : PySem.W.isFn K (.ref f15) = true) (a16 : PySem.W.findIn K (.ref C_Run) "finish" = some (some (.ref f16))) (l16 : K.lookup f16 = some ⟨oc16, od16, .func (PySem.W.fnOf "finish" "Run.finish" (defArgs s_Run_finish) (defBody s_Run_finish) (defScope s_Run_finish) .none kV16 dc16 pm16 an16 cd16 ct16), sl16⟩) (c16 : PySem.W.codeIn K cd16 "Run.finish" = true) (k16 : PySem.W.keepIn K (.ref f16) = true) (i16 : PySem.W.isFn K (.ref f16) = true) (a17 : PySem.W.findIn K (.ref C_Run) "ended" = some (some (.ref f17))) (l17 : K.lookup f17 = some ⟨oc17, od17, .func (PySem.W.fnOf "ended" "Run.ended" (defArgs s_Run_ended) (defBody s_Run_ended) (defScope s_Run_ended) .none kV17 dc17 pm17 an17 cd17 ct17), sl17⟩) (c17 : PySem.W.codeIn K cd17 "Run.ended" = true) (k17 : PySem.W.keepIn K (.ref f17) = true) (i17 : PySem.W.isFn K (.ref f17) = true) (a18 : PySem.W.nsIn K mainGlobals "run" = some (some (.ref f18))) (l18 : K.lookup f18 = some ⟨oc18, od18, .func (PySem.W.fnOf "run" "run" (defArgs s_run) (defBody s_run) (defScope s_run) .none kV18 dc18 pm18 an18 cd18 ct18), sl18⟩) (c18 : PySem.W.codeIn K cd18 "run" = true) (k18 : PySem.W.keepIn K (.ref f18) = true) (a19 : PySem.W.nsIn K mainGlobals "_law_cell" = some (some (.ref f19))) (l19 : K.lookup f19 = some ⟨oc19, od19, .func (PySem.W.fnOf "_law_cell" "_law_cell" (defArgs s__law_cell) (defBody s__law_cell) (defScope s__law_cell) .none kV19 dc19 pm19 an19 cd19 ct19), sl19⟩) (c19 : PySem.W.codeIn K cd19 "_law_cell" = true) (k19 : PySem.W.keepIn K (.ref f19) = true) (a20 : PySem.W.nsIn K mainGlobals "_law_deep" = some (some (.ref f20))) (l20 : K.lookup f20 = some ⟨oc20, od20, .func (PySem.W.fnOf "_law_deep" "_law_deep" (defArgs s__law_deep) (defBody s__law_deep) (defScope s__law_deep) .none kV20 dc20 pm20 an20 cd20 ct20), sl20⟩) (c20 : PySem.W.codeIn K cd20 "_law_deep" = true) (k20 : PySem.W.keepIn K (.ref f20) = true) (a21 : PySem.W.nsIn K mainGlobals "_law_functions" = some (some (.ref f21))) (l21 : K.lookup f21 = some ⟨oc21, od21, .func (PySem.W.fnOf "_law_functions" "_law_functions" (defArgs s__law_functions) (defBody s__law_functions) (defScope s__law_functions) .none kV21 dc21 pm21 an21 cd21 ct21), sl21⟩) (c21 : PySem.W.codeIn K cd21 "_law_functions" = true) (k21 : PySem.W.keepIn K (.ref f21) = true) (a22 : PySem.W.nsIn K mainGlobals "law" = some (some (.ref f22))) (l22 : K.lookup f22 = some ⟨oc22, od22, .func (PySem.W.fnOf "law" "law" (defArgs s_law) (defBody s_law) (defScope s_law) .none kV22 dc22 pm22 an22 cd22 ct22), sl22⟩) (c22 : PySem.W.codeIn K cd22 "law" = true) (k22 : PySem.W.keepIn K (.ref f22) = true) (z_int : PySem.W.nsIn K mainGlobals "int" = some none) (z_dict : PySem.W.nsIn K mainGlobals "dict" = some none) (z_zip : PySem.W.nsIn K mainGlobals "zip" = some none) (z_reversed : PySem.W.nsIn K mainGlobals "reversed" = some none) (z_len : PySem.W.nsIn K mainGlobals "len" = some none) (z_range : PySem.W.nsIn K mainGlobals "range" = some none) (z_list : PySem.W.nsIn K mainGlobals "list" = some none) (z_max : PySem.W.nsIn K mainGlobals "max" = some none) (z_sum : PySem.W.nsIn K mainGlobals "sum" = some none) (z_tuple : PySem.W.nsIn K mainGlobals "tuple" = some none) (z_min : PySem.W.nsIn K mainGlobals "min" = some none) (z_repr : PySem.W.nsIn K mainGlobals "repr" = some none) (g_MOST_ROUNDS : PySem.W.nsIn K mainGlobals "MOST_ROUNDS" = some (some (.int 1000 t_MOST_ROUNDS))) : Top w K mg where
  K_Work := cls_mk ca_Work cd_Work ce_Work cf_Work cg_Work
  g_Work := by rw [clsAt_of ca_Work]; exact PySem.W.mg_of X G ca_Work
  n_Work_tree := na_mk ca_Work nf_Work_tree
  n_Work_scope := na_mk ca_Work nf_Work_scope
  K_Enter := cls_mk ca_Enter cd_Enter ce_Enter cf_Enter cg_Enter
  g_Enter := by rw [clsAt_of ca_Enter]; exact PySem.W.mg_of X G ca_Enter
  n_Enter_tree := na_mk ca_Enter nf_Enter_tree
  K_Sign := cls_mk ca_Sign cd_Sign ce_Sign cf_Sign cg_Sign
  g_Sign := by rw [clsAt_of ca_Sign]; exact PySem.W.mg_of X G ca_Sign
  n_Sign_sign := na_mk ca_Sign nf_Sign_sign
  K_Behind := cls_mk ca_Behind cd_Behind ce_Behind cf_Behind cg_Behind
  g_Behind := by rw [clsAt_of ca_Behind]; exact PySem.W.mg_of X G ca_Behind
  n_Behind_tree := na_mk ca_Behind nf_Behind_tree
  n_Behind_scope := na_mk ca_Behind nf_Behind_scope
  K_Begin := cls_mk ca_Begin cd_Begin ce_Begin cf_Begin cg_Begin
  g_Begin := by rw [clsAt_of ca_Begin]; exact PySem.W.mg_of X G ca_Begin
  n_Begin_tree := na_mk ca_Begin nf_Begin_tree
  n_Begin_scope := na_mk ca_Begin nf_Begin_scope
  K_Round := cls_mk ca_Round cd_Round ce_Round cf_Round cg_Round
  g_Round := by rw [clsAt_of ca_Round]; exact PySem.W.mg_of X G ca_Round
  n_Round_tree := na_mk ca_Round nf_Round_tree
  n_Round_scope := na_mk ca_Round nf_Round_scope
  n_Round_turn := na_mk ca_Round nf_Round_turn
  n_Round_turns := na_mk ca_Round nf_Round_turns
  K_Run := cls_mk ca_Run cd_Run ce_Run cf_Run cg_Run
  g_Run := by rw [clsAt_of ca_Run]; exact PySem.W.mg_of X G ca_Run
  n_Run_rows := na_mk ca_Run nf_Run_rows
  n_Run_deeds := na_mk ca_Run nf_Run_deeds
  n_Run_worths := na_mk ca_Run nf_Run_worths
  n_Run_told := na_mk ca_Run nf_Run_told
  n_Run_end := na_mk ca_Run nf_Run_end
  a_functions := f0
  d_functions := PySem.W.fnOf "functions" "functions" (defArgs s_functions) (defBody s_functions) (defScope s_functions) .none kV0 dc0 pm0 an0 cd0 ct0
  F_functions := fun_mk (st := s_functions) l0 c0 k0
  b_functions := (fun_mk (st := s_functions) l0 c0 k0).binds (ps := ["program"]) fun _ _ _ _ _ _ us hl => match us, hl with | [_], _ => rfl
  m_functions := PySem.W.mg_of X G a0
  a_signed := f1
  d_signed := PySem.W.fnOf "signed" "signed" (defArgs s_signed) (defBody s_signed) (defScope s_signed) .none kV1 dc1 pm1 an1 cd1 ct1
  F_signed := fun_mk (st := s_signed) l1 c1 k1
  b_signed := (fun_mk (st := s_signed) l1 c1 k1).binds (ps := ["sign", "one", "other"]) fun _ _ _ _ _ _ us hl => match us, hl with | [_, _, _], _ => rfl
  m_signed := PySem.W.mg_of X G a1
  a_Work___init__ := f2
  d_Work___init__ := PySem.W.fnOf "__init__" "Work.__init__" (defArgs s_Work___init__) (defBody s_Work___init__) (defScope s_Work___init__) .none kV2 dc2 pm2 an2 cd2 ct2
  F_Work___init__ := fun_mk (st := s_Work___init__) l2 c2 k2
  b_Work___init__ := (fun_mk (st := s_Work___init__) l2 c2 k2).binds (ps := ["self", "expression", "values"]) fun _ _ _ _ _ _ us hl => match us, hl with | [_, _, _], _ => rfl
  mk_Work := mk_mk ca_Work cb_Work a2 i2 cc_Work
  a_Work_work := f3
  d_Work_work := PySem.W.fnOf "work" "Work.work" (defArgs s_Work_work) (defBody s_Work_work) (defScope s_Work_work) .none kV3 dc3 pm3 an3 cd3 ct3
  F_Work_work := fun_mk (st := s_Work_work) l3 c3 k3
  b_Work_work := (fun_mk (st := s_Work_work) l3 c3 k3).binds (ps := ["self", "run"]) fun _ _ _ _ _ _ us hl => match us, hl with | [_, _], _ => rfl
  me_Work_work := meth_mk ca_Work a3 i3 k3
  a_Enter___init__ := f4
  d_Enter___init__ := PySem.W.fnOf "__init__" "Enter.__init__" (defArgs s_Enter___init__) (defBody s_Enter___init__) (defScope s_Enter___init__) .none kV4 dc4 pm4 an4 cd4 ct4
  F_Enter___init__ := fun_mk (st := s_Enter___init__) l4 c4 k4
  b_Enter___init__ := (fun_mk (st := s_Enter___init__) l4 c4 k4).binds (ps := ["self", "expression"]) fun _ _ _ _ _ _ us hl => match us, hl with | [_, _], _ => rfl
  mk_Enter := mk_mk ca_Enter cb_Enter a4 i4 cc_Enter
  a_Enter_work := f5
  d_Enter_work := PySem.W.fnOf "work" "Enter.work" (defArgs s_Enter_work) (defBody s_Enter_work) (defScope s_Enter_work) .none kV5 dc5 pm5 an5 cd5 ct5
  F_Enter_work := fun_mk (st := s_Enter_work) l5 c5 k5
  b_Enter_work := (fun_mk (st := s_Enter_work) l5 c5 k5).binds (ps := ["self", "run"]) fun _ _ _ _ _ _ us hl => match us, hl with | [_, _], _ => rfl
  me_Enter_work := meth_mk ca_Enter a5 i5 k5
  a_Sign___init__ := f6
  d_Sign___init__ := PySem.W.fnOf "__init__" "Sign.__init__" (defArgs s_Sign___init__) (defBody s_Sign___init__) (defScope s_Sign___init__) .none kV6 dc6 pm6 an6 cd6 ct6
  F_Sign___init__ := fun_mk (st := s_Sign___init__) l6 c6 k6
  b_Sign___init__ := (fun_mk (st := s_Sign___init__) l6 c6 k6).binds (ps := ["self", "sign"]) fun _ _ _ _ _ _ us hl => match us, hl with | [_, _], _ => rfl
  mk_Sign := mk_mk ca_Sign cb_Sign a6 i6 cc_Sign
  a_Sign_work := f7
  d_Sign_work := PySem.W.fnOf "work" "Sign.work" (defArgs s_Sign_work) (defBody s_Sign_work) (defScope s_Sign_work) .none kV7 dc7 pm7 an7 cd7 ct7
  F_Sign_work := fun_mk (st := s_Sign_work) l7 c7 k7
  b_Sign_work := (fun_mk (st := s_Sign_work) l7 c7 k7).binds (ps := ["self", "run"]) fun _ _ _ _ _ _ us hl => match us, hl with | [_, _], _ => rfl
  me_Sign_work := meth_mk ca_Sign a7 i7 k7
  a_Behind___init__ := f8
  d_Behind___init__ := PySem.W.fnOf "__init__" "Behind.__init__" (defArgs s_Behind___init__) (defBody s_Behind___init__) (defScope s_Behind___init__) .none kV8 dc8 pm8 an8 cd8 ct8
  F_Behind___init__ := fun_mk (st := s_Behind___init__) l8 c8 k8
  b_Behind___init__ := (fun_mk (st := s_Behind___init__) l8 c8 k8).binds (ps := ["self", "expression", "values"]) fun _ _ _ _ _ _ us hl => match us, hl with | [_, _, _], _ => rfl
  mk_Behind := mk_mk ca_Behind cb_Behind a8 i8 cc_Behind
  a_Behind_work := f9
  d_Behind_work := PySem.W.fnOf "work" "Behind.work" (defArgs s_Behind_work) (defBody s_Behind_work) (defScope s_Behind_work) .none kV9 dc9 pm9 an9 cd9 ct9
  F_Behind_work := fun_mk (st := s_Behind_work) l9 c9 k9
  b_Behind_work := (fun_mk (st := s_Behind_work) l9 c9 k9).binds (ps := ["self", "run"]) fun _ _ _ _ _ _ us hl => match us, hl with | [_, _], _ => rfl
  me_Behind_work := meth_mk ca_Behind a9 i9 k9
  a_Begin___init__ := f10
  d_Begin___init__ := PySem.W.fnOf "__init__" "Begin.__init__" (defArgs s_Begin___init__) (defBody s_Begin___init__) (defScope s_Begin___init__) .none kV10 dc10 pm10 an10 cd10 ct10
  F_Begin___init__ := fun_mk (st := s_Begin___init__) l10 c10 k10
  b_Begin___init__ := (fun_mk (st := s_Begin___init__) l10 c10 k10).binds (ps := ["self", "expression", "values"]) fun _ _ _ _ _ _ us hl => match us, hl with | [_, _, _], _ => rfl
  mk_Begin := mk_mk ca_Begin cb_Begin a10 i10 cc_Begin
  a_Begin_work := f11
  d_Begin_work := PySem.W.fnOf "work" "Begin.work" (defArgs s_Begin_work) (defBody s_Begin_work) (defScope s_Begin_work) .none kV11 dc11 pm11 an11 cd11 ct11
  F_Begin_work := fun_mk (st := s_Begin_work) l11 c11 k11
  b_Begin_work := (fun_mk (st := s_Begin_work) l11 c11 k11).binds (ps := ["self", "run"]) fun _ _ _ _ _ _ us hl => match us, hl with | [_, _], _ => rfl
  me_Begin_work := meth_mk ca_Begin a11 i11 k11
  a_Round___init__ := f12
  d_Round___init__ := PySem.W.fnOf "__init__" "Round.__init__" (defArgs s_Round___init__) (defBody s_Round___init__) (defScope s_Round___init__) .none kV12 dc12 pm12 an12 cd12 ct12
  F_Round___init__ := fun_mk (st := s_Round___init__) l12 c12 k12
  b_Round___init__ := (fun_mk (st := s_Round___init__) l12 c12 k12).binds (ps := ["self", "expression", "values", "number", "many"]) fun _ _ _ _ _ _ us hl => match us, hl with | [_, _, _, _, _], _ => rfl
  mk_Round := mk_mk ca_Round cb_Round a12 i12 cc_Round
  a_Round_work := f13
  d_Round_work := PySem.W.fnOf "work" "Round.work" (defArgs s_Round_work) (defBody s_Round_work) (defScope s_Round_work) .none kV13 dc13 pm13 an13 cd13 ct13
  F_Round_work := fun_mk (st := s_Round_work) l13 c13 k13
  b_Round_work := (fun_mk (st := s_Round_work) l13 c13 k13).binds (ps := ["self", "run"]) fun _ _ _ _ _ _ us hl => match us, hl with | [_, _], _ => rfl
  me_Round_work := meth_mk ca_Round a13 i13 k13
  a_Run___init__ := f14
  d_Run___init__ := PySem.W.fnOf "__init__" "Run.__init__" (defArgs s_Run___init__) (defBody s_Run___init__) (defScope s_Run___init__) .none kV14 dc14 pm14 an14 cd14 ct14
  F_Run___init__ := fun_mk (st := s_Run___init__) l14 c14 k14
  b_Run___init__ := (fun_mk (st := s_Run___init__) l14 c14 k14).binds (ps := ["self", "program"]) fun _ _ _ _ _ _ us hl => match us, hl with | [_, _], _ => rfl
  mk_Run := mk_mk ca_Run cb_Run a14 i14 cc_Run
  a_Run_later := f15
  d_Run_later := PySem.W.fnOf "later" "Run.later" (defArgs s_Run_later) (defBody s_Run_later) (defScope s_Run_later) .none kV15 dc15 pm15 an15 cd15 ct15
  F_Run_later := fun_mk (st := s_Run_later) l15 c15 k15
  b_Run_later := (fun_mk (st := s_Run_later) l15 c15 k15).binds (ps := ["self", "behind", "expressions", "values"]) fun _ _ _ _ _ _ us hl => match us, hl with | [_, _, _, _], _ => rfl
  me_Run_later := meth_mk ca_Run a15 i15 k15
  a_Run_finish := f16
  d_Run_finish := PySem.W.fnOf "finish" "Run.finish" (defArgs s_Run_finish) (defBody s_Run_finish) (defScope s_Run_finish) .none kV16 dc16 pm16 an16 cd16 ct16
  F_Run_finish := fun_mk (st := s_Run_finish) l16 c16 k16
  b_Run_finish := (fun_mk (st := s_Run_finish) l16 c16 k16).binds (ps := ["self", "end"]) fun _ _ _ _ _ _ us hl => match us, hl with | [_, _], _ => rfl
  me_Run_finish := meth_mk ca_Run a16 i16 k16
  a_Run_ended := f17
  d_Run_ended := PySem.W.fnOf "ended" "Run.ended" (defArgs s_Run_ended) (defBody s_Run_ended) (defScope s_Run_ended) .none kV17 dc17 pm17 an17 cd17 ct17
  F_Run_ended := fun_mk (st := s_Run_ended) l17 c17 k17
  b_Run_ended := (fun_mk (st := s_Run_ended) l17 c17 k17).binds (ps := ["self"]) fun _ _ _ _ _ _ us hl => match us, hl with | [_], _ => rfl
  me_Run_ended := meth_mk ca_Run a17 i17 k17
  a_run := f18
  d_run := PySem.W.fnOf "run" "run" (defArgs s_run) (defBody s_run) (defScope s_run) .none kV18 dc18 pm18 an18 cd18 ct18
  F_run := fun_mk (st := s_run) l18 c18 k18
  b_run := (fun_mk (st := s_run) l18 c18 k18).binds (ps := ["program", "m", "f", "numbers"]) fun _ _ _ _ _ _ us hl => match us, hl with | [_, _, _, _], _ => rfl
  m_run := PySem.W.mg_of X G a18
  a__law_cell := f19
  d__law_cell := PySem.W.fnOf "_law_cell" "_law_cell" (defArgs s__law_cell) (defBody s__law_cell) (defScope s__law_cell) .none kV19 dc19 pm19 an19 cd19 ct19
  F__law_cell := fun_mk (st := s__law_cell) l19 c19 k19
  b__law_cell := (fun_mk (st := s__law_cell) l19 c19 k19).binds (ps := ["_law_cells", "_law_spot"]) fun _ _ _ _ _ _ us hl => match us, hl with | [_, _], _ => rfl
  m__law_cell := PySem.W.mg_of X G a19
  a__law_deep := f20
  d__law_deep := PySem.W.fnOf "_law_deep" "_law_deep" (defArgs s__law_deep) (defBody s__law_deep) (defScope s__law_deep) .none kV20 dc20 pm20 an20 cd20 ct20
  F__law_deep := fun_mk (st := s__law_deep) l20 c20 k20
  b__law_deep := (fun_mk (st := s__law_deep) l20 c20 k20).binds (ps := ["_law_n", "_law_inner", "_law_high", "_law_told"]) fun _ _ _ _ _ _ us hl => match us, hl with | [_, _, _, _], _ => rfl
  m__law_deep := PySem.W.mg_of X G a20
  a__law_functions := f21
  d__law_functions := PySem.W.fnOf "_law_functions" "_law_functions" (defArgs s__law_functions) (defBody s__law_functions) (defScope s__law_functions) .none kV21 dc21 pm21 an21 cd21 ct21
  F__law_functions := fun_mk (st := s__law_functions) l21 c21 k21
  b__law_functions := (fun_mk (st := s__law_functions) l21 c21 k21).binds (ps := ["_law_cells", "_law_spot", "_law_most"]) fun _ _ _ _ _ _ us hl => match us, hl with | [_, _, _], _ => rfl
  m__law_functions := PySem.W.mg_of X G a21
  a_law := f22
  d_law := PySem.W.fnOf "law" "law" (defArgs s_law) (defBody s_law) (defScope s_law) .none kV22 dc22 pm22 an22 cd22 ct22
  F_law := fun_mk (st := s_law) l22 c22 k22
  b_law := (fun_mk (st := s_law) l22 c22 k22).binds (ps := ["_law_script"]) fun _ _ _ _ _ _ us hl => match us, hl with | [_], _ => rfl
  m_law := PySem.W.mg_of X G a22
  bb_law := fun s v => .of_eq rfl
  z_int := PySem.W.mg_none_of X G z_int
  z_dict := PySem.W.mg_none_of X G z_dict
  z_zip := PySem.W.mg_none_of X G z_zip
  z_reversed := PySem.W.mg_none_of X G z_reversed
  z_len := PySem.W.mg_none_of X G z_len
  z_range := PySem.W.mg_none_of X G z_range
  z_list := PySem.W.mg_none_of X G z_list
  z_max := PySem.W.mg_none_of X G z_max
  z_sum := PySem.W.mg_none_of X G z_sum
  z_tuple := PySem.W.mg_none_of X G z_tuple
  z_min := PySem.W.mg_none_of X G z_min
  z_repr := PySem.W.mg_none_of X G z_repr
  c_MOST_ROUNDS := ⟨_, PySem.W.mg_of X G g_MOST_ROUNDS⟩
theorem law_fin (lvl : Nat) {l : PySem.W.OpenLaw} {w : World} {K : PySem.W.Frag} {h : Heap} {mg : Str → Option Value} {fa : Addr} (X : K.In h) (G : h.Ns mainGlobals mg) (hfa : mg "law" = some (.ref fa)) {C_Work : Addr} {C_Enter : Addr} {C_Sign : Addr} {C_Behind : Addr} {C_Begin : Addr} {C_Round : Addr} {C_Run : Addr} {f0 : Addr} {od0 an0 : Option Addr} {sl0 : Array (Option Value)} {oc0 kV0 dc0 pm0 cd0 ct0 : Value} {f1 : Addr} {od1 an1 : Option Addr} {sl1 : Array (Option Value)} {oc1 kV1 dc1 pm1 cd1 ct1 : Value} {f2 : Addr} {od2 an2 : Option Addr} {sl2 : Array (Option Value)} {oc2 kV2 dc2 pm2 cd2 ct2 : Value} {f3 : Addr} {od3 an3 : Option Addr} {sl3 : Array (Option Value)} {oc3 kV3 dc3 pm3 cd3 ct3 : Value} {f4 : Addr} {od4 an4 : Option Addr} {sl4 : Array (Option Value)} {oc4 kV4 dc4 pm4 cd4 ct4 : Value} {f5 : Addr} {od5 an5 : Option Addr} {sl5 : Array (Option Value)} {oc5 kV5 dc5 pm5 cd5 ct5 : Value} {f6 : Addr} {od6 an6 : Option Addr} {sl6 : Array (Option Value)} {oc6 kV6 dc6 pm6 cd6 ct6 : Value} {f7 : Addr} {od7 an7 : Option Addr} {sl7 : Array (Option Value)} {oc7 kV7 dc7 pm7 cd7 ct7 : Value} {f8 : Addr} {od8 an8 : Option Addr} {sl8 : Array (Option Value)} {oc8 kV8 dc8 pm8 cd8 ct8 : Value} {f9 : Addr} {od9 an9 : Option Addr} {sl9 : Array (Option Value)} {oc9 kV9 dc9 pm9 cd9 ct9 : Value} {f10 : Addr} {od10 an10 : Option Addr} {sl10 : Array (Option Value)} {oc10 kV10 dc10 pm10 cd10 ct10 : Value} {f11 : Addr} {od11 an11 : Option Addr} {sl11 : Array (Option Value)} {oc11 kV11 dc11 pm11 cd11 ct11 : Value} {f12 : Addr} {od12 an12 : Option Addr} {sl12 : Array (Option Value)} {oc12 kV12 dc12 pm12 cd12 ct12 : Value} {f13 : Addr} {od13 an13 : Option Addr} {sl13 : Array (Option Value)} {oc13 kV13 dc13 pm13 cd13 ct13 : Value} {f14 : Addr} {od14 an14 : Option Addr} {sl14 : Array (Option Value)} {oc14 kV14 dc14 pm14 cd14 ct14 : Value} {f15 : Addr} {od15 an15 : Option Addr} {sl15 : Array (Option Value)} {oc15 kV15 dc15 pm15 cd15 ct15 : Value} {f16 : Addr} {od16 an16 : Option Addr} {sl16 : Array (Option Value)} {oc16 kV16 dc16 pm16 cd16 ct16 : Value} {f17 : Addr} {od17 an17 : Option Addr} {sl17 : Array (Option Value)} {oc17 kV17 dc17 pm17 cd17 ct17 : Value} {f18 : Addr} {od18 an18 : Option Addr} {sl18 : Array (Option Value)} {oc18 kV18 dc18 pm18 cd18 ct18 : Value} {f19 : Addr} {od19 an19 : Option Addr} {sl19 : Array (Option Value)} {oc19 kV19 dc19 pm19 cd19 ct19 : Value} {f20 : Addr} {od20 an20 : Option Addr} {sl20 : Array (Option Value)} {oc20 kV20 dc20 pm20 cd20 ct20 : Value} {f21 : Addr} {od21 an21 : Option Addr} {sl21 : Array (Option Value)} {oc21 kV21 dc21 pm21 cd21 ct21 : Value} {f22 : Addr} {od22 an22 : Option Addr} {sl22 : Array (Option Value)} {oc22 kV22 dc22 pm22 cd22 ct22 : Value} {t_MOST_ROUNDS : Tok} (ca_Work : PySem.W.nsIn K mainGlobals "Work" = some (some (.ref C_Work))) (cb_Work : PySem.W.makesIn K C_Work = true) (cc_Work : PySem.W.keepIn K (.ref C_Work) = true) (cd_Work : PySem.W.plainGet K C_Work Str.empty = true) (ce_Work : PySem.W.hasDictIn K C_Work = true) (cf_Work : PySem.W.plainOver K C_Work = true) (cg_Work : PySem.W.findIn K (.ref C_Work) "__setattr__" = some (some (.builtin "object.__setattr__"))) (nf_Work_tree : PySem.W.findIn K (.ref C_Work) "tree" = some none) (nf_Work_scope : PySem.W.findIn K (.ref C_Work) "scope" = some none) (ca_Enter : PySem.W.nsIn K mainGlobals "Enter" = some (some (.ref C_Enter))) (cb_Enter : PySem.W.makesIn K C_Enter = true) (cc_Enter : PySem.W.keepIn K (.ref C_Enter) = true) (cd_Enter : PySem.W.plainGet K C_Enter Str.empty = true) (ce_Enter : PySem.W.hasDictIn K C_Enter = true) (cf_Enter : PySem.W.plainOver K C_Enter = true) (cg_Enter : PySem.W.findIn K (.ref C_Enter) "__setattr__" = some (some (.builtin "object.__setattr__"))) (nf_Enter_tree : PySem.W.findIn K (.ref C_Enter) "tree" = some none) (ca_Sign : PySem.W.nsIn K mainGlobals "Sign" = some (some (.ref C_Sign))) (cb_Sign : PySem.W.makesIn K C_Sign = true) (cc_Sign : PySem.W.keepIn K (.ref C_Sign) = true) (cd_Sign : PySem.W.plainGet K C_Sign Str.empty = true) (ce_Sign : PySem.W.hasDictIn K C_Sign = true) (cf_Sign : PySem.W.plainOver K C_Sign = true) (cg_Sign : PySem.W.findIn K (.ref C_Sign) "__setattr__" = some (some (.builtin "object.__setattr__"))) (nf_Sign_sign : PySem.W.findIn K (.ref C_Sign) "sign" = some none) (ca_Behind : PySem.W.nsIn K mainGlobals "Behind" = some (some (.ref C_Behind))) (cb_Behind : PySem.W.makesIn K C_Behind = true) (cc_Behind : PySem.W.keepIn K (.ref C_Behind) = true) (cd_Behind : PySem.W.plainGet K C_Behind Str.empty = true) (ce_Behind : PySem.W.hasDictIn K C_Behind = true) (cf_Behind : PySem.W.plainOver K C_Behind = true) (cg_Behind : PySem.W.findIn K (.ref C_Behind) "__setattr__" = some (some (.builtin "object.__setattr__"))) (nf_Behind_tree : PySem.W.findIn K (.ref C_Behind) "tree" = some none) (nf_Behind_scope : PySem.W.findIn K (.ref C_Behind) "scope" = some none) (ca_Begin : PySem.W.nsIn K mainGlobals "Begin" = some (some (.ref C_Begin))) (cb_Begin : PySem.W.makesIn K C_Begin = true) (cc_Begin : PySem.W.keepIn K (.ref C_Begin) = true) (cd_Begin : PySem.W.plainGet K C_Begin Str.empty = true) (ce_Begin : PySem.W.hasDictIn K C_Begin = true) (cf_Begin : PySem.W.plainOver K C_Begin = true) (cg_Begin : PySem.W.findIn K (.ref C_Begin) "__setattr__" = some (some (.builtin "object.__setattr__"))) (nf_Begin_tree : PySem.W.findIn K (.ref C_Begin) "tree" = some none) (nf_Begin_scope : PySem.W.findIn K (.ref C_Begin) "scope" = some none) (ca_Round : PySem.W.nsIn K mainGlobals "Round" = some (some (.ref C_Round))) (cb_Round : PySem.W.makesIn K C_Round = true) (cc_Round : PySem.W.keepIn K (.ref C_Round) = true) (cd_Round : PySem.W.plainGet K C_Round Str.empty = true) (ce_Round : PySem.W.hasDictIn K C_Round = true) (cf_Round : PySem.W.plainOver K C_Round = true) (cg_Round : PySem.W.findIn K (.ref C_Round) "__setattr__" = some (some (.builtin "object.__setattr__"))) (nf_Round_tree : PySem.W.findIn K (.ref C_Round) "tree" = some none) (nf_Round_scope : PySem.W.findIn K (.ref C_Round) "scope" = some none) (nf_Round_turn : PySem.W.findIn K (.ref C_Round) "turn" = some none) (nf_Round_turns : PySem.W.findIn K (.ref C_Round) "turns" = some none) (ca_Run : PySem.W.nsIn K mainGlobals "Run" = some (some (.ref C_Run))) (cb_Run : PySem.W.makesIn K C_Run = true) (cc_Run : PySem.W.keepIn K (.ref C_Run) = true) (cd_Run : PySem.W.plainGet K C_Run Str.empty = true) (ce_Run : PySem.W.hasDictIn K C_Run = true) (cf_Run : PySem.W.plainOver K C_Run = true) (cg_Run : PySem.W.findIn K (.ref C_Run) "__setattr__" = some (some (.builtin "object.__setattr__"))) (nf_Run_rows : PySem.W.findIn K (.ref C_Run) "rows" = some none) (nf_Run_deeds : PySem.W.findIn K (.ref C_Run) "deeds" = some none) (nf_Run_worths : PySem.W.findIn K (.ref C_Run) "worths" = some none) (nf_Run_told : PySem.W.findIn K (.ref C_Run) "told" = some none) (nf_Run_end : PySem.W.findIn K (.ref C_Run) "end" = some none) (a0 : PySem.W.nsIn K mainGlobals "functions" = some (some (.ref f0))) (l0 : K.lookup f0 = some ⟨oc0, od0, .func (PySem.W.fnOf "functions" "functions" (defArgs s_functions) (defBody s_functions) (defScope s_functions) .none kV0 dc0 pm0 an0 cd0 ct0), sl0⟩) (c0 : PySem.W.codeIn K cd0 "functions" = true) (k0 : PySem.W.keepIn K (.ref f0) = true) (a1 : PySem.W.nsIn K mainGlobals "signed" = some (some (.ref f1))) (l1 : K.lookup f1 = some ⟨oc1, od1, .func (PySem.W.fnOf "signed" "signed" (defArgs s_signed) (defBody s_signed) (defScope s_signed) .none kV1 dc1 pm1 an1 cd1 ct1), sl1⟩) (c1 : PySem.W.codeIn K cd1 "signed" = true) (k1 : PySem.W.keepIn K (.ref f1) = true) (a2 : PySem.W.findIn K (.ref C_Work) "__init__" = some (some (.ref f2))) (l2 : K.lookup f2 = some ⟨oc2, od2, .func (PySem.W.fnOf "__init__" "Work.__init__" (defArgs s_Work___init__) (defBody s_Work___init__) (defScope s_Work___init__) .none kV2 dc2 pm2 an2 cd2 ct2), sl2⟩) (c2 : PySem.W.codeIn K cd2 "Work.__init__" = true) (k2 : PySem.W.keepIn K (.ref f2) = true) (i2 : PySem.W.isFn K (.ref f2) = true) (a3 : PySem.W.findIn K (.ref C_Work) "work" = some (some (.ref f3))) (l3 : K.lookup f3 = some ⟨oc3, od3, .func (PySem.W.fnOf "work" "Work.work" (defArgs s_Work_work) (defBody s_Work_work) (defScope s_Work_work) .none kV3 dc3 pm3 an3 cd3 ct3), sl3⟩) (c3 : PySem.W.codeIn K cd3 "Work.work" = true) (k3 : PySem.W.keepIn K (.ref f3) = true) (i3 : PySem.W.isFn K (.ref f3) = true) (a4 : PySem.W.findIn K (.ref C_Enter) "__init__" = some (some (.ref f4))) (l4 : K.lookup f4 = some ⟨oc4, od4, .func (PySem.W.fnOf "__init__" "Enter.__init__" (defArgs s_Enter___init__) (defBody s_Enter___init__) (defScope s_Enter___init__) .none kV4 dc4 pm4 an4 cd4 ct4), sl4⟩) (c4 : PySem.W.codeIn K cd4 "Enter.__init__" = true) (k4 : PySem.W.keepIn K (.ref f4) = true) (i4 : PySem.W.isFn K (.ref f4) = true) (a5 : PySem.W.findIn K (.ref C_Enter) "work" = some (some (.ref f5))) (l5 : K.lookup f5 = some ⟨oc5, od5, .func (PySem.W.fnOf "work" "Enter.work" (defArgs s_Enter_work) (defBody s_Enter_work) (defScope s_Enter_work) .none kV5 dc5 pm5 an5 cd5 ct5), sl5⟩) (c5 : PySem.W.codeIn K cd5 "Enter.work" = true) (k5 : PySem.W.keepIn K (.ref f5) = true) (i5 : PySem.W.isFn K (.ref f5) = true) (a6 : PySem.W.findIn K (.ref C_Sign) "__init__" = some (some (.ref f6))) (l6 : K.lookup f6 = some ⟨oc6, od6, .func (PySem.W.fnOf "__init__" "Sign.__init__" (defArgs s_Sign___init__) (defBody s_Sign___init__) (defScope s_Sign___init__) .none kV6 dc6 pm6 an6 cd6 ct6), sl6⟩) (c6 : PySem.W.codeIn K cd6 "Sign.__init__" = true) (k6 : PySem.W.keepIn K (.ref f6) = true) (i6 : PySem.W.isFn K (.ref f6) = true) (a7 : PySem.W.findIn K (.ref C_Sign) "work" = some (some (.ref f7))) (l7 : K.lookup f7 = some ⟨oc7, od7, .func (PySem.W.fnOf "work" "Sign.work" (defArgs s_Sign_work) (defBody s_Sign_work) (defScope s_Sign_work) .none kV7 dc7 pm7 an7 cd7 ct7), sl7⟩) (c7 : PySem.W.codeIn K cd7 "Sign.work" = true) (k7 : PySem.W.keepIn K (.ref f7) = true) (i7 : PySem.W.isFn K (.ref f7) = true) (a8 : PySem.W.findIn K (.ref C_Behind) "__init__" = some (some (.ref f8))) (l8 : K.lookup f8 = some ⟨oc8, od8, .func (PySem.W.fnOf "__init__" "Behind.__init__" (defArgs s_Behind___init__) (defBody s_Behind___init__) (defScope s_Behind___init__) .none kV8 dc8 pm8 an8 cd8 ct8), sl8⟩) (c8 : PySem.W.codeIn K cd8 "Behind.__init__" = true) (k8 : PySem.W.keepIn K (.ref f8) = true) (i8 : PySem.W.isFn K (.ref f8) = true) (a9 : PySem.W.findIn K (.ref C_Behind) "work" = some (some (.ref f9))) (l9 : K.lookup f9 = some ⟨oc9, od9, .func (PySem.W.fnOf "work" "Behind.work" (defArgs s_Behind_work) (defBody s_Behind_work) (defScope s_Behind_work) .none kV9 dc9 pm9 an9 cd9 ct9), sl9⟩) (c9 : PySem.W.codeIn K cd9 "Behind.work" = true) (k9 : PySem.W.keepIn K (.ref f9) = true) (i9 : PySem.W.isFn K (.ref f9) = true) (a10 : PySem.W.findIn K (.ref C_Begin) "__init__" = some (some (.ref f10))) (l10 : K.lookup f10 = some ⟨oc10, od10, .func (PySem.W.fnOf "__init__" "Begin.__init__" (defArgs s_Begin___init__) (defBody s_Begin___init__) (defScope s_Begin___init__) .none kV10 dc10 pm10 an10 cd10 ct10), sl10⟩) (c10 : PySem.W.codeIn K cd10 "Begin.__init__" = true) (k10 : PySem.W.keepIn K (.ref f10) = true) (i10 : PySem.W.isFn K (.ref f10) = true) (a11 : PySem.W.findIn K (.ref C_Begin) "work" = some (some (.ref f11))) (l11 : K.lookup f11 = some ⟨oc11, od11, .func (PySem.W.fnOf "work" "Begin.work" (defArgs s_Begin_work) (defBody s_Begin_work) (defScope s_Begin_work) .none kV11 dc11 pm11 an11 cd11 ct11), sl11⟩) (c11 : PySem.W.codeIn K cd11 "Begin.work" = true) (k11 : PySem.W.keepIn K (.ref f11) = true) (i11 : PySem.W.isFn K (.ref f11) = true) (a12 : PySem.W.findIn K (.ref C_Round) "__init__" = some (some (.ref f12))) (l12 : K.lookup f12 = some ⟨oc12, od12, .func (PySem.W.fnOf "__init__" "Round.__init__" (defArgs s_Round___init__) (defBody s_Round___init__) (defScope s_Round___init__) .none kV12 dc12 pm12 an12 cd12 ct12), sl12⟩) (c12 : PySem.W.codeIn K cd12 "Round.__init__" = true) (k12 : PySem.W.keepIn K (.ref f12) = true) (i12 : PySem.W.isFn K (.ref f12) = true) (a13 : PySem.W.findIn K (.ref C_Round) "work" = some (some (.ref f13))) (l13 : K.lookup f13 = some ⟨oc13, od13, .func (PySem.W.fnOf "work" "Round.work" (defArgs s_Round_work) (defBody s_Round_work) (defScope s_Round_work) .none kV13 dc13 pm13 an13 cd13 ct13), sl13⟩) (c13 : PySem.W.codeIn K cd13 "Round.work" = true) (k13 : PySem.W.keepIn K (.ref f13) = true) (i13 : PySem.W.isFn K (.ref f13) = true) (a14 : PySem.W.findIn K (.ref C_Run) "__init__" = some (some (.ref f14))) (l14 : K.lookup f14 = some ⟨oc14, od14, .func (PySem.W.fnOf "__init__" "Run.__init__" (defArgs s_Run___init__) (defBody s_Run___init__) (defScope s_Run___init__) .none kV14 dc14 pm14 an14 cd14 ct14), sl14⟩) (c14 : PySem.W.codeIn K cd14 "Run.__init__" = true) (k14 : PySem.W.keepIn K (.ref f14) = true) (i14 : PySem.W.isFn K (.ref f14) = true) (a15 : PySem.W.findIn K (.ref C_Run) "later" = some (some (.ref f15))) (l15 : K.lookup f15 = some ⟨oc15, od15, .func (PySem.W.fnOf "later" "Run.later" (defArgs s_Run_later) (defBody s_Run_later) (defScope s_Run_later) .none kV15 dc15 pm15 an15 cd15 ct15), sl15⟩) (c15 : PySem.W.codeIn K cd15 "Run.later" = true) (k15 : PySem.W.keepIn K (.ref f15) = true) (i15 : PySem.W.isFn K (.ref f15) = true) (a16 : PySem.W.findIn K (.ref C_Run) "finish" = some (some (.ref f16))) (l16 : K.lookup f16 = some ⟨oc16, od16, .func (PySem.W.fnOf "finish" "Run.finish" (defArgs s_Run_finish) (defBody s_Run_finish) (defScope s_Run_finish) .none kV16 dc16 pm16 an16 cd16 ct16), sl16⟩) (c16 : PySem.W.codeIn K cd16 "Run.finish" = true) (k16 : PySem.W.keepIn K (.ref f16) = true) (i16 : PySem.W.isFn K (.ref f16) = true) (a17 : PySem.W.findIn K (.ref C_Run) "ended" = some (some (.ref f17))) (l17 : K.lookup f17 = some ⟨oc17, od17, .func (PySem.W.fnOf "ended" "Run.ended" (defArgs s_Run_ended) (defBody s_Run_ended) (defScope s_Run_ended) .none kV17 dc17 pm17 an17 cd17 ct17), sl17⟩) (c17 : PySem.W.codeIn K cd17 "Run.ended" = true) (k17 : PySem.W.keepIn K (.ref f17) = true) (i17 : PySem.W.isFn K (.ref f17) = true) (a18 : PySem.W.nsIn K mainGlobals "run" = some (some (.ref f18))) (l18 : K.lookup f18 = some ⟨oc18, od18, .func (PySem.W.fnOf "run" "run" (defArgs s_run) (defBody s_run) (defScope s_run) .none kV18 dc18 pm18 an18 cd18 ct18), sl18⟩) (c18 : PySem.W.codeIn K cd18 "run" = true) (k18 : PySem.W.keepIn K (.ref f18) = true) (a19 : PySem.W.nsIn K mainGlobals "_law_cell" = some (some (.ref f19))) (l19 : K.lookup f19 = some ⟨oc19, od19, .func (PySem.W.fnOf "_law_cell" "_law_cell" (defArgs s__law_cell) (defBody s__law_cell) (defScope s__law_cell) .none kV19 dc19 pm19 an19 cd19 ct19), sl19⟩) (c19 : PySem.W.codeIn K cd19 "_law_cell" = true) (k19 : PySem.W.keepIn K (.ref f19) = true) (a20 : PySem.W.nsIn K mainGlobals "_law_deep" = some (some (.ref f20))) (l20 : K.lookup f20 = some ⟨oc20, od20, .func (PySem.W.fnOf "_law_deep" "_law_deep" (defArgs s__law_deep) (defBody s__law_deep) (defScope s__law_deep) .none kV20 dc20 pm20 an20 cd20 ct20), sl20⟩) (c20 : PySem.W.codeIn K cd20 "_law_deep" = true) (k20 : PySem.W.keepIn K (.ref f20) = true) (a21 : PySem.W.nsIn K mainGlobals "_law_functions" = some (some (.ref f21))) (l21 : K.lookup f21 = some ⟨oc21, od21, .func (PySem.W.fnOf "_law_functions" "_law_functions" (defArgs s__law_functions) (defBody s__law_functions) (defScope s__law_functions) .none kV21 dc21 pm21 an21 cd21 ct21), sl21⟩) (c21 : PySem.W.codeIn K cd21 "_law_functions" = true) (k21 : PySem.W.keepIn K (.ref f21) = true) (a22 : PySem.W.nsIn K mainGlobals "law" = some (some (.ref f22))) (l22 : K.lookup f22 = some ⟨oc22, od22, .func (PySem.W.fnOf "law" "law" (defArgs s_law) (defBody s_law) (defScope s_law) .none kV22 dc22 pm22 an22 cd22 ct22), sl22⟩) (c22 : PySem.W.codeIn K cd22 "law" = true) (k22 : PySem.W.keepIn K (.ref f22) = true) (z_int : PySem.W.nsIn K mainGlobals "int" = some none) (z_dict : PySem.W.nsIn K mainGlobals "dict" = some none) (z_zip : PySem.W.nsIn K mainGlobals "zip" = some none) (z_reversed : PySem.W.nsIn K mainGlobals "reversed" = some none) (z_len : PySem.W.nsIn K mainGlobals "len" = some none) (z_range : PySem.W.nsIn K mainGlobals "range" = some none) (z_list : PySem.W.nsIn K mainGlobals "list" = some none) (z_max : PySem.W.nsIn K mainGlobals "max" = some none) (z_sum : PySem.W.nsIn K mainGlobals "sum" = some none) (z_tuple : PySem.W.nsIn K mainGlobals "tuple" = some none) (z_min : PySem.W.nsIn K mainGlobals "min" = some none) (z_repr : PySem.W.nsIn K mainGlobals "repr" = some none) (g_MOST_ROUNDS : PySem.W.nsIn K mainGlobals "MOST_ROUNDS" = some (some (.int 1000 t_MOST_ROUNDS))) :
    ∃ fd : FuncData, (∀ (s : Shared) (v : Value), BindsTo s fd ⟨[v], []⟩ [("_law_script", v)]) ∧ ∀ base : Heap, K.In base → base.Ns mainGlobals mg → GOk l.prog w K mg base CX0 (lv lvl) fa fd ["_law_script"] (spD K W0 1 (sem lvl f_law)) := by
  have T : Top w K mg := top_mk X G (ca_Work := ca_Work) (cb_Work := cb_Work) (cc_Work := cc_Work) (cd_Work := cd_Work) (ce_Work := ce_Work) (cf_Work := cf_Work) (cg_Work := cg_Work) (nf_Work_tree := nf_Work_tree) (nf_Work_scope := nf_Work_scope) (ca_Enter := ca_Enter) (cb_Enter := cb_Enter) (cc_Enter := cc_Enter) (cd_Enter := cd_Enter) (ce_Enter := ce_Enter) (cf_Enter := cf_Enter) (cg_Enter := cg_Enter) (nf_Enter_tree := nf_Enter_tree) (ca_Sign := ca_Sign) (cb_Sign := cb_Sign) (cc_Sign := cc_Sign) (cd_Sign := cd_Sign) (ce_Sign := ce_Sign) (cf_Sign := cf_Sign) (cg_Sign := cg_Sign) (nf_Sign_sign := nf_Sign_sign) (ca_Behind := ca_Behind) (cb_Behind := cb_Behind) (cc_Behind := cc_Behind) (cd_Behind := cd_Behind) (ce_Behind := ce_Behind) (cf_Behind := cf_Behind) (cg_Behind := cg_Behind) (nf_Behind_tree := nf_Behind_tree) (nf_Behind_scope := nf_Behind_scope) (ca_Begin := ca_Begin) (cb_Begin := cb_Begin) (cc_Begin := cc_Begin) (cd_Begin := cd_Begin) (ce_Begin := ce_Begin) (cf_Begin := cf_Begin) (cg_Begin := cg_Begin) (nf_Begin_tree := nf_Begin_tree) (nf_Begin_scope := nf_Begin_scope) (ca_Round := ca_Round) (cb_Round := cb_Round) (cc_Round := cc_Round) (cd_Round := cd_Round) (ce_Round := ce_Round) (cf_Round := cf_Round) (cg_Round := cg_Round) (nf_Round_tree := nf_Round_tree) (nf_Round_scope := nf_Round_scope) (nf_Round_turn := nf_Round_turn) (nf_Round_turns := nf_Round_turns) (ca_Run := ca_Run) (cb_Run := cb_Run) (cc_Run := cc_Run) (cd_Run := cd_Run) (ce_Run := ce_Run) (cf_Run := cf_Run) (cg_Run := cg_Run) (nf_Run_rows := nf_Run_rows) (nf_Run_deeds := nf_Run_deeds) (nf_Run_worths := nf_Run_worths) (nf_Run_told := nf_Run_told) (nf_Run_end := nf_Run_end) (a0 := a0) (l0 := l0) (c0 := c0) (k0 := k0) (a1 := a1) (l1 := l1) (c1 := c1) (k1 := k1) (a2 := a2) (l2 := l2) (c2 := c2) (k2 := k2) (i2 := i2) (a3 := a3) (l3 := l3) (c3 := c3) (k3 := k3) (i3 := i3) (a4 := a4) (l4 := l4) (c4 := c4) (k4 := k4) (i4 := i4) (a5 := a5) (l5 := l5) (c5 := c5) (k5 := k5) (i5 := i5) (a6 := a6) (l6 := l6) (c6 := c6) (k6 := k6) (i6 := i6) (a7 := a7) (l7 := l7) (c7 := c7) (k7 := k7) (i7 := i7) (a8 := a8) (l8 := l8) (c8 := c8) (k8 := k8) (i8 := i8) (a9 := a9) (l9 := l9) (c9 := c9) (k9 := k9) (i9 := i9) (a10 := a10) (l10 := l10) (c10 := c10) (k10 := k10) (i10 := i10) (a11 := a11) (l11 := l11) (c11 := c11) (k11 := k11) (i11 := i11) (a12 := a12) (l12 := l12) (c12 := c12) (k12 := k12) (i12 := i12) (a13 := a13) (l13 := l13) (c13 := c13) (k13 := k13) (i13 := i13) (a14 := a14) (l14 := l14) (c14 := c14) (k14 := k14) (i14 := i14) (a15 := a15) (l15 := l15) (c15 := c15) (k15 := k15) (i15 := i15) (a16 := a16) (l16 := l16) (c16 := c16) (k16 := k16) (i16 := i16) (a17 := a17) (l17 := l17) (c17 := c17) (k17 := k17) (i17 := i17) (a18 := a18) (l18 := l18) (c18 := c18) (k18 := k18) (a19 := a19) (l19 := l19) (c19 := c19) (k19 := k19) (a20 := a20) (l20 := l20) (c20 := c20) (k20 := k20) (a21 := a21) (l21 := l21) (c21 := c21) (k21 := k21) (a22 := a22) (l22 := l22) (c22 := c22) (k22 := k22) (z_int := z_int) (z_dict := z_dict) (z_zip := z_zip) (z_reversed := z_reversed) (z_len := z_len) (z_range := z_range) (z_list := z_list) (z_max := z_max) (z_sum := z_sum) (z_tuple := z_tuple) (z_min := z_min) (z_repr := z_repr) (g_MOST_ROUNDS := g_MOST_ROUNDS)
  have e : fa = T.a_law := PySem.Value.ref.inj (Option.some.inj (hfa.symm.trans T.m_law))
  subst e
  exact ⟨T.d_law, T.bb_law, fun base _ _ => (oks T lvl).i_law⟩
end K15
namespace K15
open PySem L2 TP
set_option maxHeartbeats 4000000
/-! ### fields, tables -/
abbrev EV := List (Key × D)
abbrev RT := List (List Key × D)
def wkF (t : D) (s : Nat) : List (Str × D) := [("tree", t), ("scope", .ref s)]
def rdF (t : D) (s : Nat) (a b : Int) : List (Str × D) := [("tree", t), ("scope", .ref s), ("turn", .int a), ("turns", .int b)]
def enF (t : D) : List (Str × D) := [("tree", t)]
def sgF (t : Str) : List (Str × D) := [("sign", .str t)]
def rnF (r : Nat) (e : D) : List (Str × D) := [("rows", .ref (r + 1)), ("deeds", .ref (r + 2)), ("worths", .ref (r + 3)), ("told", .ref (r + 4)), ("end", e)]
section
variable (t e : D) (s r : Nat) (a b : Int) (x : Str)
@[simp] theorem wk_tree : (wkF t s).lookup ("tree" : Str) = some t := rfl
@[simp] theorem wk_scope : (wkF t s).lookup ("scope" : Str) = some (.ref s) := rfl
@[simp] theorem wk_work : (wkF t s).lookup ("work" : Str) = none := rfl
@[simp] theorem rd_tree : (rdF t s a b).lookup ("tree" : Str) = some t := rfl
@[simp] theorem rd_scope : (rdF t s a b).lookup ("scope" : Str) = some (.ref s) := rfl
@[simp] theorem rd_turn : (rdF t s a b).lookup ("turn" : Str) = some (.int a) := rfl
@[simp] theorem rd_turns : (rdF t s a b).lookup ("turns" : Str) = some (.int b) := rfl
@[simp] theorem rd_work : (rdF t s a b).lookup ("work" : Str) = none := rfl
@[simp] theorem en_tree : (enF t).lookup ("tree" : Str) = some t := rfl
@[simp] theorem en_work : (enF t).lookup ("work" : Str) = none := rfl
@[simp] theorem sg_sign : (sgF x).lookup ("sign" : Str) = some (.str x) := rfl
@[simp] theorem sg_work : (sgF x).lookup ("work" : Str) = none := rfl
@[simp] theorem rn_rows : (rnF r e).lookup ("rows" : Str) = some (.ref (r + 1)) := rfl
@[simp] theorem rn_deeds : (rnF r e).lookup ("deeds" : Str) = some (.ref (r + 2)) := rfl
@[simp] theorem rn_worths : (rnF r e).lookup ("worths" : Str) = some (.ref (r + 3)) := rfl
@[simp] theorem rn_told : (rnF r e).lookup ("told" : Str) = some (.ref (r + 4)) := rfl
@[simp] theorem rn_end : (rnF r e).lookup ("end" : Str) = some e := rfl
@[simp] theorem rn_later : (rnF r e).lookup ("later" : Str) = none := rfl
@[simp] theorem rn_finish : (rnF r e).lookup ("finish" : Str) = none := rfl
@[simp] theorem rn_ended : (rnF r e).lookup ("ended" : Str) = none := rfl
theorem rn_put (e' : D) : putFd "end" e' (rnF r e) = rnF r e' := rfl
@[simp] theorem rn_len : (rnF r e).length = 5 := rfl
@[simp] theorem tab_later : List.lookup ("Run" : Str) [("Run", f_Run_later)] = some f_Run_later := rfl
@[simp] theorem tab_finish : List.lookup ("Run" : Str) [("Run", f_Run_finish)] = some f_Run_finish := rfl
@[simp] theorem tab_ended : List.lookup ("Run" : Str) [("Run", f_Run_ended)] = some f_Run_ended := rfl
end
theorem work_init (K : Nat) (M : Store) (t : D) (s : Nat) : sem (K + 1) f_Work___init__ [.ref M.length, t, .ref s] (M ++ [.ins "Work" []]) = .ok (.val .non) (M ++ [.ins "Work" (wkF t s)]) := by
  have p1 : putFd "tree" t [] = [(("tree" : Str), t)] := rfl
  have p2 : putFd "scope" (.ref s) [(("tree" : Str), t)] = wkF t s := rfl
  rw [e_Work___init__]
  simp [runF, m_Work___init__, startD, at_end, set_end, p1, p2]
theorem behind_init (K : Nat) (M : Store) (t : D) (s : Nat) : sem (K + 1) f_Behind___init__ [.ref M.length, t, .ref s] (M ++ [.ins "Behind" []]) = .ok (.val .non) (M ++ [.ins "Behind" (wkF t s)]) := by
  have p1 : putFd "tree" t [] = [(("tree" : Str), t)] := rfl
  have p2 : putFd "scope" (.ref s) [(("tree" : Str), t)] = wkF t s := rfl
  rw [e_Behind___init__]
  simp [runF, m_Behind___init__, startD, at_end, set_end, p1, p2]
theorem begin_init (K : Nat) (M : Store) (t : D) (s : Nat) : sem (K + 1) f_Begin___init__ [.ref M.length, t, .ref s] (M ++ [.ins "Begin" []]) = .ok (.val .non) (M ++ [.ins "Begin" (wkF t s)]) := by
  have p1 : putFd "tree" t [] = [(("tree" : Str), t)] := rfl
  have p2 : putFd "scope" (.ref s) [(("tree" : Str), t)] = wkF t s := rfl
  rw [e_Begin___init__]
  simp [runF, m_Begin___init__, startD, at_end, set_end, p1, p2]
theorem enter_init (K : Nat) (M : Store) (t : D) : sem (K + 1) f_Enter___init__ [.ref M.length, t] (M ++ [.ins "Enter" []]) = .ok (.val .non) (M ++ [.ins "Enter" (enF t)]) := by
  have p1 : putFd "tree" t [] = enF t := rfl
  rw [e_Enter___init__]
  simp [runF, m_Enter___init__, startD, at_end, set_end, p1]
theorem sign_init (K : Nat) (M : Store) (x : Str) : sem (K + 1) f_Sign___init__ [.ref M.length, .str x] (M ++ [.ins "Sign" []]) = .ok (.val .non) (M ++ [.ins "Sign" (sgF x)]) := by
  have p1 : putFd "sign" (.str x) [] = sgF x := rfl
  rw [e_Sign___init__]
  simp [runF, m_Sign___init__, startD, at_end, set_end, p1]
theorem round_init (K : Nat) (M : Store) (t : D) (s : Nat) (a b : Int) : sem (K + 1) f_Round___init__ [.ref M.length, t, .ref s, .int a, .int b] (M ++ [.ins "Round" []]) = .ok (.val .non) (M ++ [.ins "Round" (rdF t s a b)]) := by
  have p1 : putFd "tree" t [] = [(("tree" : Str), t)] := rfl
  have p2 : putFd "scope" (.ref s) [(("tree" : Str), t)] = [(("tree" : Str), t), (("scope" : Str), .ref s)] := rfl
  have p3 : putFd "turn" (.int a) [(("tree" : Str), t), (("scope" : Str), .ref s)] = [(("tree" : Str), t), (("scope" : Str), .ref s), (("turn" : Str), .int a)] := rfl
  have p4 : putFd "turns" (.int b) [(("tree" : Str), t), (("scope" : Str), .ref s), (("turn" : Str), .int a)] = rdF t s a b := rfl
  rw [e_Round___init__]
  simp [runF, m_Round___init__, startD, at_end, set_end, p1, p2, p3, p4]
/-! ### the run's state -/
structure RS (r : Nat) (rows : RT) (ds : List D) (W T : List Int) (e : D) (M : Store) : Prop where
  run : M[r]? = some (.ins "Run" (rnF r e))
  rows : M[r + 1]? = some (.dT rows)
  deeds : M[r + 2]? = some (.lst ds)
  worths : M[r + 3]? = some (.lst (W.map .int))
  told : M[r + 4]? = some (.lst (T.map .int))
theorem get_ne {M : Store} {i j : Nat} {o : MO} (h : i ≠ j) : (M.set i o)[j]? = M[j]? := List.getElem?_set_ne h
section
variable {r : Nat} {rows : RT} {ds : List D} {W T : List Int} {e : D} {M : Store}
theorem RS.len (h : RS r rows ds W T e M) : r + 4 < M.length := (List.getElem?_eq_some_iff.mp h.told).1
theorem RS.setD (h : RS r rows ds W T e M) (ds' : List D) : RS r rows ds' W T e (M.set (r + 2) (.lst ds')) :=
  ⟨by rw [get_ne (by omega)]; exact h.run, by rw [get_ne (by omega)]; exact h.rows, get_set h.deeds, by rw [get_ne (by omega)]; exact h.worths, by rw [get_ne (by omega)]; exact h.told⟩
theorem RS.setW (h : RS r rows ds W T e M) (W' : List Int) : RS r rows ds W' T e (M.set (r + 3) (.lst (W'.map .int))) :=
  ⟨by rw [get_ne (by omega)]; exact h.run, by rw [get_ne (by omega)]; exact h.rows, by rw [get_ne (by omega)]; exact h.deeds, get_set h.worths, by rw [get_ne (by omega)]; exact h.told⟩
theorem RS.setT (h : RS r rows ds W T e M) (T' : List Int) : RS r rows ds W T' e (M.set (r + 4) (.lst (T'.map .int))) :=
  ⟨by rw [get_ne (by omega)]; exact h.run, by rw [get_ne (by omega)]; exact h.rows, by rw [get_ne (by omega)]; exact h.deeds, by rw [get_ne (by omega)]; exact h.worths, get_set h.told⟩
theorem RS.setE (h : RS r rows ds W T e M) (e' : D) : RS r rows ds W T e' (M.set r (.ins "Run" (rnF r e'))) :=
  ⟨get_set h.run, by rw [get_ne (by omega)]; exact h.rows, by rw [get_ne (by omega)]; exact h.deeds, by rw [get_ne (by omega)]; exact h.worths, by rw [get_ne (by omega)]; exact h.told⟩
theorem RS.app (h : RS r rows ds W T e M) (X : Store) : RS r rows ds W T e (M ++ X) := ⟨get_app h.run, get_app h.rows, get_app h.deeds, get_app h.worths, get_app h.told⟩
end
/-- all else stays -/
structure Pres (r : Nat) (M M' : Store) : Prop where
  len : M.length ≤ M'.length
  at_ : ∀ i, i < M.length → (i < r ∨ r + 5 ≤ i) → M'[i]? = M[i]?
theorem Pres.refl (r : Nat) (M : Store) : Pres r M M := ⟨Nat.le_refl _, fun _ _ _ => rfl⟩
theorem Pres.trans {r : Nat} {M M1 M2 : Store} (a : Pres r M M1) (b : Pres r M1 M2) : Pres r M M2 :=
  ⟨Nat.le_trans a.len b.len, fun i h1 h2 => (b.at_ i (Nat.lt_of_lt_of_le h1 a.len) h2).trans (a.at_ i h1 h2)⟩
theorem Pres.set {r : Nat} {M : Store} {j : Nat} {o : MO} (h1 : r ≤ j) (h2 : j < r + 5) : Pres r M (M.set j o) :=
  ⟨by rw [List.length_set]; exact Nat.le_refl _, fun i _ hi => get_ne (by omega)⟩
theorem Pres.app {r : Nat} {M : Store} (X : Store) : Pres r M (M ++ X) := ⟨by rw [List.length_append]; omega, fun i h _ => List.getElem?_append_left h⟩
theorem Pres.get {r : Nat} {M M' : Store} (p : Pres r M M') {i : Nat} {o : MO} (hi : r + 5 ≤ i) (h : M[i]? = some o) : M'[i]? = some o :=
  (p.at_ i (List.getElem?_eq_some_iff.mp h).1 (.inr hi)).trans h
/-- the expressions that are to be worked out, put as deeds -/
def wkL (s : Nat) (xs : List D) : Store := xs.map fun x => .ins "Work" (wkF x s)
def rfL (n : Nat) : List D → List D
  | [] => []
  | _ :: xs => .ref n :: rfL (n + 1) xs
theorem rfL_len : ∀ (xs : List D) (n : Nat), (rfL n xs).length = xs.length
  | [], _ => rfl
  | _ :: xs, n => by rw [rfL, List.length_cons, rfL_len xs, List.length_cons]
theorem set_app_lt {M X : Store} {j : Nat} {o : MO} (h : j < M.length) : (M ++ X).set j o = M.set j o ++ X := set_app h
theorem later_go (K : Nat) (r : Nat) (rows : RT) (s : Nat) (b : Slot) (es : Slot) : ∀ (xs : List D) (ds : List D) (W T : List Int) (e : D) (M : Store) (s4 : Slot), RS r rows ds W T e M → ds.length + xs.length ≤ 15000000 →
    ∃ s4', forGo (bName 4) (lp_Run_later_0 (sem (K + 1))) xs [.val (.ref r), b, es, .val (.ref s), s4] M = .next [.val (.ref r), b, es, .val (.ref s), s4'] ((M ++ wkL s xs).set (r + 2) (.lst (ds ++ rfL M.length xs)))
  | [], ds, W, T, e, M, s4, h, _ => ⟨s4, by
    have hl := h.len
    have : (M ++ wkL s []).set (r + 2) (.lst (ds ++ rfL M.length [])) = M := by
      rw [show wkL s [] = [] from rfl, rfL, List.append_nil, List.append_nil]
      exact set_self h.deeds
    rw [this]
    rfl⟩
  | x :: xs, ds, W, T, e, M, s4, h, hz => by
    rw [List.length_cons] at hz
    have hl := h.len
    have h1 : RS r rows ds W T e (M ++ [.ins "Work" (wkF x s)]) := h.app _
    have h2 : RS r rows (ds ++ [.ref M.length]) W T e ((M ++ [MO.ins "Work" (wkF x s)]).set (r + 2) (.lst (ds ++ [D.ref M.length]))) := h1.setD _
    obtain ⟨t4, ih⟩ := later_go K r rows s b es xs (ds ++ [.ref M.length]) W T e _ (.val x) h2 (by rw [List.length_append, List.length_singleton]; omega)
    refine ⟨t4, ?_⟩
    unfold forGo
    have hi := work_init K M x s
    have hz2 : ds.length < 16777216 := by omega
    have hstep : lp_Run_later_0 (sem (K + 1)) [.val (.ref r), b, es, .val (.ref s), .val x] M = .next [.val (.ref r), b, es, .val (.ref s), .val x] ((M ++ [MO.ins "Work" (wkF x s)]).set (r + 2) (.lst (ds ++ [D.ref M.length]))) := by
      rw [lp_Run_later_0_eq]
      simp [h.run, h.deeds, hi, h1.run, h1.deeds, hz2]
    simp [hstep]
    rw [ih]
    have e1 : ((M ++ [MO.ins "Work" (wkF x s)]).set (r + 2) (.lst (ds ++ [.ref M.length]))).length = M.length + 1 := by rw [List.length_set, List.length_append]; rfl
    have e2 : (M ++ wkL s (x :: xs)) = M ++ [.ins "Work" (wkF x s)] ++ wkL s xs := by rw [List.append_assoc]; rfl
    rw [e1, e2, rfL, set_app_lt (by rw [List.length_set, List.length_append]; omega), set_set, set_app_lt (X := wkL s xs) (by rw [List.length_append]; omega), List.append_assoc]
    rfl
end K15
namespace K15
open PySem L2 TP
set_option maxHeartbeats 4000000
def bhL : D → List D
  | .non => []
  | b => [b]
theorem later_ok (K : Nat) {r : Nat} {rows : RT} {ds : List D} {W T : List Int} {e : D} {M : Store} (h : RS r rows ds W T e M) (b : D) (hb : b = .non ∨ ∃ q, b = .ref q) (xs : List D) (s : Nat) (hz : ds.length + xs.length ≤ 14000000) :
    sem (K + 2) f_Run_later [.ref r, b, .tup xs, .ref s] M = .ok (.val .non) ((M ++ wkL s xs.reverse).set (r + 2) (.lst (ds ++ bhL b ++ rfL M.length xs.reverse))) := by
  rw [e_Run_later]
  rcases hb with rfl | ⟨q, rfl⟩
  · obtain ⟨s4, hg⟩ := later_go K r rows s (.val .non) (.val (.tup xs)) xs.reverse ds W T e M .un h (by rw [List.length_reverse]; omega)
    have hn : ∀ N, isntD N .non .non = some (.val (.bl false)) := fun _ => rfl
    have : bhL .non = [] := rfl
    rw [this, List.append_nil]
    simp [runF, m_Run_later, startD, hn, hg]
  · have h1 := h.setD (ds ++ [.ref q])
    obtain ⟨s4, hg⟩ := later_go K r rows s (.val (.ref q)) (.val (.tup xs)) xs.reverse (ds ++ [.ref q]) W T e _ .un h1 (by rw [List.length_reverse, List.length_append, List.length_singleton]; omega)
    have hn : ∀ N, isntD N (.ref q) .non = some (.val (.bl true)) := fun _ => rfl
    have hz2 : ds.length < 16777216 := by omega
    have hl := h.len
    rw [List.length_set, set_app_lt (by rw [List.length_set]; omega), set_set] at hg
    rw [set_app_lt (by omega)]
    have : bhL (.ref q) = [.ref q] := rfl
    rw [this]
    simp [-List.append_assoc, runF, m_Run_later, startD, hn, h.run, h.deeds, hz2, hg]
theorem finish_ok (K : Nat) {r : Nat} {rows : RT} {ds : List D} {W T : List Int} {e : D} {M : Store} (h : RS r rows ds W T e M) (e' : D) : sem (K + 1) f_Run_finish [.ref r, e'] M = .ok (.val .non) (M.set r (.ins "Run" (rnF r e'))) := by
  rw [e_Run_finish]
  simp [runF, m_Run_finish, startD, h.run, rn_put]
/-! ### one turn -/
def L (K r n : Nat) (M : Store) : Out := whGo (wc_Run_ended_0 (sem K)) (wh_Run_ended_0 (sem K)) n [.val (.ref r)] M
def wkTab : List (Str × Nat) := [("Work", f_Work_work), ("Enter", f_Enter_work), ("Sign", f_Sign_work), ("Behind", f_Behind_work), ("Begin", f_Begin_work), ("Round", f_Round_work)]
theorem L_step {K r n : Nat} {rows : RT} {ds : List D} {W T : List Int} {d : Nat} {M M' : Store} {c : Str} {fds : List (Str × D)} {i : Nat} {x : D} (h : RS r rows (ds ++ [.ref d]) W T .non M) (hd5 : r + 5 ≤ d) (hd : M[d]? = some (.ins c fds)) (hl : fds.lookup ("work" : Str) = none) (ht : wkTab.lookup c = some i)
    (hw : sem K i [.ref d, .ref r] (M.set (r + 2) (.lst ds)) = .ok (.val x) M') : L K r (n + 1) M = L K r n M' := by
  have hd2 : (M.set (r + 2) (.lst ds))[d]? = some (.ins c fds) := by rw [get_ne (by omega)]; exact hd
  have hi : ∀ N, isD N .non .non = some (.val (.bl true)) := fun _ => rfl
  have hn : neLD M (.ref (r + 2)) (.lst []) = some (.val (.bl true)) := by simp [neLD, lstOf, h.deeds]
  have ht' : List.lookup c [(("Work" : Str), f_Work_work), ("Enter", f_Enter_work), ("Sign", f_Sign_work), ("Behind", f_Behind_work), ("Begin", f_Begin_work), ("Round", f_Round_work)] = some i := ht
  have hc : wc_Run_ended_0 (sem K) [.val (.ref r)] M = .ok true M := by
    rw [wc_Run_ended_0_eq]
    simp [h.run, hi, hn]
  have hb : wh_Run_ended_0 (sem K) [.val (.ref r)] M = .next [.val (.ref r)] M' := by
    rw [wh_Run_ended_0_eq]
    simp [h.run, h.deeds, hd2, hl, ht', hw]
  unfold L
  rw [whGo, hc]
  simp only
  rw [hb]
/-- an expression that waits -/
structure At (r : Nat) (M : Store) (d : Nat) (e : Ex) (k : EV) : Prop where
  ex : ∃ s, r + 5 ≤ d ∧ r + 5 ≤ s ∧ M[d]? = some (.ins "Work" (wkF e.toD s)) ∧ M[s]? = some (.dK k)
theorem At.pres {r : Nat} {M M' : Store} {d : Nat} {e : Ex} {k : EV} (a : At r M d e k) (p : Pres r M M') : At r M' d e k := by
  obtain ⟨s, h1, h2, h3, h4⟩ := a.ex
  exact ⟨s, h1, h2, p.get h1 h3, p.get h2 h4⟩
inductive Res where
  | val (v : Int) | fin (e : D)
def Post (r : Nat) (rows : RT) (ds : List D) (W T : List Int) (M : Store) : Res → Prop
  | .val v => RS r rows ds (W ++ [v]) T .non M
  | .fin e => e ≠ .non ∧ ∃ ds' W', RS r rows ds' W' T e M
/-- what comes of an expression: what it tells, its value or the run's end; in so many turns -/
structure Runs (K : Nat) (rows : RT) (k : EV) (e : Ex) (t : List Int) (res : Res) (st : Nat) : Prop where
  len : t.length + 1 ≤ st
  go : ∀ (r n : Nat) (M : Store) (ds : List D) (W T : List Int) (d : Nat), RS r rows (ds ++ [.ref d]) W T .non M → At r M d e k →
  ds.length + 8 * st ≤ 10000000 → W.length + 8 * st ≤ 10000000 → T.length + 8 * st ≤ 10000000 → ∃ M', L K r (n + st) M = L K r n M' ∧ Pres r M M' ∧ Post r rows ds W (T ++ t) M' res
theorem runs_num (K : Nat) (rows : RT) (k : EV) (v : Int) : Runs (K + 1) rows k (.num v) [] (.val v) 1 := by
  refine ⟨Nat.le_refl _, fun r n M ds W T d h a hz1 hz2 hz3 => ?_⟩
  obtain ⟨s, h1, h2, h3, h4⟩ := a.ex
  have hs := h.setD ds
  have hd2 : (M.set (r + 2) (.lst ds))[d]? = some (.ins "Work" (wkF (Ex.num v).toD s)) := by rw [get_ne (by omega)]; exact h3
  have hW : W.length < 16777216 := by omega
  have hw : sem (K + 1) f_Work_work [.ref d, .ref r] (M.set (r + 2) (.lst ds)) = .ok (.val .non) ((M.set (r + 2) (.lst ds)).set (r + 3) (.lst ((W ++ [v]).map .int))) := by
    rw [e_Work_work]
    rw [Ex.toD] at hd2
    simp [runF, m_Work_work, startD, hd2, hs.run, hs.worths, hW]
  refine ⟨_, L_step h h1 h3 (wk_work _ _) rfl hw, (Pres.set (by omega) (by omega)).trans (Pres.set (by omega) (by omega)), ?_⟩
  rw [List.append_nil]
  exact hs.setW _
theorem runs_use (K : Nat) (rows : RT) (k : EV) (x : Str) (v : Int) (hv : lookD k (.inr x) = some (.int v)) : Runs (K + 1) rows k (.use x) [] (.val v) 1 := by
  refine ⟨Nat.le_refl _, fun r n M ds W T d h a hz1 hz2 hz3 => ?_⟩
  obtain ⟨s, h1, h2, h3, h4⟩ := a.ex
  have hs := h.setD ds
  have hd2 : (M.set (r + 2) (.lst ds))[d]? = some (.ins "Work" (wkF (Ex.use x).toD s)) := by rw [get_ne (by omega)]; exact h3
  have hs2 : (M.set (r + 2) (.lst ds))[s]? = some (.dK k) := by rw [get_ne (by omega)]; exact h4
  have hg : dgetD (M.set (r + 2) (.lst ds)) (.ref s) (.str x) = some (.val (.int v)) := by simp [dgetD, dGetO, hs2, keyD, hv]
  have hW : W.length < 16777216 := by omega
  have hw : sem (K + 1) f_Work_work [.ref d, .ref r] (M.set (r + 2) (.lst ds)) = .ok (.val .non) ((M.set (r + 2) (.lst ds)).set (r + 3) (.lst ((W ++ [v]).map .int))) := by
    rw [e_Work_work]
    rw [Ex.toD] at hd2
    simp [runF, m_Work_work, startD, hd2, hs.run, hs.worths, hW, hg]
  refine ⟨_, L_step h h1 h3 (wk_work _ _) rfl hw, (Pres.set (by omega) (by omega)).trans (Pres.set (by omega) (by omega)), ?_⟩
  rw [List.append_nil]
  exact hs.setW _
end K15
namespace K15
open PySem L2 TP
set_option maxHeartbeats 4000000
theorem get_push {A B : Store} {i j : Nat} {x o : MO} (hi : i < A.length) (h : B[j]? = some o) : ((A ++ B).set i x)[A.length + j]? = some o := by
  rw [get_ne (by omega), List.getElem?_append_right (by omega), Nat.add_sub_cancel_left]
  exact h
/-- what stands behind the first turn of an expression with parts -/
theorem first_gen {K r n : Nat} {rows : RT} {ds : List D} {W T : List Int} {d s : Nat} {M : Store} {t : D} {o : MO} {xs : List D} (h : RS r rows (ds ++ [.ref d]) W T .non M) (h1 : r + 5 ≤ d) (h3 : M[d]? = some (.ins "Work" (wkF t s)))
    (hw : sem K f_Work_work [.ref d, .ref r] (M.set (r + 2) (.lst ds)) = .ok (.val .non) ((M.set (r + 2) (.lst ds) ++ (o :: wkL s xs.reverse)).set (r + 2) (.lst (ds ++ [.ref M.length] ++ rfL (M.length + 1) xs.reverse)))) :
    ∃ M', L K r (n + 1) M = L K r n M' ∧ Pres r M M' ∧ RS r rows (ds ++ [.ref M.length] ++ rfL (M.length + 1) xs.reverse) W T .non M' ∧ M'[M.length]? = some o ∧ ∀ (j : Nat) (x : D), xs.reverse[j]? = some x → M'[M.length + 1 + j]? = some (.ins "Work" (wkF x s)) := by
  have hl := h.len
  have hs := h.setD ds
  have hlen : (M.set (r + 2) (.lst ds)).length = M.length := List.length_set
  refine ⟨_, L_step h h1 h3 (wk_work _ _) rfl hw, ((Pres.set (by omega) (by omega)).trans (Pres.app _)).trans (Pres.set (by omega) (by omega)), (hs.app _).setD _, ?_, fun j x hx => ?_⟩
  · have := get_push (A := M.set (r + 2) (.lst ds)) (B := o :: wkL s xs.reverse) (i := r + 2) (j := 0) (x := .lst (ds ++ [.ref M.length] ++ rfL (M.length + 1) xs.reverse)) (by omega) rfl
    rw [hlen] at this
    exact this
  · have := get_push (A := M.set (r + 2) (.lst ds)) (B := o :: wkL s xs.reverse) (i := r + 2) (j := j + 1) (x := .lst (ds ++ [.ref M.length] ++ rfL (M.length + 1) xs.reverse)) (o := .ins "Work" (wkF x s)) (by omega) (by
      rw [List.getElem?_cons_succ]
      unfold wkL
      rw [List.getElem?_map, hx]
      rfl)
    rw [hlen] at this
    rw [show M.length + 1 + j = M.length + (j + 1) by omega]
    exact this
section
variable {K r : Nat} {rows : RT} {ds : List D} {W T : List Int} {d s : Nat} {M : Store} {e0 : D}
theorem work_op (h : RS r rows ds W T e0 M) (sg : Str) (a b : D) (hd : M[d]? = some (.ins "Work" (wkF (.tup [.str "op", .str sg, a, b]) s))) (hz : ds.length ≤ 10000000) :
    sem (K + 3) f_Work_work [.ref d, .ref r] M = .ok (.val .non) ((M ++ (.ins "Sign" (sgF sg) :: wkL s [a, b].reverse)).set (r + 2) (.lst (ds ++ [.ref M.length] ++ rfL (M.length + 1) [a, b].reverse))) := by
  have hl := later_ok K (h.app [.ins "Sign" (sgF sg)]) (.ref M.length) (.inr ⟨_, rfl⟩) [a, b] s (by show ds.length + 2 ≤ _; omega)
  have hsl : slD (M ++ [.ins "Sign" (sgF sg)]) (.tup [.str "op", .str sg, a, b]) (some 2) none = some (.val (.tup [a, b])) := rfl
  have hi := sign_init (K + 1) M sg
  have hd1 : (M ++ [MO.ins "Sign" (sgF sg)])[d]? = some (.ins "Work" (wkF (.tup [.str "op", .str sg, a, b]) s)) := get_app hd
  have e1 : (M ++ [MO.ins "Sign" (sgF sg)]).length = M.length + 1 := by rw [List.length_append]; rfl
  have e2 : bhL (.ref M.length) = [.ref M.length] := rfl
  rw [e1, e2, List.append_assoc M] at hl
  rw [e_Work_work]
  simp only [List.singleton_append] at hl
  simp [-List.append_assoc, runF, m_Work_work, startD, hd, h.run, hi, hsl, hd1, hl]
theorem work_behind (h : RS r rows ds W T e0 M) (t : D) (w : Str) (a : D) (hw1 : ∀ N, idxD N t (.int 0) = some (.val (.str w))) (hw : w = "let" ∨ w = "if" ∨ w = "tell" ∨ w = "stop") (ha : ∀ N, idxD N t (.int (if w = "let" then 2 else 1)) = some (.val a)) (hd : M[d]? = some (.ins "Work" (wkF t s))) (hz : ds.length ≤ 10000000) :
    sem (K + 3) f_Work_work [.ref d, .ref r] M = .ok (.val .non) ((M ++ (.ins "Behind" (wkF t s) :: wkL s [a].reverse)).set (r + 2) (.lst (ds ++ [.ref M.length] ++ rfL (M.length + 1) [a].reverse))) := by
  have hl := later_ok K (h.app [.ins "Behind" (wkF t s)]) (.ref M.length) (.inr ⟨_, rfl⟩) [a] s (by show ds.length + 1 ≤ _; omega)
  have hi := behind_init (K + 1) M t s
  have hd1 : (M ++ [MO.ins "Behind" (wkF t s)])[d]? = some (.ins "Work" (wkF t s)) := get_app hd
  have e1 : (M ++ [MO.ins "Behind" (wkF t s)]).length = M.length + 1 := by rw [List.length_append]; rfl
  have e2 : bhL (.ref M.length) = [.ref M.length] := rfl
  rw [e1, e2, List.append_assoc M] at hl
  rw [e_Work_work]
  simp only [List.singleton_append] at hl
  have k1 : (("if" : Str) = "let") = False := by decide +kernel
  have k2 : (("tell" : Str) = "let") = False := by decide +kernel
  have k3 : (("stop" : Str) = "let") = False := by decide +kernel
  rcases hw with rfl | rfl | rfl | rfl
  · simp at ha
    simp [-List.append_assoc, runF, m_Work_work, startD, hd, h.run, hi, hd1, hw1, ha, hl]
  · simp only [k1, if_false] at ha
    simp [-List.append_assoc, runF, m_Work_work, startD, hd, h.run, hi, hd1, hw1, ha, hl]
  · simp only [k2, if_false] at ha
    simp [-List.append_assoc, runF, m_Work_work, startD, hd, h.run, hi, hd1, hw1, ha, hl]
  · simp only [k3, if_false] at ha
    simp [-List.append_assoc, runF, m_Work_work, startD, hd, h.run, hi, hd1, hw1, ha, hl]
theorem work_times (h : RS r rows ds W T e0 M) (a i x b c : D) (hd : M[d]? = some (.ins "Work" (wkF (.tup [.str "times", a, i, x, b, c]) s))) (hz : ds.length ≤ 10000000) :
    sem (K + 3) f_Work_work [.ref d, .ref r] M = .ok (.val .non) ((M ++ (.ins "Begin" (wkF (.tup [.str "times", a, i, x, b, c]) s) :: wkL s [a, b].reverse)).set (r + 2) (.lst (ds ++ [.ref M.length] ++ rfL (M.length + 1) [a, b].reverse))) := by
  have hl := later_ok K (h.app [.ins "Begin" (wkF (.tup [.str "times", a, i, x, b, c]) s)]) (.ref M.length) (.inr ⟨_, rfl⟩) [a, b] s (by show ds.length + 2 ≤ _; omega)
  have hi := begin_init (K + 1) M (.tup [.str "times", a, i, x, b, c]) s
  have hd1 : (M ++ [MO.ins "Begin" (wkF (.tup [.str "times", a, i, x, b, c]) s)])[d]? = some (.ins "Work" (wkF (.tup [.str "times", a, i, x, b, c]) s)) := get_app hd
  have e1 : (M ++ [MO.ins "Begin" (wkF (.tup [.str "times", a, i, x, b, c]) s)]).length = M.length + 1 := by rw [List.length_append]; rfl
  have e2 : bhL (.ref M.length) = [.ref M.length] := rfl
  rw [e1, e2, List.append_assoc M] at hl
  rw [e_Work_work]
  simp only [List.singleton_append] at hl
  simp [-List.append_assoc, runF, m_Work_work, startD, hd, h.run, hi, hd1, hl]
end
/-- what a sign makes of two numbers -/
def sgn (s : Str) (x y : Int) : Option Int :=
  if s = "+" then some (x + y) else if s = "-" then some (x - y) else if s = "*" then (if mulOk x y then some (x * y) else none)
  else if s = "/" then (if y ≠ 0 ∧ y.natAbs.log2 < 9000 then some (x.fdiv y) else none)
  else if s = "&" then (if y ≠ 0 ∧ y.natAbs.log2 < 9000 ∧ mulOk y (x.fdiv y) then some (x - y * x.fdiv y) else none)
  else if s = "=" then some (if x = y then 1 else 0) else some (if x < y then 1 else 0)
theorem fdiv_any (M : Store) (x y : Int) (h : y ≠ 0) (hl : y.natAbs.log2 < 9000) : fdivD M (.int x) (.int y) = some (.val (.int (x.fdiv y))) := by
  rw [fdivD_int]
  split
  · rename_i hc; rw [Int.fdiv_eq_ediv_of_nonneg x (by omega)]
  · split
    · rename_i hc; rw [Int.fdiv_eq_ediv_of_nonneg x (by omega)]
    · split
      · rfl
      · rw [if_pos ⟨h, hl⟩]
theorem signed_ok (K : Nat) (s : Str) (x y z : Int) (M : Store) (h : sgn s x y = some z) : sem (K + 1) f_signed [.str s, .int x, .int y] M = .ok (.val (.int z)) M := by
  rw [e_signed]
  unfold sgn at h
  by_cases h1 : s = "+"
  · rw [if_pos h1] at h
    cases h
    simp [runF, m_signed, startD, eqS, h1]
  rw [if_neg h1] at h
  by_cases h2 : s = "-"
  · rw [if_pos h2] at h
    cases h
    have k1 : (("-" : Str) = "+") = False := by decide +kernel
    simp [runF, m_signed, startD, eqS, h2, k1]
  rw [if_neg h2] at h
  by_cases h3 : s = "*"
  · rw [if_pos h3] at h
    split at h
    · rename_i hm
      cases h
      subst h3
      simp [runF, m_signed, startD, eqS, h1, h2, hm]
    · cases h
  rw [if_neg h3] at h
  by_cases h4 : s = "/"
  · rw [if_pos h4] at h
    split at h
    · rename_i hm
      cases h
      have hf := fdiv_any M x y hm.1 hm.2
      subst h4
      simp [-fdivD_int, runF, m_signed, startD, eqS, h1, h2, h3, hf]
    · cases h
  rw [if_neg h4] at h
  by_cases h5 : s = "&"
  · rw [if_pos h5] at h
    split at h
    · rename_i hm
      cases h
      have hf := fdiv_any M x y hm.1 hm.2.1
      subst h5
      simp [-fdivD_int, runF, m_signed, startD, eqS, h1, h2, h3, h4, hf, hm.2.2]
    · cases h
  rw [if_neg h5] at h
  have hib : ∀ N (b : Bool), intD N [.bl b] = some (.val (.int (if b then 1 else 0))) := fun _ _ => rfl
  by_cases h6 : s = "="
  · rw [if_pos h6] at h
    cases h
    subst h6
    simp [runF, m_signed, startD, eqS, h1, h2, h3, h4, h5, hib]
  rw [if_neg h6] at h
  cases h
  simp [runF, m_signed, startD, eqS, h1, h2, h3, h4, h5, h6, hib]
end K15
namespace K15
open PySem L2 TP
set_option maxHeartbeats 4000000
theorem lastI (W : List Int) (y : Int) : ((W ++ [y]).map D.int).getLast? = some (.int y) := by rw [List.map_append]; simp
theorem dropI (W : List Int) (y : Int) : ((W ++ [y]).map D.int).dropLast = W.map D.int := by rw [List.map_append]; simp
theorem mapA (W : List Int) (y : Int) : W.map D.int ++ [.int y] = (W ++ [y]).map D.int := by rw [List.map_append]; rfl
theorem inT2 (M : Store) (z a b : Str) : inD M (.str z) (.tup [.str a, .str b]) = some (.val (.bl (decide (a = z) || decide (b = z)))) := by
  have h : inD M (.str z) (.tup [.str a, .str b]) = some (.val (.bl ([D.str a, D.str b].any fun d => eqvD d (.str z)))) := rfl
  rw [h, List.any_cons, List.any_cons, List.any_nil, eqvD_str, eqvD_str, Bool.or_false]
section
variable {K r : Nat} {rows : RT} {ds : List D} {W T : List Int} {q s : Nat} {M : Store} {e0 : D}
theorem sign_val (sg : Str) (x y z : Int) (h : RS r rows ds (W ++ [x] ++ [y]) T e0 M) (hq5 : r + 5 ≤ q) (hq : M[q]? = some (.ins "Sign" (sgF sg))) (hz : sgn sg x y = some z) (hW : W.length ≤ 10000000) :
    sem (K + 2) f_Sign_work [.ref q, .ref r] M = .ok (.val .non) (M.set (r + 3) (.lst ((W ++ [z]).map .int))) := by
  have h1 := h.setW (W ++ [x])
  have h2 := h1.setW W
  rw [set_set] at h2
  have hq1 : (M.set (r + 3) (.lst ((W ++ [x]).map .int)))[q]? = some (.ins "Sign" (sgF sg)) := by rw [get_ne (by omega)]; exact hq
  have hq2 : (M.set (r + 3) (.lst (W.map .int)))[q]? = some (.ins "Sign" (sgF sg)) := by rw [get_ne (by omega)]; exact hq
  have hs := signed_ok K sg x y z (M.set (r + 3) (.lst (W.map .int))) hz
  have hW2 : W.length < 16777216 := by omega
  have hcond : (y = 0 → ("/" : Str) ≠ sg ∧ ("&" : Str) ≠ sg) := fun hy => by
    unfold sgn at hz
    constructor
    · rintro rfl
      have k1 : (("/" : Str) = "+") = False := by decide +kernel
      have k2 : (("/" : Str) = "-") = False := by decide +kernel
      have k3 : (("/" : Str) = "*") = False := by decide +kernel
      simp [k1, k2, k3, hy] at hz
    · rintro rfl
      have k1 : (("&" : Str) = "+") = False := by decide +kernel
      have k2 : (("&" : Str) = "-") = False := by decide +kernel
      have k3 : (("&" : Str) = "*") = False := by decide +kernel
      have k4 : (("&" : Str) = "/") = False := by decide +kernel
      simp [k1, k2, k3, k4, hy] at hz
  rw [e_Sign_work]
  by_cases hy : y = 0
  · obtain ⟨n1, n2⟩ := hcond hy
    subst hy
    simp [-List.map_append, -List.append_assoc, runF, m_Sign_work, startD, h.run, h.worths, h1.run, h1.worths, h2.run, h2.worths, lastI, dropI, set_set, hq2, inT2, n1, n2, hs, hW2, mapA]
  · simp [-List.map_append, -List.append_assoc, runF, m_Sign_work, startD, h.run, h.worths, h1.run, h1.worths, h2.run, h2.worths, lastI, dropI, set_set, hy, hq2, hs, hW2, mapA]
theorem sign_zero (sg : Str) (x : Int) (h : RS r rows ds (W ++ [x] ++ [0]) T e0 M) (hq5 : r + 5 ≤ q) (hq : M[q]? = some (.ins "Sign" (sgF sg))) (hz : sg = "/" ∨ sg = "&") :
    sem (K + 2) f_Sign_work [.ref q, .ref r] M = .ok (.val .non) ((M.set (r + 3) (.lst (W.map .int))).set r (.ins "Run" (rnF r (.tup [.str "zero"])))) := by
  have h1 := h.setW (W ++ [x])
  have h2 := h1.setW W
  rw [set_set] at h2
  have hq2 : (M.set (r + 3) (.lst (W.map .int)))[q]? = some (.ins "Sign" (sgF sg)) := by rw [get_ne (by omega)]; exact hq
  have hf := finish_ok K h2 (.tup [.str "zero"])
  rw [e_Sign_work]
  rcases hz with rfl | rfl
  · simp [-List.map_append, -List.append_assoc, runF, m_Sign_work, startD, h.run, h.worths, h1.run, h1.worths, h2.run, lastI, dropI, set_set, hq2, inT2, hf]
  · simp [-List.map_append, -List.append_assoc, runF, m_Sign_work, startD, h.run, h.worths, h1.run, h1.worths, h2.run, lastI, dropI, set_set, hq2, inT2, hf]
end
/-! ### a sign -/
section
variable {K : Nat} {rows : RT} {k : EV}
/-- the first turn of a sign, and its parts that wait -/
theorem op_first {sg : Str} {a b : Ex} {r n : Nat} {M : Store} {ds : List D} {W T : List Int} {d : Nat} (h : RS r rows (ds ++ [.ref d]) W T .non M) (at_ : At r M d (.op sg a b) k) (hz : ds.length ≤ 10000000) :
    ∃ M1 p q, L (K + 3) r (n + 1) M = L (K + 3) r n M1 ∧ Pres r M M1 ∧ RS r rows (ds ++ [.ref q] ++ [.ref p] ++ [.ref (p + 1)]) W T .non M1 ∧ r + 5 ≤ q ∧ M1[q]? = some (.ins "Sign" (sgF sg)) ∧ At r M1 (p + 1) a k ∧ At r M1 p b k := by
  obtain ⟨s, h1, h2, h3, h4⟩ := at_.ex
  rw [Ex.toD] at h3
  have hl := h.len
  have hs := h.setD ds
  have hd2 : (M.set (r + 2) (.lst ds))[d]? = some (.ins "Work" (wkF (.tup [.str "op", .str sg, a.toD, b.toD]) s)) := by rw [get_ne (by omega)]; exact h3
  have hw := work_op (K := K) hs sg a.toD b.toD hd2 (by omega)
  rw [List.length_set] at hw
  obtain ⟨M1, l1, p1, r1, o1, w1⟩ := first_gen (n := n) h h1 h3 hw
  refine ⟨M1, M.length + 1, M.length, l1, p1, ?_, by omega, o1, ⟨s, by omega, h2, w1 1 a.toD rfl, p1.get h2 h4⟩, ⟨s, by omega, h2, w1 0 b.toD rfl, p1.get h2 h4⟩⟩
  have : ds ++ [.ref M.length] ++ [.ref (M.length + 1)] ++ [.ref (M.length + 1 + 1)] = ds ++ [.ref M.length] ++ rfL (M.length + 1) [a.toD, b.toD].reverse := by simp [rfL]
  rw [this]
  exact r1
theorem runs_op_val {sg : Str} {a b : Ex} {t1 t2 : List Int} {x y z : Int} {s1 s2 : Nat} (ha : Runs (K + 3) rows k a t1 (.val x) s1) (hb : Runs (K + 3) rows k b t2 (.val y) s2) (hz : sgn sg x y = some z) : Runs (K + 3) rows k (.op sg a b) (t1 ++ t2) (.val z) (s1 + s2 + 2) := by
  have b1 := ha.len
  have b2 := hb.len
  refine ⟨by rw [List.length_append]; omega, fun r n M ds W T d h at_ z1 z2 z3 => ?_⟩
  obtain ⟨M1, p, q, l1, p1, g1, hq, o1, A1, B1⟩ := op_first (K := K) (n := n + s1 + s2 + 1) h at_ (by omega)
  obtain ⟨M2, l2, p2, g2⟩ := ha.go r (n + s2 + 1) M1 _ W T _ g1 A1 (by simp; omega) (by omega) (by omega)
  obtain ⟨M3, l3, p3, g3⟩ := hb.go r (n + 1) M2 _ _ _ _ g2 (B1.pres p2) (by simp; omega) (by simp; omega) (by simp; omega)
  have o3 : M3[q]? = some (.ins "Sign" (sgF sg)) := p3.get hq (p2.get hq o1)
  have hv := sign_val (K := K + 1) (q := q) sg x y z (g3.setD ds) hq (by rw [get_ne (by omega)]; exact o3) hz (by omega)
  have l4 := L_step (n := n) g3 hq o3 (sg_work _) rfl hv
  have l5 := ((show L (K + 3) r (n + (s1 + s2 + 2)) M = _ by rw [show n + (s1 + s2 + 2) = n + s1 + s2 + 1 + 1 by omega, l1, show n + s1 + s2 + 1 = n + s2 + 1 + s1 by omega, l2, show n + s2 + 1 = n + 1 + s2 by omega, l3]).trans l4)
  refine ⟨_, l5, ((p1.trans p2).trans p3).trans ((Pres.set (j := r + 2) (by omega) (by omega)).trans (Pres.set (j := r + 3) (by omega) (by omega))), ?_⟩
  · show RS r rows ds (W ++ [z]) (T ++ (t1 ++ t2)) .non _
    rw [← List.append_assoc]
    exact (g3.setD ds).setW _
theorem runs_op_zero {sg : Str} {a b : Ex} {t1 t2 : List Int} {x : Int} {s1 s2 : Nat} (ha : Runs (K + 3) rows k a t1 (.val x) s1) (hb : Runs (K + 3) rows k b t2 (.val 0) s2) (hz : sg = "/" ∨ sg = "&") : Runs (K + 3) rows k (.op sg a b) (t1 ++ t2) (.fin (.tup [.str "zero"])) (s1 + s2 + 2) := by
  have b1 := ha.len
  have b2 := hb.len
  refine ⟨by rw [List.length_append]; omega, fun r n M ds W T d h at_ z1 z2 z3 => ?_⟩
  obtain ⟨M1, p, q, l1, p1, g1, hq, o1, A1, B1⟩ := op_first (K := K) (n := n + s1 + s2 + 1) h at_ (by omega)
  obtain ⟨M2, l2, p2, g2⟩ := ha.go r (n + s2 + 1) M1 _ W T _ g1 A1 (by simp; omega) (by omega) (by omega)
  obtain ⟨M3, l3, p3, g3⟩ := hb.go r (n + 1) M2 _ _ _ _ g2 (B1.pres p2) (by simp; omega) (by simp; omega) (by simp; omega)
  have o3 : M3[q]? = some (.ins "Sign" (sgF sg)) := p3.get hq (p2.get hq o1)
  have hv := sign_zero (K := K + 1) (q := q) sg x (g3.setD ds) hq (by rw [get_ne (by omega)]; exact o3) hz
  have l4 := L_step (n := n) g3 hq o3 (sg_work _) rfl hv
  have l5 := ((show L (K + 3) r (n + (s1 + s2 + 2)) M = _ by rw [show n + (s1 + s2 + 2) = n + s1 + s2 + 1 + 1 by omega, l1, show n + s1 + s2 + 1 = n + s2 + 1 + s1 by omega, l2, show n + s2 + 1 = n + 1 + s2 by omega, l3]).trans l4)
  refine ⟨_, l5, ((p1.trans p2).trans p3).trans (((Pres.set (j := r + 2) (by omega) (by omega)).trans (Pres.set (j := r + 3) (by omega) (by omega))).trans (Pres.set (j := r) (by omega) (by omega))), ?_⟩
  · refine ⟨by simp, ds, W, ?_⟩
    rw [← List.append_assoc]
    exact ((g3.setD ds).setW _).setE _
theorem runs_op_fin1 {sg : Str} {a b : Ex} {t1 : List Int} {e : D} {s1 : Nat} (ha : Runs (K + 3) rows k a t1 (.fin e) s1) : Runs (K + 3) rows k (.op sg a b) t1 (.fin e) (s1 + 1) := by
  have b1 := ha.len
  refine ⟨by omega, fun r n M ds W T d h at_ z1 z2 z3 => ?_⟩
  obtain ⟨M1, p, q, l1, p1, g1, hq, o1, A1, B1⟩ := op_first (K := K) (n := n + s1) h at_ (by omega)
  obtain ⟨M2, l2, p2, g2⟩ := ha.go r n M1 _ W T _ g1 A1 (by simp; omega) (by omega) (by omega)
  refine ⟨M2, ?_, p1.trans p2, ?_⟩
  · rw [show n + (s1 + 1) = n + s1 + 1 by omega, l1, l2]
  · obtain ⟨he, ds', W', g⟩ := g2
    exact ⟨he, ds', W', g⟩
theorem runs_op_fin2 {sg : Str} {a b : Ex} {t1 t2 : List Int} {x : Int} {e : D} {s1 s2 : Nat} (ha : Runs (K + 3) rows k a t1 (.val x) s1) (hb : Runs (K + 3) rows k b t2 (.fin e) s2) : Runs (K + 3) rows k (.op sg a b) (t1 ++ t2) (.fin e) (s1 + s2 + 1) := by
  have b1 := ha.len
  have b2 := hb.len
  refine ⟨by rw [List.length_append]; omega, fun r n M ds W T d h at_ z1 z2 z3 => ?_⟩
  obtain ⟨M1, p, q, l1, p1, g1, hq, o1, A1, B1⟩ := op_first (K := K) (n := n + s1 + s2) h at_ (by omega)
  obtain ⟨M2, l2, p2, g2⟩ := ha.go r (n + s2) M1 _ W T _ g1 A1 (by simp; omega) (by omega) (by omega)
  obtain ⟨M3, l3, p3, g3⟩ := hb.go r n M2 _ _ _ _ g2 (B1.pres p2) (by simp; omega) (by simp; omega) (by simp; omega)
  refine ⟨M3, ?_, (p1.trans p2).trans p3, ?_⟩
  · rw [show n + (s1 + s2 + 1) = n + s1 + s2 + 1 by omega, l1, show n + s1 + s2 = n + s2 + s1 by omega, l2, l3]
  · obtain ⟨he, ds', W', g⟩ := g3
    rw [List.append_assoc] at g
    exact ⟨he, ds', W', g⟩
end
end K15
namespace K15
open PySem L2 TP
set_option maxHeartbeats 2000000
theorem rows_ok (Φ : Nat → Fn) (m : Str) (a b c : Slot) (M : Store) : ∀ (rs : List Row) (acc : List D), acc.length + rs.length ≤ 1000 →
    lcGo (bName 4) dYes (el_functions_0 Φ) [a, b, .val (.str m), c, .un] (rs.map Row.toD) acc M = .ok (acc ++ (rs.map fun r => fnD (m, r))) M := by
  intro rs
  induction rs with
  | nil => intro acc _; simp [lcGo]
  | cons r rs ih =>
    intro acc hl
    rw [List.length_cons] at hl
    rw [List.map_cons]
    unfold lcGo
    simp [el_functions_0_eq, row_add]
    rw [if_pos (by omega), ih _ (by simp; omega), List.append_assoc]
    rfl
theorem functions_ok (k : Nat) (P : Pr) (M : Store) (hl : (flat P).length ≤ 1000) : sem (k + 1) f_functions [pgD P] M = .ok (.own ((flat P).map fnD)) M := by
  rw [e_functions]
  have key : ∀ (Q : Pr) (a c d : Slot) (acc : List D), acc.length + (flat Q).length ≤ 1000 → ∃ c' d', forGo (bTup [2, 3]) (lp_functions_0 (sem k)) (Q.map rmD) [a, .own acc, c, d, .un] M = .next [a, .own (acc ++ (flat Q).map fnD), c', d', .un] M := by
    intro Q
    induction Q with
    | nil => intro a c d acc _; exact ⟨c, d, by simp [forGo, flat]⟩
    | cons q Q ih =>
      intro a c d acc hl
      obtain ⟨m, rs⟩ := q
      simp only [flat, List.length_append, List.length_map] at hl
      obtain ⟨c', d', h⟩ := ih a (.val (.str m)) (.val (.tup (rs.map Row.toD))) (acc ++ rs.map fun r => fnD (m, r)) (by simp; omega)
      refine ⟨c', d', ?_⟩
      have hr := rows_ok (sem k) m a (.own acc) (.val (.tup (rs.map Row.toD))) M rs [] (by simp; omega)
      rw [List.map_cons]
      unfold forGo
      simp [lp_functions_0_eq, rmD, bTup, bNames, itemsD, wipeD, hr, lstOf]
      rw [if_pos (by omega)]
      simp only
      rw [h]
      simp [flat]
  obtain ⟨c', d', h⟩ := key P (.val (pgD P)) .un .un [] (by simpa using hl)
  simp [runF, m_functions, startD]
  simp [pgD, itemsD]
  rw [← pgD, h]
  simp
end K15
namespace K15
open PySem L2 TP
set_option maxHeartbeats 4000000
theorem Lw_eq : Lw = 1000000000000 := by unfold Lw; rfl
def rowKV (x : Str × Row) : List Key × D := ([.inr x.1, .inr x.2.f], .tup [.tup (x.2.ps.map .str), x.2.b.toD])
def rowPD (x : Str × Row) : D := .tup [.tup [.str x.1, .str x.2.f], .tup [.tup (x.2.ps.map .str), x.2.b.toD]]
def rowsT (P : Pr) : RT := mergeP [] ((flat P).map rowKV)
theorem rows_lc (Φ : Nat → Fn) (a b : Slot) (M : Store) (xs : List (Str × Row)) (hl : xs.length ≤ 1000) :
    lcGo (bTup [2, 3, 4, 5]) dYes (el_Run___init___0 Φ) [a, b, .un, .un, .un, .un] (xs.map fnD) [] M = .ok (xs.map rowPD) M :=
  lcGo_mp fnD rowPD xs (fun x _ => ⟨[a, b, .val (.str x.1), .val (.str x.2.f), .val (.tup (x.2.ps.map .str)), .val x.2.b.toD], rfl, by
    rw [el_Run___init___0_eq]
    simp [rowPD]⟩) (by omega)
theorem rows_pairs : ∀ xs : List (Str × Row), pairsT (xs.map rowPD) = some (xs.map rowKV)
  | [] => rfl
  | x :: xs => by
    rw [List.map_cons, List.map_cons, rowPD, pairsT, rows_pairs xs]
    rfl
def newRun (r : Nat) (P : Pr) : Store := [.ins "Run" (rnF r .non), .dT (rowsT P), .lst [], .lst [], .lst []]
theorem run_init (K : Nat) (P : Pr) (M : Store) (hl : (flat P).length ≤ 1000) : sem (K + 2) f_Run___init__ [.ref M.length, pgD P] (M ++ [.ins "Run" []]) = .ok (.val .non) (M ++ newRun M.length P) := by
  have hf := functions_ok K P (M ++ [.ins "Run" []]) hl
  have hr := rows_lc (sem (K + 1)) (.val (.ref M.length)) (.val (pgD P)) (M ++ [.ins "Run" []]) (flat P) hl
  have hp : pairTD (M ++ [.ins "Run" []]) (.lst ((flat P).map rowPD)) = some (.dT (rowsT P)) := by
    unfold pairTD
    rw [show lstOf (M ++ [.ins "Run" []]) (.lst ((flat P).map rowPD)) = some ((flat P).map rowPD) from rfl]
    simp only
    rw [rows_pairs]
    rfl
  rw [e_Run___init__]
  have p1 : putFd "rows" (.ref (M.length + 1)) [] = [(("rows" : Str), .ref (M.length + 1))] := rfl
  have p2 : putFd "deeds" (.ref (M.length + 2)) [(("rows" : Str), .ref (M.length + 1))] = [(("rows" : Str), .ref (M.length + 1)), ("deeds", .ref (M.length + 2))] := rfl
  have p3 : putFd "worths" (.ref (M.length + 3)) [(("rows" : Str), .ref (M.length + 1)), ("deeds", .ref (M.length + 2))] = [(("rows" : Str), .ref (M.length + 1)), ("deeds", .ref (M.length + 2)), ("worths", .ref (M.length + 3))] := rfl
  have p4 : putFd "told" (.ref (M.length + 4)) [(("rows" : Str), .ref (M.length + 1)), ("deeds", .ref (M.length + 2)), ("worths", .ref (M.length + 3))] = [(("rows" : Str), .ref (M.length + 1)), ("deeds", .ref (M.length + 2)), ("worths", .ref (M.length + 3)), ("told", .ref (M.length + 4))] := rfl
  have p5 : putFd "end" .non [(("rows" : Str), .ref (M.length + 1)), ("deeds", .ref (M.length + 2)), ("worths", .ref (M.length + 3)), ("told", .ref (M.length + 4))] = rnF M.length .non := rfl
  have q1 : ∀ (o o' : MO) (X : Store), (M ++ o :: X).set M.length o' = M ++ o' :: X := fun o o' X => by simp
  have q2 : ∀ (o : MO) (X : Store), (M ++ o :: X)[M.length]? = some o := fun o X => by simp
  simp [runF, m_Run___init__, startD, hf, itemsD, wipeD, hr, hp, q1, q2, p1, p2, p3, p4, p5, newRun]
/-! ### the whole run -/
def resD : Res → D
  | .val v => .tup [.str "value", .int v]
  | .fin e => e
theorem ended_ok (K r : Nat) (M M' : Store) (rows : RT) (T : List Int) (res : Res) (n : Nat) (h : L K r Lw M = L K r (n + 1) M') (hp : Post r rows [] [] T M' res) : sem (K + 1) f_Run_ended [.ref r] M = .ok (.val (.tup [.ref (r + 4), resD res])) M' := by
  have hi : ∀ N, isD N .non .non = some (.val (.bl true)) := fun _ => rfl
  unfold L at h
  cases res with
  | val v =>
    have hp' : RS r rows [] [v] T .non M' := hp
    have hn : neLD M' (.ref (r + 2)) (.lst []) = some (.val (.bl false)) := by simp [neLD, lstOf, hp'.deeds]
    have hc : wc_Run_ended_0 (sem K) [.val (.ref r)] M' = .ok false M' := by
      rw [wc_Run_ended_0_eq]
      simp [hp'.run, hi, hn]
    have hw := hp'.worths
    rw [whGo, hc] at h
    simp only at h
    have hx : idxD M' (.ref (r + 3)) (.int 0) = some (.val (.int v)) := by
      have : seqOf M' (.ref (r + 3)) = some [.int v] := by simp [seqOf, lstOf, hw]
      simp [idxD, this]
    rw [e_Run_ended]
    simp [runF, m_Run_ended, startD, sWhile, h, hp'.run, hi, hx, resD]
  | fin e =>
    obtain ⟨he, ds, W, hp'⟩ := hp
    have hi' : ∀ N, isD N e .non = some (.val (.bl false)) := fun N => by cases e <;> first | rfl | exact absurd rfl he
    have hc : wc_Run_ended_0 (sem K) [.val (.ref r)] M' = .ok false M' := by
      rw [wc_Run_ended_0_eq]
      simp [hp'.run, hi']
    rw [whGo, hc] at h
    simp only at h
    rw [e_Run_ended]
    simp [runF, m_Run_ended, startD, sWhile, h, hp'.run, hi', resD]
def envOf (ps : List Str) (ns : List Int) : EV := mergeP [] ((ps.map Sum.inr).zip (ns.map .int))
theorem keys_str : ∀ ps : List Str, keysD (ps.map .str) = some (ps.map Sum.inr)
  | [] => rfl
  | p :: ps => by
    rw [List.map_cons, keysD, keys_str ps]
    rfl
theorem run_ok (K : Nat) (P : Pr) (m f : Str) (ps : List Str) (b : Ex) (ns : List Int) (M : Store) (t : List Int) (res : Res) (st : Nat) (hl : (flat P).length ≤ 1000) (hlk : lookD (rowsT P) [.inr m, .inr f] = some (.tup [.tup (ps.map .str), b.toD]))
    (hr : Runs (K + 3) (rowsT P) (envOf ps ns) b t res st) (hst : st ≤ 1000000) :
    ∃ M', sem (K + 5) f_run [pgD P, .str m, .str f, .tup (ns.map .int)] M = .ok (.val (.tup [.ref (M.length + 4), resD res])) M' ∧ M'[M.length + 4]? = some (.lst (t.map .int)) ∧ M.length + 5 ≤ M'.length ∧ ∀ i, i < M.length → M'[i]? = M[i]? := by
  have h0 : RS M.length (rowsT P) [] [] [] .non (M ++ newRun M.length P) := by
    refine ⟨?_, ?_, ?_, ?_, ?_⟩ <;> (rw [List.getElem?_append_right (by omega)]; first | rw [Nat.sub_self] | rw [Nat.add_sub_cancel_left]) <;> rfl
  have hlen : (M ++ newRun M.length P).length = M.length + 5 := by rw [List.length_append]; rfl
  have h1 := h0.app [.dK (envOf ps ns)]
  have hlen1 : (M ++ newRun M.length P ++ [MO.dK (envOf ps ns)]).length = M.length + 6 := by rw [List.length_append, hlen]; rfl
  have hla := later_ok (K + 2) h1 .non (.inl rfl) [b.toD] (M.length + 5) (by simp)
  rw [hlen1] at hla
  have hlb : ∀ N : Store, bhL .non = [] := fun _ => rfl
  have hb0 : bhL .non = [] := rfl
  simp only [hb0, List.reverse_singleton, wkL, rfL, List.map_cons, List.map_nil, List.nil_append, List.append_nil] at hla
  have g2 : RS M.length (rowsT P) ([] ++ [.ref (M.length + 6)]) [] [] .non ((M ++ newRun M.length P ++ [MO.dK (envOf ps ns)] ++ [MO.ins "Work" (wkF b.toD (M.length + 5))]).set (M.length + 2) (.lst [.ref (M.length + 6)])) := (h1.app _).setD _
  have a2 : At M.length ((M ++ newRun M.length P ++ [MO.dK (envOf ps ns)] ++ [MO.ins "Work" (wkF b.toD (M.length + 5))]).set (M.length + 2) (.lst [.ref (M.length + 6)])) (M.length + 6) b (envOf ps ns) := by
    refine ⟨M.length + 5, by omega, by omega, ?_, ?_⟩
    · rw [get_ne (by omega)]
      have := at_end (M := M ++ newRun M.length P ++ [MO.dK (envOf ps ns)]) (o := MO.ins "Work" (wkF b.toD (M.length + 5)))
      rw [hlen1] at this
      exact this
    · rw [get_ne (by omega)]
      have := at_end (M := M ++ newRun M.length P) (o := MO.dK (envOf ps ns))
      rw [hlen] at this
      exact get_app this
  obtain ⟨M', l1, p1, q1⟩ := hr.go M.length (Lw - st) _ [] [] [] _ g2 a2 (by simp; omega) (by simp; omega) (by simp; omega)
  have hLw := Lw_eq
  rw [show Lw - st + st = Lw by omega, show Lw - st = Lw - st - 1 + 1 by omega] at l1
  rw [List.nil_append] at q1
  have he := ended_ok (K + 3) M.length _ M' (rowsT P) t res _ l1 q1
  have hi := run_init (K + 2) P M hl
  refine ⟨M', ?_, ?_, ?_, fun i hi' => ?_⟩
  · rw [e_run]
    have hg : dgetD (M ++ newRun M.length P) (.ref (M.length + 1)) (.tup [.str m, .str f]) = some (.val (.tup [.tup (ps.map .str), b.toD])) := by
      simp [dgetD, dGetO, h0.rows, keysD, keyD, hlk]
    have hr0 := h0.run
    have hr1 := h1.run
    have hk := keys_str ps
    have hd2 : (MO.dK (mergeP [] ((ps.map Sum.inr).zip (ns.map .int)))) = .dK (envOf ps ns) := rfl
    have hg2 := g2.run
    generalize M ++ newRun M.length P = N0 at *
    generalize hN1 : N0 ++ [MO.dK (envOf ps ns)] = N1 at *
    generalize (N1 ++ [MO.ins "Work" (wkF b.toD (M.length + 5))]).set (M.length + 2) (.lst [.ref (M.length + 6)]) = N2 at *
    rw [← hlen] at hla
    simp [-List.append_assoc, runF, m_run, startD, hi, hr0, hr1, hg, hk, hd2, hN1, hla, hg2, he, bTup, bNames]
  · cases res with
    | val v => exact q1.told
    | fin e =>
      obtain ⟨_, ds, W, g⟩ := q1
      exact g.told
  · have := p1.len
    rw [List.length_set, List.length_append, hlen1] at this
    simp at this
    omega
  · rw [p1.at_ i (by rw [List.length_set, List.length_append, hlen1]; omega) (.inl hi'), get_ne (by omega), List.append_assoc, List.append_assoc, List.getElem?_append_left hi']
end K15
namespace K15
open PySem L2 TP
set_option maxHeartbeats 4000000
section
variable {K : Nat} {rows : RT} {k : EV}
/-- one more expression to work out -/
theorem later_one (K : Nat) {r s : Nat} {rows : RT} {ds : List D} {W T : List Int} {e : D} {N : Store} {k : EV} (h : RS r rows ds W T e N) (b : Ex) (hs : N[s]? = some (.dK k)) (h5 : r + 5 ≤ s) (hz : ds.length ≤ 10000000) :
    ∃ M', sem (K + 2) f_Run_later [.ref r, .non, .tup [b.toD], .ref s] N = .ok (.val .non) M' ∧ Pres r N M' ∧ RS r rows (ds ++ [.ref N.length]) W T e M' ∧ At r M' N.length b k := by
  have hl := later_ok K h .non (.inl rfl) [b.toD] s (by show ds.length + 1 ≤ _; omega)
  have hb0 : bhL .non = [] := rfl
  simp only [hb0, List.reverse_singleton, wkL, rfL, List.map_cons, List.map_nil, List.append_nil] at hl
  have hn := h.len
  refine ⟨_, hl, (Pres.app _).trans (Pres.set (by omega) (by omega)), (h.app _).setD _, s, by omega, h5, ?_, ?_⟩
  · rw [get_ne (by omega)]
    exact at_end _ _
  · rw [get_ne (by omega)]
    exact get_app hs
/-- the first turn of let, if, tell, stop -/
theorem behind_first {t : D} {w : Str} {a : Ex} {r s n : Nat} {M : Store} {ds : List D} {W T : List Int} {d : Nat} (h : RS r rows (ds ++ [.ref d]) W T .non M) (h1 : r + 5 ≤ d) (h2 : r + 5 ≤ s) (h3 : M[d]? = some (.ins "Work" (wkF t s))) (h4 : M[s]? = some (.dK k))
    (hw1 : ∀ N, idxD N t (.int 0) = some (.val (.str w))) (hw : w = "let" ∨ w = "if" ∨ w = "tell" ∨ w = "stop") (ha : ∀ N, idxD N t (.int (if w = "let" then 2 else 1)) = some (.val a.toD)) (hz : ds.length ≤ 10000000) :
    ∃ M1 p q, L (K + 3) r (n + 1) M = L (K + 3) r n M1 ∧ Pres r M M1 ∧ RS r rows (ds ++ [.ref q] ++ [.ref p]) W T .non M1 ∧ r + 5 ≤ q ∧ M1[q]? = some (.ins "Behind" (wkF t s)) ∧ At r M1 p a k := by
  have hl := h.len
  have hs := h.setD ds
  have hd2 : (M.set (r + 2) (.lst ds))[d]? = some (.ins "Work" (wkF t s)) := by rw [get_ne (by omega)]; exact h3
  have hw := work_behind (K := K) hs t w a.toD hw1 hw ha hd2 (by omega)
  rw [List.length_set] at hw
  obtain ⟨M1, l1, p1, r1, o1, w1⟩ := first_gen (n := n) h h1 h3 hw
  exact ⟨M1, M.length + 1, M.length, l1, p1, r1, by omega, o1, ⟨s, by omega, h2, w1 0 a.toD rfl, p1.get h2 h4⟩⟩
end
/-! ### what is done behind -/
section
variable {K r q s : Nat} {rows : RT} {ds : List D} {W T : List Int} {M : Store} {e0 : D} {k : EV}
theorem behind_ite (a b c : Ex) (x : Int) (h : RS r rows ds (W ++ [x]) T e0 M) (hq5 : r + 5 ≤ q) (hq : M[q]? = some (.ins "Behind" (wkF (Ex.ite a b c).toD s))) (hs5 : r + 5 ≤ s) (hs : M[s]? = some (.dK k)) (hz : ds.length ≤ 10000000) :
    ∃ M' p, sem (K + 3) f_Behind_work [.ref q, .ref r] M = .ok (.val .non) M' ∧ Pres r M M' ∧ RS r rows (ds ++ [.ref p]) W T e0 M' ∧ At r M' p (if x = 0 then c else b) k := by
  have hl := h.len
  have hsl := (List.getElem?_eq_some_iff.mp hs).1
  have h1 := h.setW W
  have hq1 : (M.set (r + 3) (.lst (W.map .int)))[q]? = some (.ins "Behind" (wkF (Ex.ite a b c).toD s)) := by rw [get_ne (by omega)]; exact hq
  have hs1 : (M.set (r + 3) (.lst (W.map .int)))[s]? = some (.dK k) := by rw [get_ne (by omega)]; exact hs
  have h2 := h1.app [.dK k]
  have hq2 := get_app (M' := [.dK k]) hq1
  have he := at_end (M.set (r + 3) (.lst (W.map .int))) (.dK k)
  obtain ⟨M', l1, p1, r1, a1⟩ := later_one K h2 (if x = 0 then c else b) he (by rw [List.length_set]; omega) hz
  refine ⟨M', _, ?_, ((Pres.set (j := r + 3) (by omega) (by omega)).trans (Pres.app _)).trans p1, r1, a1⟩
  have hc : copyD (M.set (r + 3) (.lst (W.map .int))) (.ref s) = some (.dK k) := by simp [copyD, hs1]
  rw [e_Behind_work]
  rw [Ex.toD] at hq hq1 hq2
  have i2 : ∀ N, idxD N (.tup [.str "if", a.toD, b.toD, c.toD]) (.int 2) = some (.val b.toD) := fun _ => rfl
  have i3 : ∀ N, idxD N (.tup [.str "if", a.toD, b.toD, c.toD]) (.int 3) = some (.val c.toD) := fun _ => rfl
  have hr1 := h1.run
  have hr2 := h2.run
  have hw := h.worths
  generalize hN1 : M.set (r + 3) (.lst (W.map .int)) = N1 at *
  generalize hN2 : N1 ++ [MO.dK k] = N2 at *
  by_cases hx : x = 0
  · rw [if_pos hx] at l1
    simp [-List.map_append, -List.append_assoc, runF, m_Behind_work, startD, hq, hq1, hq2, h.run, hw, hr1, hr2, lastI, dropI, hN1, hc, hN2, hx, i2, i3, l1]
  · rw [if_neg hx] at l1
    simp [-List.map_append, -List.append_assoc, runF, m_Behind_work, startD, hq, hq1, hq2, h.run, hw, hr1, hr2, lastI, dropI, hN1, hc, hN2, hx, i2, i3, l1]
theorem behind_tell (a b : Ex) (x : Int) (h : RS r rows ds (W ++ [x]) T e0 M) (hq5 : r + 5 ≤ q) (hq : M[q]? = some (.ins "Behind" (wkF (Ex.tell a b).toD s))) (hs5 : r + 5 ≤ s) (hs : M[s]? = some (.dK k)) (hz : ds.length ≤ 10000000) (hT : T.length ≤ 10000000) :
    ∃ M' p, sem (K + 3) f_Behind_work [.ref q, .ref r] M = .ok (.val .non) M' ∧ Pres r M M' ∧ RS r rows (ds ++ [.ref p]) W (T ++ [x]) e0 M' ∧ At r M' p b k := by
  have hl := h.len
  have hsl := (List.getElem?_eq_some_iff.mp hs).1
  have h1 := h.setW W
  have hq1 : (M.set (r + 3) (.lst (W.map .int)))[q]? = some (.ins "Behind" (wkF (Ex.tell a b).toD s)) := by rw [get_ne (by omega)]; exact hq
  have hs1 : (M.set (r + 3) (.lst (W.map .int)))[s]? = some (.dK k) := by rw [get_ne (by omega)]; exact hs
  have h2 := h1.app [.dK k]
  have hq2 := get_app (M' := [.dK k]) hq1
  have he := at_end (M.set (r + 3) (.lst (W.map .int))) (.dK k)
  have h3 := h2.setT (T ++ [x])
  have hq3 : ((M.set (r + 3) (.lst (W.map .int)) ++ [MO.dK k]).set (r + 4) (.lst ((T ++ [x]).map .int)))[q]? = some (.ins "Behind" (wkF (Ex.tell a b).toD s)) := by rw [get_ne (by omega)]; exact hq2
  have he3 : ((M.set (r + 3) (.lst (W.map .int)) ++ [MO.dK k]).set (r + 4) (.lst ((T ++ [x]).map .int)))[(M.set (r + 3) (.lst (W.map .int))).length]? = some (.dK k) := by rw [get_ne (by rw [List.length_set]; omega)]; exact he
  obtain ⟨M', l1, p1, r1, a1⟩ := later_one K h3 b he3 (by rw [List.length_set]; omega) hz
  refine ⟨M', _, ?_, (((Pres.set (j := r + 3) (by omega) (by omega)).trans (Pres.app _)).trans (Pres.set (j := r + 4) (by omega) (by omega))).trans p1, r1, a1⟩
  have hc : copyD (M.set (r + 3) (.lst (W.map .int))) (.ref s) = some (.dK k) := by simp [copyD, hs1]
  have hT2 : T.length < 16777216 := by omega
  rw [e_Behind_work]
  rw [Ex.toD] at hq hq1 hq2 hq3
  have i2 : ∀ N, idxD N (.tup [.str "tell", a.toD, b.toD]) (.int 2) = some (.val b.toD) := fun _ => rfl
  have hr1 := h1.run
  have hr2 := h2.run
  have hr3 := h3.run
  have ht2 := h2.told
  have hw := h.worths
  generalize hN1 : M.set (r + 3) (.lst (W.map .int)) = N1 at *
  generalize hN2 : N1 ++ [MO.dK k] = N2 at *
  generalize hN3 : N2.set (r + 4) (.lst ((T ++ [x]).map .int)) = N3 at *
  simp [-List.map_append, -List.append_assoc, runF, m_Behind_work, startD, hq, hq1, hq2, hq3, h.run, hw, hr1, hr2, hr3, ht2, hT2, lastI, dropI, mapA, hN1, hc, hN2, hN3, i2, l1]
theorem behind_let (y : Str) (a b : Ex) (x : Int) (h : RS r rows ds (W ++ [x]) T e0 M) (hq5 : r + 5 ≤ q) (hq : M[q]? = some (.ins "Behind" (wkF (Ex.lt y a b).toD s))) (hs5 : r + 5 ≤ s) (hs : M[s]? = some (.dK k)) (hz : ds.length ≤ 10000000) (hk : k.length ≤ 10000000) :
    ∃ M' p, sem (K + 3) f_Behind_work [.ref q, .ref r] M = .ok (.val .non) M' ∧ Pres r M M' ∧ RS r rows (ds ++ [.ref p]) W T e0 M' ∧ At r M' p b (putD k (.inr y) (.int x)) := by
  have hl := h.len
  have hsl := (List.getElem?_eq_some_iff.mp hs).1
  have h1 := h.setW W
  have hq1 : (M.set (r + 3) (.lst (W.map .int)))[q]? = some (.ins "Behind" (wkF (Ex.lt y a b).toD s)) := by rw [get_ne (by omega)]; exact hq
  have hs1 : (M.set (r + 3) (.lst (W.map .int)))[s]? = some (.dK k) := by rw [get_ne (by omega)]; exact hs
  have h2 := h1.app [.dK k]
  have hq2 := get_app (M' := [.dK k]) hq1
  have he := at_end (M.set (r + 3) (.lst (W.map .int))) (.dK k)
  have h3 := h1.app [.dK (putD k (.inr y) (.int x))]
  have hq3 := get_app (M' := [.dK (putD k (.inr y) (.int x))]) hq1
  have he3 := at_end (M.set (r + 3) (.lst (W.map .int))) (.dK (putD k (.inr y) (.int x)))
  obtain ⟨M', l1, p1, r1, a1⟩ := later_one K h3 b he3 (by rw [List.length_set]; omega) hz
  refine ⟨M', _, ?_, ((Pres.set (j := r + 3) (by omega) (by omega)).trans (Pres.app _)).trans p1, r1, a1⟩
  have hc : copyD (M.set (r + 3) (.lst (W.map .int))) (.ref s) = some (.dK k) := by simp [copyD, hs1]
  rw [e_Behind_work]
  rw [Ex.toD] at hq hq1 hq2 hq3
  have i3 : ∀ N, idxD N (.tup [.str "let", .str y, a.toD, b.toD]) (.int 3) = some (.val b.toD) := fun _ => rfl
  have hr1 := h1.run
  have hr2 := h2.run
  have hr3 := h3.run
  have hw := h.worths
  generalize hN1 : M.set (r + 3) (.lst (W.map .int)) = N1 at *
  have hput : dPutM (N1 ++ [.dK k]) (.ref N1.length) (.str y) (.int x) = some (N1 ++ [.dK (putD k (.inr y) (.int x))]) := by
    unfold dPutM
    have hk2 : k.length < 16777216 := by omega
    simp [he, keyD, set_end, hk2]
  generalize hN2 : N1 ++ [MO.dK k] = N2 at *
  generalize hN3 : N1 ++ [MO.dK (putD k (.inr y) (.int x))] = N3 at *
  simp [-List.map_append, -List.append_assoc, runF, m_Behind_work, startD, hq, hq1, hq2, hq3, h.run, hw, hr1, hr2, hr3, lastI, dropI, hN1, hc, hN2, hput, i3, l1]
theorem behind_stop (a : Ex) (x : Int) (h : RS r rows ds (W ++ [x]) T e0 M) (hq5 : r + 5 ≤ q) (hq : M[q]? = some (.ins "Behind" (wkF (Ex.stop a).toD s))) (hs5 : r + 5 ≤ s) (hs : M[s]? = some (.dK k)) :
    ∃ M', sem (K + 2) f_Behind_work [.ref q, .ref r] M = .ok (.val .non) M' ∧ Pres r M M' ∧ RS r rows ds W T (.tup [.str "stop", .int x]) M' := by
  have hl := h.len
  have h1 := h.setW W
  have hq1 : (M.set (r + 3) (.lst (W.map .int)))[q]? = some (.ins "Behind" (wkF (Ex.stop a).toD s)) := by rw [get_ne (by omega)]; exact hq
  have hs1 : (M.set (r + 3) (.lst (W.map .int)))[s]? = some (.dK k) := by rw [get_ne (by omega)]; exact hs
  have h2 := h1.app [.dK k]
  have hf := finish_ok K h2 (.tup [.str "stop", .int x])
  refine ⟨_, ?_, ((Pres.set (j := r + 3) (by omega) (by omega)).trans (Pres.app _)).trans (Pres.set (j := r) (by omega) (by omega)), h2.setE _⟩
  have hc : copyD (M.set (r + 3) (.lst (W.map .int))) (.ref s) = some (.dK k) := by simp [copyD, hs1]
  rw [e_Behind_work]
  rw [Ex.toD] at hq hq1
  have hr1 := h1.run
  have hr2 := h2.run
  have hw := h.worths
  generalize hN1 : M.set (r + 3) (.lst (W.map .int)) = N1 at *
  generalize hN2 : N1 ++ [MO.dK k] = N2 at *
  simp [-List.map_append, -List.append_assoc, runF, m_Behind_work, startD, hq, hq1, h.run, hw, hr1, hr2, lastI, dropI, hN1, hc, hN2, hf]
end
/-! ### rules -/
section
variable {K : Nat} {rows : RT} {k : EV}
theorem runs_ite {a b c : Ex} {t1 t2 : List Int} {x : Int} {res : Res} {s1 s2 : Nat} (ha : Runs (K + 3) rows k a t1 (.val x) s1) (hb : Runs (K + 3) rows k (if x = 0 then c else b) t2 res s2) : Runs (K + 3) rows k (.ite a b c) (t1 ++ t2) res (s1 + s2 + 2) := by
  have b1 := ha.len
  have b2 := hb.len
  refine ⟨by rw [List.length_append]; omega, fun r n M ds W T d h at_ z1 z2 z3 => ?_⟩
  obtain ⟨s, h1, h2, h3, h4⟩ := at_.ex
  obtain ⟨M1, p, q, l1, p1, g1, hq, o1, A1⟩ := behind_first (K := K) (w := "if") (a := a) (n := n + s1 + s2 + 1) h h1 h2 h3 h4 (fun _ => by rw [Ex.toD]; rfl) (.inr (.inl rfl)) (fun _ => by rw [Ex.toD]; rfl) (by omega)
  obtain ⟨M2, l2, p2, g2⟩ := ha.go r (n + s2 + 1) M1 _ W T _ g1 A1 (by simp; omega) (by omega) (by omega)
  have o2 : M2[q]? = some (.ins "Behind" (wkF (Ex.ite a b c).toD s)) := p2.get hq o1
  have hs2 : M2[s]? = some (.dK k) := p2.get h2 (p1.get h2 h4)
  have g2' : RS r rows (ds ++ [.ref q]) (W ++ [x]) (T ++ t1) .non M2 := g2
  obtain ⟨M3, p', hw, p3, g3, A3⟩ := behind_ite (K := K) a b c x (g2'.setD ds) hq (by rw [get_ne (by omega)]; exact o2) h2 (by rw [get_ne (by omega)]; exact hs2) (by omega)
  have l3 := L_step (n := n + s2) g2' hq o2 (wk_work _ _) rfl hw
  obtain ⟨M4, l4, p4, g4⟩ := hb.go r n M3 _ W (T ++ t1) _ g3 A3 (by omega) (by omega) (by simp; omega)
  refine ⟨M4, ?_, ((p1.trans p2).trans ((Pres.set (j := r + 2) (by omega) (by omega)).trans p3)).trans p4, ?_⟩
  · rw [show n + (s1 + s2 + 2) = n + s1 + s2 + 1 + 1 by omega, l1, show n + s1 + s2 + 1 = n + s2 + 1 + s1 by omega, l2, l3, l4]
  · rw [← List.append_assoc]
    exact g4
theorem runs_tell {a b : Ex} {t1 t2 : List Int} {x : Int} {res : Res} {s1 s2 : Nat} (ha : Runs (K + 3) rows k a t1 (.val x) s1) (hb : Runs (K + 3) rows k b t2 res s2) : Runs (K + 3) rows k (.tell a b) (t1 ++ [x] ++ t2) res (s1 + s2 + 2) := by
  have b1 := ha.len
  have b2 := hb.len
  refine ⟨by simp; omega, fun r n M ds W T d h at_ z1 z2 z3 => ?_⟩
  obtain ⟨s, h1, h2, h3, h4⟩ := at_.ex
  obtain ⟨M1, p, q, l1, p1, g1, hq, o1, A1⟩ := behind_first (K := K) (w := "tell") (a := a) (n := n + s1 + s2 + 1) h h1 h2 h3 h4 (fun _ => by rw [Ex.toD]; rfl) (.inr (.inr (.inl rfl))) (fun _ => by rw [Ex.toD]; rfl) (by omega)
  obtain ⟨M2, l2, p2, g2⟩ := ha.go r (n + s2 + 1) M1 _ W T _ g1 A1 (by simp; omega) (by omega) (by omega)
  have o2 : M2[q]? = some (.ins "Behind" (wkF (Ex.tell a b).toD s)) := p2.get hq o1
  have hs2 : M2[s]? = some (.dK k) := p2.get h2 (p1.get h2 h4)
  have g2' : RS r rows (ds ++ [.ref q]) (W ++ [x]) (T ++ t1) .non M2 := g2
  obtain ⟨M3, p', hw, p3, g3, A3⟩ := behind_tell (K := K) a b x (g2'.setD ds) hq (by rw [get_ne (by omega)]; exact o2) h2 (by rw [get_ne (by omega)]; exact hs2) (by omega) (by simp; omega)
  have l3 := L_step (n := n + s2) g2' hq o2 (wk_work _ _) rfl hw
  obtain ⟨M4, l4, p4, g4⟩ := hb.go r n M3 _ W (T ++ t1 ++ [x]) _ g3 A3 (by omega) (by omega) (by simp; omega)
  refine ⟨M4, ?_, ((p1.trans p2).trans ((Pres.set (j := r + 2) (by omega) (by omega)).trans p3)).trans p4, ?_⟩
  · rw [show n + (s1 + s2 + 2) = n + s1 + s2 + 1 + 1 by omega, l1, show n + s1 + s2 + 1 = n + s2 + 1 + s1 by omega, l2, l3, l4]
  · rw [← List.append_assoc, ← List.append_assoc]
    exact g4
theorem runs_let {y : Str} {a b : Ex} {t1 t2 : List Int} {x : Int} {res : Res} {s1 s2 : Nat} (hk : k.length ≤ 10000000) (ha : Runs (K + 3) rows k a t1 (.val x) s1) (hb : Runs (K + 3) rows (putD k (.inr y) (.int x)) b t2 res s2) : Runs (K + 3) rows k (.lt y a b) (t1 ++ t2) res (s1 + s2 + 2) := by
  have b1 := ha.len
  have b2 := hb.len
  refine ⟨by rw [List.length_append]; omega, fun r n M ds W T d h at_ z1 z2 z3 => ?_⟩
  obtain ⟨s, h1, h2, h3, h4⟩ := at_.ex
  obtain ⟨M1, p, q, l1, p1, g1, hq, o1, A1⟩ := behind_first (K := K) (w := "let") (a := a) (n := n + s1 + s2 + 1) h h1 h2 h3 h4 (fun _ => by rw [Ex.toD]; rfl) (.inl rfl) (fun _ => by rw [Ex.toD]; rfl) (by omega)
  obtain ⟨M2, l2, p2, g2⟩ := ha.go r (n + s2 + 1) M1 _ W T _ g1 A1 (by simp; omega) (by omega) (by omega)
  have o2 : M2[q]? = some (.ins "Behind" (wkF (Ex.lt y a b).toD s)) := p2.get hq o1
  have hs2 : M2[s]? = some (.dK k) := p2.get h2 (p1.get h2 h4)
  have g2' : RS r rows (ds ++ [.ref q]) (W ++ [x]) (T ++ t1) .non M2 := g2
  obtain ⟨M3, p', hw, p3, g3, A3⟩ := behind_let (K := K) y a b x (g2'.setD ds) hq (by rw [get_ne (by omega)]; exact o2) h2 (by rw [get_ne (by omega)]; exact hs2) (by omega) hk
  have l3 := L_step (n := n + s2) g2' hq o2 (wk_work _ _) rfl hw
  obtain ⟨M4, l4, p4, g4⟩ := hb.go r n M3 _ W (T ++ t1) _ g3 A3 (by omega) (by omega) (by simp; omega)
  refine ⟨M4, ?_, ((p1.trans p2).trans ((Pres.set (j := r + 2) (by omega) (by omega)).trans p3)).trans p4, ?_⟩
  · rw [show n + (s1 + s2 + 2) = n + s1 + s2 + 1 + 1 by omega, l1, show n + s1 + s2 + 1 = n + s2 + 1 + s1 by omega, l2, l3, l4]
  · rw [← List.append_assoc]
    exact g4
theorem runs_stop {a : Ex} {t1 : List Int} {x : Int} {s1 : Nat} (ha : Runs (K + 3) rows k a t1 (.val x) s1) : Runs (K + 3) rows k (.stop a) t1 (.fin (.tup [.str "stop", .int x])) (s1 + 2) := by
  have b1 := ha.len
  refine ⟨by omega, fun r n M ds W T d h at_ z1 z2 z3 => ?_⟩
  obtain ⟨s, h1, h2, h3, h4⟩ := at_.ex
  obtain ⟨M1, p, q, l1, p1, g1, hq, o1, A1⟩ := behind_first (K := K) (w := "stop") (a := a) (n := n + s1 + 1) h h1 h2 h3 h4 (fun _ => by rw [Ex.toD]; rfl) (.inr (.inr (.inr rfl))) (fun _ => by rw [Ex.toD]; rfl) (by omega)
  obtain ⟨M2, l2, p2, g2⟩ := ha.go r (n + 1) M1 _ W T _ g1 A1 (by simp; omega) (by omega) (by omega)
  have o2 : M2[q]? = some (.ins "Behind" (wkF (Ex.stop a).toD s)) := p2.get hq o1
  have hs2 : M2[s]? = some (.dK k) := p2.get h2 (p1.get h2 h4)
  have g2' : RS r rows (ds ++ [.ref q]) (W ++ [x]) (T ++ t1) .non M2 := g2
  obtain ⟨M3, hw, p3, g3⟩ := behind_stop (K := K + 1) a x (g2'.setD ds) hq (by rw [get_ne (by omega)]; exact o2) h2 (by rw [get_ne (by omega)]; exact hs2)
  have l3 := L_step (n := n) g2' hq o2 (wk_work _ _) rfl hw
  refine ⟨M3, ?_, (p1.trans p2).trans ((Pres.set (j := r + 2) (by omega) (by omega)).trans p3), by simp, ds, W, g3⟩
  rw [show n + (s1 + 2) = n + s1 + 1 + 1 by omega, l1, show n + s1 + 1 = n + 1 + s1 by omega, l2, l3]
/-- the first part ends the run -/
theorem runs_behind_fin {e a : Ex} {w : Str} {t1 : List Int} {f : D} {s1 : Nat} (hw1 : ∀ N, idxD N e.toD (.int 0) = some (.val (.str w))) (hw : w = "let" ∨ w = "if" ∨ w = "tell" ∨ w = "stop") (hp : ∀ N, idxD N e.toD (.int (if w = "let" then 2 else 1)) = some (.val a.toD)) (ha : Runs (K + 3) rows k a t1 (.fin f) s1) : Runs (K + 3) rows k e t1 (.fin f) (s1 + 1) := by
  have b1 := ha.len
  refine ⟨by omega, fun r n M ds W T d h at_ z1 z2 z3 => ?_⟩
  obtain ⟨s, h1, h2, h3, h4⟩ := at_.ex
  obtain ⟨M1, p, q, l1, p1, g1, hq, o1, A1⟩ := behind_first (K := K) (w := w) (a := a) (n := n + s1) h h1 h2 h3 h4 hw1 hw hp (by omega)
  obtain ⟨M2, l2, p2, g2⟩ := ha.go r n M1 _ W T _ g1 A1 (by simp; omega) (by omega) (by omega)
  refine ⟨M2, ?_, p1.trans p2, ?_⟩
  · rw [show n + (s1 + 1) = n + s1 + 1 by omega, l1, l2]
  · obtain ⟨he, ds', W', g⟩ := g2
    exact ⟨he, ds', W', g⟩
end
end K15
namespace K15
open PySem L2 TP
set_option maxHeartbeats 4000000
theorem mapB (W : List Int) (x y : Int) : W.map D.int ++ [.int x, .int y] = (W ++ [x] ++ [y]).map D.int := by rw [List.map_append, List.map_append, List.append_assoc]; rfl
/-! ### times -/
section
variable {K r q s : Nat} {rows : RT} {ds : List D} {W T : List Int} {M : Store} {e0 : D} {k : EV}
theorem begin_far (t : D) (x y : Int) (h : RS r rows ds (W ++ [x] ++ [y]) T e0 M) (hq5 : r + 5 ≤ q) (hq : M[q]? = some (.ins "Begin" (wkF t s))) (hx : 1000 < x) (hW : W.length ≤ 10000000) :
    ∃ M', sem (K + 2) f_Begin_work [.ref q, .ref r] M = .ok (.val .non) M' ∧ Pres r M M' ∧ RS r rows ds (W ++ [y]) T (.tup [.str "far"]) M' := by
  have h1 := h.setW (W ++ [x])
  have h2 := h1.setW W
  rw [set_set] at h2
  have h3 := h2.setW (W ++ [y])
  rw [set_set] at h3
  have hf := finish_ok K h3 (.tup [.str "far"])
  refine ⟨_, ?_, (Pres.set (j := r + 3) (by omega) (by omega)).trans (Pres.set (j := r) (by omega) (by omega)), h3.setE _⟩
  have hW2 : W.length < 16777216 := by omega
  rw [e_Begin_work]
  simp [-List.map_append, -List.append_assoc, runF, m_Begin_work, startD, h.run, h.worths, h1.run, h1.worths, h2.run, h2.worths, h3.run, lastI, dropI, set_set, hW2, mapA, hx, hf]
theorem begin_go (t : D) (x y : Int) (h : RS r rows ds (W ++ [x] ++ [y]) T e0 M) (hq5 : r + 5 ≤ q) (hq : M[q]? = some (.ins "Begin" (wkF t s))) (hx : x ≤ 1000) (hW : W.length ≤ 10000000) (hz : ds.length ≤ 10000000) :
    ∃ M' p, sem (K + 2) f_Begin_work [.ref q, .ref r] M = .ok (.val .non) M' ∧ Pres r M M' ∧ RS r rows (ds ++ [.ref p]) (W ++ [y]) T e0 M' ∧ r + 5 ≤ p ∧ M'[p]? = some (.ins "Round" (rdF t s 0 x)) := by
  have hl := h.len
  have h1 := h.setW (W ++ [x])
  have h2 := h1.setW W
  rw [set_set] at h2
  have h3 := h2.setW (W ++ [y])
  rw [set_set] at h3
  have hq3 : (M.set (r + 3) (.lst ((W ++ [y]).map .int)))[q]? = some (.ins "Begin" (wkF t s)) := by rw [get_ne (by omega)]; exact hq
  have hi := round_init K (M.set (r + 3) (.lst ((W ++ [y]).map .int))) t s 0 x
  rw [List.length_set] at hi
  have h4 := h3.app [.ins "Round" (rdF t s 0 x)]
  have he := at_end (M.set (r + 3) (.lst ((W ++ [y]).map .int))) (.ins "Round" (rdF t s 0 x))
  refine ⟨_, (M.set (r + 3) (.lst ((W ++ [y]).map .int))).length, ?_, ((Pres.set (j := r + 3) (by omega) (by omega)).trans (Pres.app _)).trans (Pres.set (j := r + 2) (by omega) (by omega)), h4.setD _, by rw [List.length_set]; omega, by rw [get_ne (by rw [List.length_set]; omega)]; exact he⟩
  have hW2 : W.length < 16777216 := by omega
  have hz2 : ds.length < 16777216 := by omega
  have hx2 : ¬ 1000 < x := by omega
  have hr4 := h4.run
  have hd4 := h4.deeds
  have hr3 := h3.run
  rw [e_Begin_work]
  have hd3 := h3.deeds
  simp [-List.map_append, -List.append_assoc, runF, m_Begin_work, startD, h.run, h.worths, h1.run, h1.worths, h2.run, h2.worths, h3.run, hd3, hq3, lastI, dropI, set_set, hW2, mapA, hx2]
  generalize M.set (r + 3) (.lst ((W ++ [y]).map .int)) = N at *
  simp [-List.map_append, -List.append_assoc, hi, hd4, hz2]
theorem round_end (t : D) (a b : Int) (hq : M[q]? = some (.ins "Round" (rdF t s a b))) (hab : b ≤ a) : sem (K + 1) f_Round_work [.ref q, .ref r] M = .ok (.val .non) M := by
  have h1 : ¬ a < b := by omega
  rw [e_Round_work]
  simp [runF, m_Round_work, startD, hq, h1]
theorem round_go (A B : D) (i x : Str) (c : Ex) (a b v : Int) (h : RS r rows ds (W ++ [v]) T e0 M) (hq5 : r + 5 ≤ q) (hq : M[q]? = some (.ins "Round" (rdF (.tup [.str "times", A, .str i, .str x, B, c.toD]) s a b))) (hs5 : r + 5 ≤ s) (hs : M[s]? = some (.dK k)) (hab : a < b) (hz : ds.length ≤ 10000000) (hk : k.length ≤ 10000000) :
    ∃ M' p o, sem (K + 3) f_Round_work [.ref q, .ref r] M = .ok (.val .non) M' ∧ Pres r M M' ∧ RS r rows (ds ++ [.ref o] ++ [.ref p]) W T e0 M' ∧ r + 5 ≤ o ∧ M'[o]? = some (.ins "Round" (rdF (.tup [.str "times", A, .str i, .str x, B, c.toD]) s (a + 1) b)) ∧ At r M' p c (putD (putD k (.inr i) (.int a)) (.inr x) (.int v)) := by
  have hl := h.len
  have hsl := (List.getElem?_eq_some_iff.mp hs).1
  have hql := (List.getElem?_eq_some_iff.mp hq).1
  have hW := h.setW W
  have hc : copyD M (.ref s) = some (.dK k) := by simp [copyD, hs]
  have hk2 : k.length < 16777216 := by omega
  have hk3 : (putD k (.inr i) (.int a)).length < 16777216 := by
    unfold putD
    split
    · rw [List.length_map]; omega
    · rw [List.length_append, List.length_singleton]; omega
  have u1 : dPutM (M ++ [.dK k]) (.ref M.length) (.str i) (.int a) = some (M ++ [.dK (putD k (.inr i) (.int a))]) := by
    unfold dPutM
    simp [at_end, keyD, set_end, hk2]
  have e1 : ∀ o, (M ++ [o]).set (r + 3) (.lst (W.map .int)) = M.set (r + 3) (.lst (W.map .int)) ++ [o] := fun o => set_app_lt (by omega)
  have u2 : dPutM (M.set (r + 3) (.lst (W.map .int)) ++ [.dK (putD k (.inr i) (.int a))]) (.ref M.length) (.str x) (.int v) = some (M.set (r + 3) (.lst (W.map .int)) ++ [.dK (putD (putD k (.inr i) (.int a)) (.inr x) (.int v))]) := by
    have := at_end (M.set (r + 3) (.lst (W.map .int))) (.dK (putD k (.inr i) (.int a)))
    have g2 := set_end (M.set (r + 3) (.lst (W.map .int))) (.dK (putD k (.inr i) (.int a))) (.dK (putD (putD k (.inr i) (.int a)) (.inr x) (.int v)))
    rw [List.length_set] at this g2
    unfold dPutM
    simp only [this, keyD]
    simp [hk3, g2]
  have f1 := get_app (M' := [.dK k]) hq
  have f2 := get_app (M' := [.dK (putD k (.inr i) (.int a))]) hq
  have hqW : (M.set (r + 3) (.lst (W.map .int)))[q]? = some (.ins "Round" (rdF (.tup [.str "times", A, .str i, .str x, B, c.toD]) s a b)) := by rw [get_ne (by omega)]; exact hq
  have f3 := get_app (M' := [.dK (putD k (.inr i) (.int a))]) hqW
  have f4 := get_app (M' := [.dK (putD (putD k (.inr i) (.int a)) (.inr x) (.int v))]) hqW
  have h1 := h.app [.dK (putD k (.inr i) (.int a))]
  have h4 := hW.app [.dK (putD (putD k (.inr i) (.int a)) (.inr x) (.int v))]
  have hd4 := at_end (M.set (r + 3) (.lst (W.map .int))) (.dK (putD (putD k (.inr i) (.int a)) (.inr x) (.int v)))
  rw [List.length_set] at hd4
  have hlen4 : (M.set (r + 3) (.lst (W.map .int)) ++ [MO.dK (putD (putD k (.inr i) (.int a)) (.inr x) (.int v))]).length = M.length + 1 := by rw [List.length_append, List.length_set]; rfl
  generalize hN4 : M.set (r + 3) (.lst (W.map .int)) ++ [MO.dK (putD (putD k (.inr i) (.int a)) (.inr x) (.int v))] = N4 at *
  have hi := round_init (K + 1) N4 (.tup [.str "times", A, .str i, .str x, B, c.toD]) s (a + 1) b
  have h5 := h4.app [.ins "Round" (rdF (.tup [.str "times", A, .str i, .str x, B, c.toD]) s (a + 1) b)]
  have f5 := get_app (M' := [.ins "Round" (rdF (.tup [.str "times", A, .str i, .str x, B, c.toD]) s (a + 1) b)]) f4
  have hd5 := get_app (M' := [.ins "Round" (rdF (.tup [.str "times", A, .str i, .str x, B, c.toD]) s (a + 1) b)]) hd4
  have ho5 := at_end N4 (.ins "Round" (rdF (.tup [.str "times", A, .str i, .str x, B, c.toD]) s (a + 1) b))
  have hlen5 : (N4 ++ [MO.ins "Round" (rdF (.tup [.str "times", A, .str i, .str x, B, c.toD]) s (a + 1) b)]).length = M.length + 2 := by rw [List.length_append, hlen4]; rfl
  have hr5 := h5.run
  have hr4 := h4.run
  have p4 : Pres r M N4 := by rw [← hN4]; exact (Pres.set (j := r + 3) (by omega) (by omega)).trans (Pres.app _)
  rw [hlen4] at hi ho5
  generalize hN5 : N4 ++ [MO.ins "Round" (rdF (.tup [.str "times", A, .str i, .str x, B, c.toD]) s (a + 1) b)] = N5 at *
  have p5 : Pres r M N5 := by rw [← hN5]; exact p4.trans (Pres.app _)
  have hla := later_ok K h5 (.ref (M.length + 1)) (.inr ⟨_, rfl⟩) [c.toD] M.length (by show ds.length + 1 ≤ _; omega)
  have hb0 : bhL (.ref (M.length + 1)) = [.ref (M.length + 1)] := rfl
  simp only [hb0, List.reverse_singleton, wkL, rfL, List.map_cons, List.map_nil, hlen5] at hla
  have he6 := at_end N5 (.ins "Work" (wkF c.toD M.length))
  rw [hlen5] at he6
  refine ⟨(N5 ++ [MO.ins "Work" (wkF c.toD M.length)]).set (r + 2) (MO.lst (ds ++ [D.ref (M.length + 1)] ++ [D.ref (M.length + 2)])), M.length + 2, M.length + 1, ?_, (p5.trans (Pres.app _)).trans (Pres.set (j := r + 2) (by omega) (by omega)), (h5.app _).setD _, by omega, ?_, M.length, by omega, by omega, ?_, ?_⟩
  · have i5 : ∀ N, idxD N (.tup [.str "times", A, .str i, .str x, B, c.toD]) (.int 5) = some (.val c.toD) := fun _ => rfl
    have i2 : ∀ N, idxD N (.tup [.str "times", A, .str i, .str x, B, c.toD]) (.int 2) = some (.val (.str i)) := fun _ => rfl
    have i3 : ∀ N, idxD N (.tup [.str "times", A, .str i, .str x, B, c.toD]) (.int 3) = some (.val (.str x)) := fun _ => rfl
    have hr1 := h1.run
    have hw1 := h1.worths
    rw [e_Round_work]
    simp [-List.map_append, -List.append_assoc, runF, m_Round_work, startD, hq, hab, hc, f1, i2, u1, f2, hr1, hw1, lastI, dropI, e1, f3, i3, u2, f4, hr4, hlen4, hi, f5, i5, hla, hN5]
  · rw [get_ne (by omega)]
    exact get_app ho5
  · rw [get_ne (by omega)]
    exact he6
  · rw [get_ne (by omega)]
    exact get_app hd5
end
end K15
namespace K15
open PySem L2 TP
set_option maxHeartbeats 4000000
/-- the rounds that are left: number a of b, v is the worth so far -/
structure Rounds (K : Nat) (rows : RT) (k : EV) (i x : Str) (c : Ex) (a b v : Int) (t : List Int) (res : Res) (st : Nat) : Prop where
  len : t.length ≤ st
  go : ∀ (r n : Nat) (M : Store) (ds : List D) (W T : List Int) (q s : Nat) (A B : D), RS r rows (ds ++ [.ref q]) (W ++ [v]) T .non M → r + 5 ≤ q → M[q]? = some (.ins "Round" (rdF (.tup [.str "times", A, .str i, .str x, B, c.toD]) s a b)) → r + 5 ≤ s → M[s]? = some (.dK k) →
    ds.length + 8 * st ≤ 10000000 → W.length + 8 * st ≤ 10000000 → T.length + 8 * st ≤ 10000000 → ∃ M', L K r (n + st) M = L K r n M' ∧ Pres r M M' ∧ Post r rows ds W (T ++ t) M' res
section
variable {K : Nat} {rows : RT} {k : EV} {i x : Str} {c : Ex}
theorem rounds_end (v : Int) {a b : Int} (h : b ≤ a) : Rounds (K + 1) rows k i x c a b v [] (.val v) 1 := by
  refine ⟨Nat.zero_le _, fun r n M ds W T q s A B g hq o hs hk z1 z2 z3 => ?_⟩
  have hw := round_end (K := K) (r := r) (q := q) (s := s) (M := M.set (r + 2) (.lst ds)) _ a b (by rw [get_ne (by omega)]; exact o) h
  refine ⟨_, L_step g hq o (rd_work _ _ _ _) rfl hw, Pres.set (j := r + 2) (by omega) (by omega), ?_⟩
  rw [List.append_nil]
  exact g.setD ds
theorem rounds_step {a b v v' : Int} {t1 t2 : List Int} {res : Res} {s1 s2 : Nat} (h : a < b) (hk : k.length ≤ 10000000) (hc : Runs (K + 3) rows (putD (putD k (.inr i) (.int a)) (.inr x) (.int v)) c t1 (.val v') s1) (hr : Rounds (K + 3) rows k i x c (a + 1) b v' t2 res s2) : Rounds (K + 3) rows k i x c a b v (t1 ++ t2) res (s1 + s2 + 1) := by
  have b1 := hc.len
  have b2 := hr.len
  refine ⟨by rw [List.length_append]; omega, fun r n M ds W T q s A B g hq o hs hk1 z1 z2 z3 => ?_⟩
  obtain ⟨M1, p, o1, hw, p1, g1, ho, oo, A1⟩ := round_go (K := K) A B i x c a b v (g.setD ds) hq (by rw [get_ne (by omega)]; exact o) hs (by rw [get_ne (by omega)]; exact hk1) h (by omega) hk
  have l1 := L_step (n := n + s1 + s2) g hq o (rd_work _ _ _ _) rfl hw
  obtain ⟨M2, l2, p2, g2⟩ := hc.go r (n + s2) M1 _ W T _ g1 A1 (by simp; omega) (by omega) (by omega)
  have q1 := (Pres.set (M := M) (j := r + 2) (o := .lst ds) (r := r) (by omega) (by omega)).trans p1
  obtain ⟨M3, l3, p3, g3⟩ := hr.go r n M2 ds W (T ++ t1) o1 s A B g2 ho (p2.get ho oo) hs (p2.get hs (q1.get hs hk1)) (by omega) (by omega) (by simp; omega)
  refine ⟨M3, ?_, (q1.trans p2).trans p3, ?_⟩
  · rw [show n + (s1 + s2 + 1) = n + s1 + s2 + 1 by omega, l1, show n + s1 + s2 = n + s2 + s1 by omega, l2, l3]
  · rw [← List.append_assoc]
    exact g3
theorem rounds_fin {a b v : Int} {t1 : List Int} {e : D} {s1 : Nat} (h : a < b) (hk : k.length ≤ 10000000) (hc : Runs (K + 3) rows (putD (putD k (.inr i) (.int a)) (.inr x) (.int v)) c t1 (.fin e) s1) : Rounds (K + 3) rows k i x c a b v t1 (.fin e) (s1 + 1) := by
  have b1 := hc.len
  refine ⟨by omega, fun r n M ds W T q s A B g hq o hs hk1 z1 z2 z3 => ?_⟩
  obtain ⟨M1, p, o1, hw, p1, g1, ho, oo, A1⟩ := round_go (K := K) A B i x c a b v (g.setD ds) hq (by rw [get_ne (by omega)]; exact o) hs (by rw [get_ne (by omega)]; exact hk1) h (by omega) hk
  have l1 := L_step (n := n + s1) g hq o (rd_work _ _ _ _) rfl hw
  obtain ⟨M2, l2, p2, g2⟩ := hc.go r n M1 _ W T _ g1 A1 (by simp; omega) (by omega) (by omega)
  have q1 := (Pres.set (M := M) (j := r + 2) (o := .lst ds) (r := r) (by omega) (by omega)).trans p1
  refine ⟨M2, ?_, q1.trans p2, ?_⟩
  · rw [show n + (s1 + 1) = n + s1 + 1 by omega, l1, l2]
  · obtain ⟨he, ds', W', g⟩ := g2
    exact ⟨he, ds', W', g⟩
theorem times_first {a b : Ex} {r n : Nat} {M : Store} {ds : List D} {W T : List Int} {d : Nat} (h : RS r rows (ds ++ [.ref d]) W T .non M) (at_ : At r M d (.times a i x b c) k) (hz : ds.length ≤ 10000000) :
    ∃ M1 p q s, L (K + 3) r (n + 1) M = L (K + 3) r n M1 ∧ Pres r M M1 ∧ RS r rows (ds ++ [.ref q] ++ [.ref p] ++ [.ref (p + 1)]) W T .non M1 ∧ r + 5 ≤ q ∧ M1[q]? = some (.ins "Begin" (wkF (.tup [.str "times", a.toD, .str i, .str x, b.toD, c.toD]) s)) ∧ At r M1 (p + 1) a k ∧ At r M1 p b k ∧ r + 5 ≤ s ∧ M1[s]? = some (.dK k) := by
  obtain ⟨s, h1, h2, h3, h4⟩ := at_.ex
  rw [Ex.toD] at h3
  have hl := h.len
  have hs := h.setD ds
  have hd2 : (M.set (r + 2) (.lst ds))[d]? = some (.ins "Work" (wkF (.tup [.str "times", a.toD, .str i, .str x, b.toD, c.toD]) s)) := by rw [get_ne (by omega)]; exact h3
  have hw := work_times (K := K) hs a.toD (.str i) (.str x) b.toD c.toD hd2 (by omega)
  rw [List.length_set] at hw
  obtain ⟨M1, l1, p1, r1, o1, w1⟩ := first_gen (n := n) h h1 h3 hw
  refine ⟨M1, M.length + 1, M.length, s, l1, p1, ?_, by omega, o1, ⟨s, by omega, h2, w1 1 a.toD rfl, p1.get h2 h4⟩, ⟨s, by omega, h2, w1 0 b.toD rfl, p1.get h2 h4⟩, h2, p1.get h2 h4⟩
  have : ds ++ [.ref M.length] ++ [.ref (M.length + 1)] ++ [.ref (M.length + 1 + 1)] = ds ++ [.ref M.length] ++ rfL (M.length + 1) [a.toD, b.toD].reverse := by simp [rfL]
  rw [this]
  exact r1
theorem runs_times {a b : Ex} {t1 t2 t3 : List Int} {m v : Int} {res : Res} {s1 s2 s3 : Nat} (ha : Runs (K + 3) rows k a t1 (.val m) s1) (hb : Runs (K + 3) rows k b t2 (.val v) s2) (hm : m ≤ 1000) (hr : Rounds (K + 3) rows k i x c 0 m v t3 res s3) : Runs (K + 3) rows k (.times a i x b c) (t1 ++ t2 ++ t3) res (s1 + s2 + s3 + 2) := by
  have b1 := ha.len
  have b2 := hb.len
  have b3 := hr.len
  refine ⟨by simp; omega, fun r n M ds W T d h at_ z1 z2 z3 => ?_⟩
  obtain ⟨M1, p, q, s, l1, p1, g1, hq, o1, A1, B1, hs5, hs⟩ := times_first (K := K) (n := n + s1 + s2 + s3 + 1) h at_ (by omega)
  obtain ⟨M2, l2, p2, g2⟩ := ha.go r (n + s2 + s3 + 1) M1 _ W T _ g1 A1 (by simp; omega) (by omega) (by omega)
  obtain ⟨M3, l3, p3, g3⟩ := hb.go r (n + s3 + 1) M2 _ _ _ _ g2 (B1.pres p2) (by simp; omega) (by simp; omega) (by simp; omega)
  have o3 := p3.get hq (p2.get hq o1)
  have g3' : RS r rows (ds ++ [.ref q]) (W ++ [m] ++ [v]) (T ++ t1 ++ t2) .non M3 := g3
  obtain ⟨M4, o4, hw, p4, g4, ho, oo⟩ := begin_go (K := K + 1) _ m v (g3'.setD ds) hq (by rw [get_ne (by omega)]; exact o3) hm (by omega) (by omega)
  have l4 := L_step (n := n + s3) g3' hq o3 (wk_work _ _) rfl hw
  have q4 := (Pres.set (M := M3) (j := r + 2) (o := .lst ds) (r := r) (by omega) (by omega)).trans p4
  have hs4 : M4[s]? = some (.dK k) := q4.get hs5 (p3.get hs5 (p2.get hs5 hs))
  obtain ⟨M5, l5, p5, g5⟩ := hr.go r n M4 ds W (T ++ t1 ++ t2) o4 s _ _ g4 ho oo hs5 hs4 (by omega) (by omega) (by simp; omega)
  refine ⟨M5, ?_, (((p1.trans p2).trans p3).trans q4).trans p5, ?_⟩
  · rw [show n + (s1 + s2 + s3 + 2) = n + s1 + s2 + s3 + 1 + 1 by omega, l1, show n + s1 + s2 + s3 + 1 = n + s2 + s3 + 1 + s1 by omega, l2, show n + s2 + s3 + 1 = n + s3 + 1 + s2 by omega, l3, l4, l5]
  · rw [← List.append_assoc, ← List.append_assoc]
    exact g5
theorem runs_times_far {a b : Ex} {t1 t2 : List Int} {m v : Int} {s1 s2 : Nat} (ha : Runs (K + 3) rows k a t1 (.val m) s1) (hb : Runs (K + 3) rows k b t2 (.val v) s2) (hm : 1000 < m) : Runs (K + 3) rows k (.times a i x b c) (t1 ++ t2) (.fin (.tup [.str "far"])) (s1 + s2 + 2) := by
  have b1 := ha.len
  have b2 := hb.len
  refine ⟨by simp; omega, fun r n M ds W T d h at_ z1 z2 z3 => ?_⟩
  obtain ⟨M1, p, q, s, l1, p1, g1, hq, o1, A1, B1, hs5, hs⟩ := times_first (K := K) (n := n + s1 + s2 + 1) h at_ (by omega)
  obtain ⟨M2, l2, p2, g2⟩ := ha.go r (n + s2 + 1) M1 _ W T _ g1 A1 (by simp; omega) (by omega) (by omega)
  obtain ⟨M3, l3, p3, g3⟩ := hb.go r (n + 1) M2 _ _ _ _ g2 (B1.pres p2) (by simp; omega) (by simp; omega) (by simp; omega)
  have o3 := p3.get hq (p2.get hq o1)
  have g3' : RS r rows (ds ++ [.ref q]) (W ++ [m] ++ [v]) (T ++ t1 ++ t2) .non M3 := g3
  obtain ⟨M4, hw, p4, g4⟩ := begin_far (K := K + 1) _ m v (g3'.setD ds) hq (by rw [get_ne (by omega)]; exact o3) hm (by omega)
  have l4 := L_step (n := n) g3' hq o3 (wk_work _ _) rfl hw
  have q4 := (Pres.set (M := M3) (j := r + 2) (o := .lst ds) (r := r) (by omega) (by omega)).trans p4
  refine ⟨M4, ?_, ((p1.trans p2).trans p3).trans q4, by simp, ds, W ++ [v], ?_⟩
  · rw [show n + (s1 + s2 + 2) = n + s1 + s2 + 1 + 1 by omega, l1, show n + s1 + s2 + 1 = n + s2 + 1 + s1 by omega, l2, show n + s2 + 1 = n + 1 + s2 by omega, l3, l4]
  · rw [← List.append_assoc]
    exact g4
theorem runs_times_fin1 {a b : Ex} {t1 : List Int} {e : D} {s1 : Nat} (ha : Runs (K + 3) rows k a t1 (.fin e) s1) : Runs (K + 3) rows k (.times a i x b c) t1 (.fin e) (s1 + 1) := by
  have b1 := ha.len
  refine ⟨by omega, fun r n M ds W T d h at_ z1 z2 z3 => ?_⟩
  obtain ⟨M1, p, q, s, l1, p1, g1, hq, o1, A1, B1, hs5, hs⟩ := times_first (K := K) (n := n + s1) h at_ (by omega)
  obtain ⟨M2, l2, p2, g2⟩ := ha.go r n M1 _ W T _ g1 A1 (by simp; omega) (by omega) (by omega)
  refine ⟨M2, ?_, p1.trans p2, ?_⟩
  · rw [show n + (s1 + 1) = n + s1 + 1 by omega, l1, l2]
  · obtain ⟨he, ds', W', g⟩ := g2
    exact ⟨he, ds', W', g⟩
theorem runs_times_fin2 {a b : Ex} {t1 t2 : List Int} {m : Int} {e : D} {s1 s2 : Nat} (ha : Runs (K + 3) rows k a t1 (.val m) s1) (hb : Runs (K + 3) rows k b t2 (.fin e) s2) : Runs (K + 3) rows k (.times a i x b c) (t1 ++ t2) (.fin e) (s1 + s2 + 1) := by
  have b1 := ha.len
  have b2 := hb.len
  refine ⟨by rw [List.length_append]; omega, fun r n M ds W T d h at_ z1 z2 z3 => ?_⟩
  obtain ⟨M1, p, q, s, l1, p1, g1, hq, o1, A1, B1, hs5, hs⟩ := times_first (K := K) (n := n + s1 + s2) h at_ (by omega)
  obtain ⟨M2, l2, p2, g2⟩ := ha.go r (n + s2) M1 _ W T _ g1 A1 (by simp; omega) (by omega) (by omega)
  obtain ⟨M3, l3, p3, g3⟩ := hb.go r n M2 _ _ _ _ g2 (B1.pres p2) (by simp; omega) (by simp; omega) (by simp; omega)
  refine ⟨M3, ?_, (p1.trans p2).trans p3, ?_⟩
  · rw [show n + (s1 + s2 + 1) = n + s1 + s2 + 1 by omega, l1, show n + s1 + s2 = n + s2 + s1 by omega, l2, l3]
  · obtain ⟨he, ds', W', g⟩ := g3
    rw [List.append_assoc] at g
    exact ⟨he, ds', W', g⟩
end
end K15
namespace K15
open PySem L2 TP
set_option maxHeartbeats 4000000
/-! ### calls -/
theorem rfL_app : ∀ (xs ys : List D) (n : Nat), rfL n (xs ++ ys) = rfL n xs ++ rfL (n + xs.length) ys
  | [], ys, n => rfl
  | x :: xs, ys, n => by
    rw [List.cons_append, rfL, rfL, rfL_app xs ys, List.length_cons, List.cons_append]
    congr 3
    omega
def PostL (r : Nat) (rows : RT) (ds : List D) (W T : List Int) (M : Store) : Sum (List Int) D → Prop
  | .inl vs => RS r rows ds (W ++ vs) T .non M
  | .inr e => e ≠ .non ∧ ∃ ds' W', RS r rows ds' W' T e M
/-- several expressions, one behind the other -/
structure RunsL (K : Nat) (rows : RT) (k : EV) (es : List Ex) (t : List Int) (res : Sum (List Int) D) (st : Nat) : Prop where
  len : t.length ≤ st
  cnt : ∀ vs, res = .inl vs → vs.length = es.length ∧ es.length ≤ st
  go : ∀ (r n : Nat) (M : Store) (ds : List D) (W T : List Int) (p : Nat), RS r rows (ds ++ rfL p (es.reverse.map Ex.toD)) W T .non M → (∀ (j : Nat) (x : Ex), es.reverse[j]? = some x → At r M (p + j) x k) →
    ds.length + es.length + 8 * st ≤ 10000000 → W.length + 8 * st ≤ 10000000 → T.length + 8 * st ≤ 10000000 → ∃ M', L K r (n + st) M = L K r n M' ∧ Pres r M M' ∧ PostL r rows ds W (T ++ t) M' res
section
variable {K : Nat} {rows : RT} {k : EV}
theorem runsL_nil : RunsL K rows k [] [] (.inl []) 0 := by
  refine ⟨Nat.le_refl _, fun vs e => by cases e; exact ⟨rfl, Nat.le_refl _⟩, fun r n M ds W T p h a z1 z2 z3 => ⟨M, rfl, Pres.refl _ _, ?_⟩⟩
  show RS r rows ds (W ++ []) (T ++ []) .non M
  rw [List.append_nil, List.append_nil]
  simpa [rfL] using h
theorem runsL_cons {e : Ex} {es : List Ex} {t1 t2 : List Int} {v : Int} {vs : List Int} {s1 s2 : Nat} (he : Runs K rows k e t1 (.val v) s1) (hes : RunsL K rows k es t2 (.inl vs) s2) : RunsL K rows k (e :: es) (t1 ++ t2) (.inl (v :: vs)) (s1 + s2) := by
  have b1 := he.len
  have b2 := hes.len
  have c2 := hes.cnt vs rfl
  refine ⟨by rw [List.length_append]; omega, fun ws e => by cases e; rw [List.length_cons, List.length_cons]; omega, fun r n M ds W T p h a z1 z2 z3 => ?_⟩
  rw [List.length_cons] at z1
  rw [List.reverse_cons, List.map_append, rfL_app, ← List.append_assoc, List.length_map, List.length_reverse] at h
  obtain ⟨M1, l1, p1, g1⟩ := he.go r (n + s2) M _ W T (p + es.length) h (a es.length e (by rw [List.reverse_cons, List.getElem?_append_right (by simp), List.length_reverse, Nat.sub_self]; rfl)) (by rw [List.length_append, rfL_len, List.length_map, List.length_reverse]; omega) (by omega) (by omega)
  obtain ⟨M2, l2, p2, g2⟩ := hes.go r n M1 ds (W ++ [v]) (T ++ t1) p g1 (fun j x hx => (a j x (by rw [List.reverse_cons, List.getElem?_append_left (List.getElem?_eq_some_iff.mp hx).1]; exact hx)).pres p1) (by omega) (by simp; omega) (by simp; omega)
  refine ⟨M2, ?_, p1.trans p2, ?_⟩
  · rw [show n + (s1 + s2) = n + s2 + s1 by omega, l1, l2]
  · show RS r rows ds (W ++ v :: vs) (T ++ (t1 ++ t2)) .non M2
    have g2' : RS r rows ds (W ++ [v] ++ vs) (T ++ t1 ++ t2) .non M2 := g2
    rw [List.append_assoc, List.append_assoc] at g2'
    exact g2'
theorem runsL_fin1 {e : Ex} {es : List Ex} {t1 : List Int} {d : D} {s1 : Nat} (he : Runs K rows k e t1 (.fin d) s1) : RunsL K rows k (e :: es) t1 (.inr d) s1 := by
  have b1 := he.len
  refine ⟨by omega, fun ws e => (by cases e), fun r n M ds W T p h a z1 z2 z3 => ?_⟩
  rw [List.length_cons] at z1
  rw [List.reverse_cons, List.map_append, rfL_app, ← List.append_assoc, List.length_map, List.length_reverse] at h
  obtain ⟨M1, l1, p1, g1⟩ := he.go r n M _ W T (p + es.length) h (a es.length e (by rw [List.reverse_cons, List.getElem?_append_right (by simp), List.length_reverse, Nat.sub_self]; rfl)) (by rw [List.length_append, rfL_len, List.length_map, List.length_reverse]; omega) (by omega) (by omega)
  exact ⟨M1, l1, p1, g1⟩
theorem runsL_fin2 {e : Ex} {es : List Ex} {t1 t2 : List Int} {v : Int} {d : D} {s1 s2 : Nat} (he : Runs K rows k e t1 (.val v) s1) (hes : RunsL K rows k es t2 (.inr d) s2) : RunsL K rows k (e :: es) (t1 ++ t2) (.inr d) (s1 + s2) := by
  have b1 := he.len
  have b2 := hes.len
  refine ⟨by rw [List.length_append]; omega, fun ws e => (by cases e), fun r n M ds W T p h a z1 z2 z3 => ?_⟩
  rw [List.length_cons] at z1
  rw [List.reverse_cons, List.map_append, rfL_app, ← List.append_assoc, List.length_map, List.length_reverse] at h
  obtain ⟨M1, l1, p1, g1⟩ := he.go r (n + s2) M _ W T (p + es.length) h (a es.length e (by rw [List.reverse_cons, List.getElem?_append_right (by simp), List.length_reverse, Nat.sub_self]; rfl)) (by rw [List.length_append, rfL_len, List.length_map, List.length_reverse]; omega) (by omega) (by omega)
  obtain ⟨M2, l2, p2, g2⟩ := hes.go r n M1 ds (W ++ [v]) (T ++ t1) p g1 (fun j x hx => (a j x (by rw [List.reverse_cons, List.getElem?_append_left (List.getElem?_eq_some_iff.mp hx).1]; exact hx)).pres p1) (by omega) (by simp; omega) (by simp; omega)
  refine ⟨M2, ?_, p1.trans p2, ?_⟩
  · rw [show n + (s1 + s2) = n + s2 + s1 by omega, l1, l2]
  · obtain ⟨he2, ds', W', g⟩ := g2
    rw [List.append_assoc] at g
    exact ⟨he2, ds', W', g⟩
end
section
variable {K r : Nat} {rows : RT} {ds : List D} {W T : List Int} {d s : Nat} {M : Store} {e0 : D} {k : EV}
theorem work_call (h : RS r rows ds W T e0 M) (m f : Str) (xs : List D) (hd : M[d]? = some (.ins "Work" (wkF (.tup [.str "call", .str m, .str f, .tup xs]) s))) (hz : ds.length + xs.length ≤ 10000000) :
    sem (K + 3) f_Work_work [.ref d, .ref r] M = .ok (.val .non) ((M ++ (.ins "Enter" (enF (.tup [.str "call", .str m, .str f, .tup xs])) :: wkL s xs.reverse)).set (r + 2) (.lst (ds ++ [.ref M.length] ++ rfL (M.length + 1) xs.reverse))) := by
  have hl := later_ok K (h.app [.ins "Enter" (enF (.tup [.str "call", .str m, .str f, .tup xs]))]) (.ref M.length) (.inr ⟨_, rfl⟩) xs s (by omega)
  have hi := enter_init (K + 1) M (.tup [.str "call", .str m, .str f, .tup xs])
  have hd1 : (M ++ [MO.ins "Enter" (enF (.tup [.str "call", .str m, .str f, .tup xs]))])[d]? = some (.ins "Work" (wkF (.tup [.str "call", .str m, .str f, .tup xs]) s)) := get_app hd
  have e1 : (M ++ [MO.ins "Enter" (enF (.tup [.str "call", .str m, .str f, .tup xs]))]).length = M.length + 1 := by rw [List.length_append]; rfl
  have e2 : bhL (.ref M.length) = [.ref M.length] := rfl
  have i3 : ∀ N, idxD N (.tup [.str "call", .str m, .str f, .tup xs]) (.int 3) = some (.val (.tup xs)) := fun _ => rfl
  rw [e1, e2, List.append_assoc M] at hl
  rw [e_Work_work]
  simp only [List.singleton_append] at hl
  simp [-List.append_assoc, runF, m_Work_work, startD, hd, h.run, hi, hd1, i3, hl]
theorem pops (Φ : Nat → Fn) (q : Nat) (s2 s3 s4 : Slot) : ∀ (ps : List D) (vs : List Int) (acc : List D) (M : Store), vs.length = ps.length → acc.length + ps.length ≤ 1000 → RS r rows ds (W ++ vs) T e0 M →
    lcGo (bName 5) dYes (el_Enter_work_0 Φ) [.val (.ref q), .val (.ref r), s2, s3, s4, .un] ps acc M = .ok (acc ++ (vs.map D.int).reverse) (M.set (r + 3) (.lst (W.map .int)))
  | [], vs, acc, M, hl, _, h => by
    have : vs = [] := List.eq_nil_of_length_eq_zero hl
    subst this
    rw [List.append_nil] at h
    rw [lcGo, set_self h.worths]
    simp
  | p :: ps, vs, acc, M, hl, ha, h => by
    rcases List.eq_nil_or_concat vs with rfl | ⟨vs', v, rfl⟩
    · cases hl
    rw [List.concat_eq_append] at hl h ⊢
    rw [← List.append_assoc] at h
    have h1 := h.setW (W ++ vs')
    simp only [List.length_append, List.length_cons, List.length_nil] at hl ha
    have ih := pops Φ q s2 s3 s4 ps vs' (acc ++ [.int v]) _ (by omega) (by rw [List.length_append, List.length_singleton]; omega) h1
    rw [set_set] at ih
    unfold lcGo
    have hb : bName 5 p [.val (.ref q), .val (.ref r), s2, s3, s4, .un] = some [.val (.ref q), .val (.ref r), s2, s3, s4, .val p] := rfl
    have hf : el_Enter_work_0 Φ [.val (.ref q), .val (.ref r), s2, s3, s4, .val p] M = .ok (.int v) (M.set (r + 3) (.lst ((W ++ vs').map .int))) := by
      rw [el_Enter_work_0_eq]
      simp [-List.map_append, -List.append_assoc, h.run, h.worths, lastI, dropI]
    have hacc : acc.length < sizeLine := by
      have : sizeLine = 16777216 := by rw [sizeLine_eq]
      omega
    rw [hb]
    simp only [dYes, hf, hacc, if_true]
    rw [ih, List.append_assoc, List.map_append, List.reverse_append]
    rfl
theorem enter_work (m f : Str) (ps : List Str) (b : Ex) (vs : List Int) (xs : List D) {q : Nat} (h : RS r rows ds (W ++ vs) T e0 M) (hq5 : r + 5 ≤ q) (hq : M[q]? = some (.ins "Enter" (enF (.tup [.str "call", .str m, .str f, .tup xs])))) (hlk : lookD rows [.inr m, .inr f] = some (.tup [.tup (ps.map .str), b.toD])) (hv : vs.length = ps.length) (hv8 : vs.length ≤ 100) (hz : ds.length ≤ 10000000) :
    ∃ M' p, sem (K + 3) f_Enter_work [.ref q, .ref r] M = .ok (.val .non) M' ∧ Pres r M M' ∧ RS r rows (ds ++ [.ref p]) W T e0 M' ∧ At r M' p b (envOf ps vs) := by
  have hl := h.len
  have h1 := h.setW W
  have h2 := h1.app [.dK (envOf ps vs)]
  have he := at_end (M.set (r + 3) (.lst (W.map .int))) (.dK (envOf ps vs))
  obtain ⟨M', l1, p1, r1, a1⟩ := later_one K h2 b he (by rw [List.length_set]; omega) hz
  refine ⟨M', _, ?_, ((Pres.set (j := r + 3) (by omega) (by omega)).trans (Pres.app _)).trans p1, r1, a1⟩
  have hp := pops (r := r) (rows := rows) (ds := ds) (W := W) (T := T) (e0 := e0) (sem (K + 2)) q .un (.val (.tup (ps.map .str))) (.val b.toD) (ps.map .str) vs [] M (by rw [List.length_map]; exact hv) (by rw [List.length_map]; simp; omega) h
  have hg : dgetD M (.ref (r + 1)) (.tup [.str m, .str f]) = some (.val (.tup [.tup (ps.map .str), b.toD])) := by
    simp [dgetD, dGetO, h.rows, keysD, keyD, hlk]
  have hsl : slD M (.tup [.str "call", .str m, .str f, .tup xs]) (some 1) (some 3) = some (.val (.tup [.str m, .str f])) := rfl
  have hk := keys_str ps
  have hr1 := h1.run
  have hr2 := h2.run
  generalize hN1 : M.set (r + 3) (.lst (W.map .int)) = N1 at *
  have hd2 : (MO.dK (mergeP [] ((ps.map Sum.inr).zip (vs.map .int)))) = .dK (envOf ps vs) := rfl
  generalize hN2 : N1 ++ [MO.dK (envOf ps vs)] = N2 at *
  rw [e_Enter_work]
  have hdz : ∀ s5, dDictZR (dVar 3) (dVarB 2) [.val (.ref q), .val (.ref r), .own (vs.map D.int).reverse, .val (.tup (ps.map .str)), .val b.toD, s5] N1 = .ok (.ref N1.length) N2 := fun s5 => by
    simp [dDictZR, dVar, dVarB, hk, lstOf, hd2, hN2]
  simp [-List.append_assoc, runF, m_Enter_work, startD, hq, h.run, hg, hsl, hr1, bTup, bNames, itemsD, wipeD, hp, hdz, hr2, l1]
end
section
variable {K : Nat} {rows : RT} {k : EV}
theorem call_first {m f : Str} {as : List Ex} {r n : Nat} {M : Store} {ds : List D} {W T : List Int} {d : Nat} (h : RS r rows (ds ++ [.ref d]) W T .non M) (at_ : At r M d (.call m f as) k) (hz : ds.length + as.length ≤ 10000000) :
    ∃ M1 p q, L (K + 3) r (n + 1) M = L (K + 3) r n M1 ∧ Pres r M M1 ∧ RS r rows (ds ++ [.ref q] ++ rfL p (as.reverse.map Ex.toD)) W T .non M1 ∧ r + 5 ≤ q ∧ M1[q]? = some (.ins "Enter" (enF (.tup [.str "call", .str m, .str f, .tup (as.map Ex.toD)]))) ∧ ∀ (j : Nat) (x : Ex), as.reverse[j]? = some x → At r M1 (p + j) x k := by
  obtain ⟨s, h1, h2, h3, h4⟩ := at_.ex
  rw [Ex.toD, Ex.toDs_eq] at h3
  have hl := h.len
  have hs := h.setD ds
  have hd2 : (M.set (r + 2) (.lst ds))[d]? = some (.ins "Work" (wkF (.tup [.str "call", .str m, .str f, .tup (as.map Ex.toD)]) s)) := by rw [get_ne (by omega)]; exact h3
  have hw := work_call (K := K) hs m f (as.map Ex.toD) hd2 (by rw [List.length_map]; omega)
  rw [List.length_set] at hw
  obtain ⟨M1, l1, p1, r1, o1, w1⟩ := first_gen (n := n) h h1 h3 hw
  refine ⟨M1, M.length + 1, M.length, l1, p1, ?_, by omega, o1, fun j x hx => ⟨s, by omega, h2, w1 j x.toD (by rw [← List.map_reverse, List.getElem?_map, hx]; rfl), p1.get h2 h4⟩⟩
  rw [List.map_reverse]
  exact r1
theorem runs_call {m f : Str} {as : List Ex} {ps : List Str} {b : Ex} {t1 t2 : List Int} {vs : List Int} {res : Res} {s1 s2 : Nat} (ha : RunsL (K + 3) rows k as t1 (.inl vs) s1) (h7 : as.length ≤ 7) (hlk : lookD rows [.inr m, .inr f] = some (.tup [.tup (ps.map .str), b.toD])) (hps : ps.length = as.length)
    (hb : Runs (K + 3) rows (envOf ps vs) b t2 res s2) : Runs (K + 3) rows k (.call m f as) (t1 ++ t2) res (s1 + s2 + 2) := by
  have b1 := ha.len
  have b2 := hb.len
  have c1 := ha.cnt vs rfl
  refine ⟨by rw [List.length_append]; omega, fun r n M ds W T d h at_ z1 z2 z3 => ?_⟩
  obtain ⟨M1, p, q, l1, p1, g1, hq, o1, A1⟩ := call_first (K := K) (n := n + s1 + s2 + 1) h at_ (by omega)
  obtain ⟨M2, l2, p2, g2⟩ := ha.go r (n + s2 + 1) M1 (ds ++ [.ref q]) W T p g1 A1 (by simp; omega) (by omega) (by omega)
  have o2 := p2.get hq o1
  have g2' : RS r rows (ds ++ [.ref q]) (W ++ vs) (T ++ t1) .non M2 := g2
  obtain ⟨M3, p', hw, p3, g3, A3⟩ := enter_work (K := K) m f ps b vs (as.map Ex.toD) (g2'.setD ds) hq (by rw [get_ne (by omega)]; exact o2) hlk (by omega) (by omega) (by omega)
  have l3 := L_step (n := n + s2) g2' hq o2 (en_work _) rfl hw
  obtain ⟨M4, l4, p4, g4⟩ := hb.go r n M3 _ W (T ++ t1) _ g3 A3 (by omega) (by omega) (by simp; omega)
  refine ⟨M4, ?_, ((p1.trans p2).trans ((Pres.set (j := r + 2) (by omega) (by omega)).trans p3)).trans p4, ?_⟩
  · rw [show n + (s1 + s2 + 2) = n + s1 + s2 + 1 + 1 by omega, l1, show n + s1 + s2 + 1 = n + s2 + 1 + s1 by omega, l2, l3, l4]
  · rw [← List.append_assoc]
    exact g4
theorem runs_call_fin {m f : Str} {as : List Ex} {t1 : List Int} {e : D} {s1 : Nat} (ha : RunsL (K + 3) rows k as t1 (.inr e) s1) (h7 : as.length ≤ 7) : Runs (K + 3) rows k (.call m f as) t1 (.fin e) (s1 + 1) := by
  have b1 := ha.len
  refine ⟨by omega, fun r n M ds W T d h at_ z1 z2 z3 => ?_⟩
  obtain ⟨M1, p, q, l1, p1, g1, hq, o1, A1⟩ := call_first (K := K) (n := n + s1) h at_ (by omega)
  obtain ⟨M2, l2, p2, g2⟩ := ha.go r n M1 (ds ++ [.ref q]) W T p g1 A1 (by simp; omega) (by omega) (by omega)
  refine ⟨M2, ?_, p1.trans p2, ?_⟩
  · rw [show n + (s1 + 1) = n + s1 + 1 by omega, l1, l2]
  · exact g2
end
end K15
namespace K15
open PySem L2 TP
set_option maxHeartbeats 4000000
/-! ### what a run told, shown; the laws' numbers -/
theorem fit_val {v : Int} (hv : v.natAbs < 10 ^ 62) : Fit 200 3 (resD (.val v)) := by
  have h : Fit 12 2 (.str "value") := Fit.str (by decide +kernel)
  have h2 : Fit 63 2 (.int v) := Fit.int (by decide) (by decide) hv
  exact ((FitL.cons h (FitL.cons h2 FitL.nil)).tup).mono (by decide) (by decide)
theorem der_run {M : Store} {q : Nat} {T : List Int} {d : D} (hq : M[q]? = some (.lst (T.map .int))) (hd : goodD d = true) : derD M (.tup [.ref q, d]) = .tup [.lst (T.map .int), d] := by
  have h2 : ∀ n, (T.map D.int).map (dd n M) = T.map D.int := fun n => by
    rw [List.map_map]
    apply List.map_congr_left
    intro i _
    cases n <;> simp [dd, mapR]
  unfold derD
  rw [dd]
  simp only [mapR, mapRL]
  rw [hq, mapR_good d hd]
  simp only
  rw [h2]
def shownOf (T : List Int) (d : D) : Str := (toPy (.tup [.lst (T.map .int), d])).shown
theorem fit_out {T : List Int} {d : D} (hl : T.length ≤ 2002) (ht : ∀ t ∈ T, t.natAbs < 10 ^ 62) (hd : Fit 200 3 d) : Fit 200000 6 (.tup [.lst (T.map .int), d]) := by
  have h1 : FitL 130130 2 (T.map .int) := FitL.upto (n := 63) (c := 2002) (fun x hx => by
    obtain ⟨t, h, rfl⟩ := List.mem_map.mp hx
    exact Fit.int (by decide) (by decide) (ht t h)) (by rw [List.length_map]; exact hl) (by decide)
  exact ((FitL.cons (h1.lst) (FitL.cons hd FitL.nil)).tup).mono (by decide) (by decide)
theorem repr_lst {T : List Int} {d : D} (h : Fit 200000 6 (.tup [.lst (T.map .int), d])) (M : Store) : reprD M [.tup [.lst (T.map .int), d]] = some (.val (.str (shownOf T d))) := h.repr (by decide) (by decide) M
theorem repr_run {T : List Int} {d : D} (h : Fit 200000 6 (.tup [.lst (T.map .int), d])) (hd : goodD d = true) {M : Store} {q : Nat} (hq : M[q]? = some (.lst (T.map .int))) : reprD M [.tup [.ref q, d]] = some (.val (.str (shownOf T d))) := by
  rw [← repr_lst h M]
  unfold reprD
  simp only
  rw [der_run hq hd, der_good M h.good]
theorem cellB (K : Nat) (ns : List Int) (hl : ns.length ≤ 63) {j : Nat} {k : Int} {M : Store} (hj : M[j]? = some (.lst [.int k])) (h0 : -1 ≤ k) (h1 : k < 2 ^ 40) :
    ∃ r : Int, (0 ≤ r ∧ r < 306783379) ∧ sem (K + 1) f__law_cell [.fro (ns.map .int), .ref j] M = .ok (.val (.int r)) (M.set j (.lst [.int (k + 1)])) :=
  cell_genB _ ns (fun M => by show some (Slot.val (D.int (List.map D.int ns).length)) = _; rw [List.length_map]) (fun M i => rfl) j k M hl hj h0 h1
theorem putD_len (k : EV) (x : Key) (v : D) : (putD k x v).length ≤ k.length + 1 := by
  unfold putD
  split
  · rw [List.length_map]; omega
  · rw [List.length_append, List.length_singleton]; omega
theorem sgn_plus (x y : Int) : sgn "+" x y = some (x + y) := by simp only [sgn, if_true]
section
variable {K : Nat} {rows : RT} {k : EV} {a b c : Ex} {t1 : List Int} {f : D} {s1 : Nat}
theorem runs_let_fin {y : Str} (ha : Runs (K + 3) rows k a t1 (.fin f) s1) : Runs (K + 3) rows k (.lt y a b) t1 (.fin f) (s1 + 1) :=
  runs_behind_fin (w := "let") (fun _ => by rw [Ex.toD]; rfl) (.inl rfl) (fun _ => by rw [Ex.toD]; rfl) ha
theorem runs_ite_fin (ha : Runs (K + 3) rows k a t1 (.fin f) s1) : Runs (K + 3) rows k (.ite a b c) t1 (.fin f) (s1 + 1) :=
  runs_behind_fin (w := "if") (fun _ => by rw [Ex.toD]; rfl) (.inr (.inl rfl)) (fun _ => by rw [Ex.toD]; rfl) ha
theorem runs_tell_fin (ha : Runs (K + 3) rows k a t1 (.fin f) s1) : Runs (K + 3) rows k (.tell a b) t1 (.fin f) (s1 + 1) :=
  runs_behind_fin (w := "tell") (fun _ => by rw [Ex.toD]; rfl) (.inr (.inr (.inl rfl))) (fun _ => by rw [Ex.toD]; rfl) ha
theorem runs_stop_fin (ha : Runs (K + 3) rows k a t1 (.fin f) s1) : Runs (K + 3) rows k (.stop a) t1 (.fin f) (s1 + 1) :=
  runs_behind_fin (w := "stop") (fun _ => by rw [Ex.toD]; rfl) (.inr (.inr (.inr rfl))) (fun _ => by rw [Ex.toD]; rfl) ha
end
end K15
namespace K15
open PySem L2 TP
set_option maxHeartbeats 4000000
/-! ### the sums -/
def numI (n : Int) (k : Nat) : Int := 1 + (n + k) % 3
def numE (n : Int) (k : Nat) : Ex := if (n / 3 + k) % 9 = 0 then .tell (.num k) (.num (numI n k)) else .num (numI n k)
def deepE (n : Int) (e : Ex) : Nat → Ex
  | 0 => e
  | k + 1 => .op "+" (numE n k) (deepE n e k)
def toldE (n : Int) : Nat → List Int
  | 0 => []
  | k + 1 => (if (n / 3 + k) % 9 = 0 then [(k : Int)] else []) ++ toldE n k
def moreE (n : Int) : Nat → Int
  | 0 => 0
  | k + 1 => moreE n k + numI n k
theorem moreE_b (n : Int) : ∀ h : Nat, 0 ≤ moreE n h ∧ moreE n h ≤ 3 * h
  | 0 => ⟨Int.le_refl _, by simp [moreE]⟩
  | h + 1 => by
    have := moreE_b n h
    rw [moreE, numI]
    omega
theorem toldE_len (n : Int) : ∀ h : Nat, (toldE n h).length ≤ h
  | 0 => Nat.le_refl _
  | h + 1 => by
    have := toldE_len n h
    rw [toldE, List.length_append]
    split <;> simp <;> omega
theorem toldE_b (n : Int) : ∀ (h : Nat) (i : Int), i ∈ toldE n h → i.natAbs ≤ h
  | 0, i, hi => by simp [toldE] at hi
  | h + 1, i, hi => by
    rw [toldE] at hi
    rcases List.mem_append.mp hi with hi | hi
    · split at hi
      · rw [List.mem_singleton] at hi; omega
      · cases hi
    · have := toldE_b n h i hi; omega
theorem moreE_sum (n : Int) : ∀ h : Nat, ((List.range h).map fun (k : Nat) => numI n k).sum = moreE n h
  | 0 => rfl
  | h + 1 => by
    rw [List.range_succ, List.map_append, List.sum_append, moreE_sum n h, moreE]
    simp
def numS (n : Int) (k : Nat) : Nat := if (n / 3 + k) % 9 = 0 then 4 else 1
def deepS (n : Int) (st : Nat) : Nat → Nat
  | 0 => st
  | k + 1 => numS n k + deepS n st k + 2
theorem deepS_le (n : Int) (st : Nat) : ∀ h, deepS n st h ≤ st + 6 * h
  | 0 => Nat.le_refl _
  | h + 1 => by
    have := deepS_le n st h
    rw [deepS, numS]
    split <;> omega
section
variable {K : Nat} {rows : RT} {k : EV}
theorem runs_numE (n : Int) (j : Nat) : Runs (K + 3) rows k (numE n j) (if (n / 3 + j) % 9 = 0 then [(j : Int)] else []) (.val (numI n j)) (numS n j) := by
  unfold numE numS
  split
  · exact runs_tell (runs_num (K + 2) rows k _) (runs_num (K + 2) rows k _)
  · exact runs_num (K + 2) rows k _
theorem runs_deep (n : Int) {e : Ex} {t : List Int} {v : Int} {st : Nat} (h : Runs (K + 3) rows k e t (.val v) st) : ∀ j : Nat, Runs (K + 3) rows k (deepE n e j) (toldE n j ++ t) (.val (moreE n j + v)) (deepS n st j)
  | 0 => by rw [show moreE n 0 + v = v by simp [moreE]]; exact h
  | j + 1 => by
    have hr := runs_deep n h j
    have hr1 := runs_numE (K := K) (rows := rows) (k := k) n j
    have h2 := runs_op_val hr1 hr (sgn_plus _ _)
    rw [deepE, toldE, moreE, deepS, List.append_assoc, show moreE n j + numI n j + v = numI n j + (moreE n j + v) by omega]
    exact h2
end
/-! ### the table of functions -/
structure Fn15 where
  m : Str
  f : Str
  told : List Int
  one : Int
  other : Int
  more : Int
  b : Ex
def Fn15.tab (e : Fn15) : D := .tup [.lst (e.told.map .int), .int e.one, .int e.other, .int e.more]
def Fn15.kv (e : Fn15) : List Key × D := ([.inr e.m, .inr e.f], e.tab)
def Fn15.key (e : Fn15) : D := .tup [.str e.m, .str e.f]
def Fn15.row (e : Fn15) : Str × Row := (e.m, ⟨e.f, ["x", "y"], e.b⟩)
def Fn15.nm (e : Fn15) : Str × Str := (e.m, e.f)
def Cov (rows : RT) (es : List Fn15) : Prop := ∀ e ∈ es, lookD rows [.inr e.m, .inr e.f] = some (.tup [.tup ((["x", "y"] : List Str).map .str), e.b.toD])
structure Ok15 (B : Nat) (es : List Fn15) (e : Fn15) : Prop where
  run : ∃ st, st ≤ 200 * B ∧ ∀ (K : Nat) (rows : RT) (x y : Int), Cov rows es → Runs (K + 3) rows (envOf ["x", "y"] [x, y]) e.b e.told (.val (e.one * x + e.other * y + e.more)) st
  co : (e.one = 1 ∧ e.other = 0) ∨ (e.one = 0 ∧ e.other = 1)
  more : 0 ≤ e.more ∧ e.more ≤ 50 * B
  len : e.told.length ≤ 17 * B
  each : ∀ i ∈ e.told, i.natAbs ≤ 17
structure Tab (es : List Fn15) : Prop where
  ok : ∀ e ∈ es, Ok15 es.length es e
  nd : (es.map Fn15.nm).Nodup
theorem Ok15.mono {B B' : Nat} {es es' : List Fn15} {e : Fn15} (hB : B ≤ B') (hs : ∀ e ∈ es, e ∈ es') (h : Ok15 B es e) : Ok15 B' es' e := by
  obtain ⟨st, h1, h2⟩ := h.run
  have := h.more
  have := h.len
  exact ⟨⟨st, by omega, fun K rows x y c => h2 K rows x y fun e he => c e (hs e he)⟩, h.co, by omega, by omega, h.each⟩
theorem Tab.push {es : List Fn15} {e : Fn15} (h : Tab es) (ok : Ok15 (es.length + 1) es e) (hn : e.nm ∉ es.map Fn15.nm) : Tab (es ++ [e]) := by
  refine ⟨fun e' he => ?_, ?_⟩
  · rw [List.length_append, List.length_singleton]
    rcases List.mem_append.mp he with he | he
    · exact (h.ok e' he).mono (Nat.le_succ _) fun x hx => List.mem_append_left _ hx
    · rw [List.mem_singleton] at he
      subst he
      exact ok.mono (Nat.le_refl _) fun x hx => List.mem_append_left _ hx
  · rw [List.map_append, List.nodup_append]
    refine ⟨h.nd, by simp, fun a ha b hb => ?_⟩
    simp at hb
    subst hb
    exact fun z => hn (z ▸ ha)
theorem env_x (x y : Int) : lookD (envOf ["x", "y"] [x, y]) (.inr "x") = some (.int x) := by rfl
theorem env_y (x y : Int) : lookD (envOf ["x", "y"] [x, y]) (.inr "y") = some (.int y) := by rfl
/-- a function that calls none -/
theorem ok_use (m f : Str) (n : Int) (h : Nat) (hh : h ≤ 16) (B : Nat) (hB : 1 ≤ B) (es : List Fn15) : Ok15 B es ⟨m, f, toldE n h ++ [], 1, 0, 0 + moreE n h, deepE n (.use "x") h⟩ := by
  have h1 := moreE_b n h
  have h2 := toldE_len n h
  have h3 := deepS_le n 1 h
  refine ⟨⟨deepS n 1 h, by omega, fun K rows x y _ => ?_⟩, .inl ⟨rfl, rfl⟩, by show 0 ≤ 0 + moreE n h ∧ 0 + moreE n h ≤ _; omega, by simp; omega, fun i hi => ?_⟩
  · have := runs_deep n (runs_use (K + 2) rows (envOf ["x", "y"] [x, y]) "x" x (env_x x y)) h
    rw [show (1 : Int) * x + 0 * y + (0 + moreE n h) = moreE n h + x by omega]
    exact this
  · rw [List.append_nil] at hi
    have := toldE_b n h i hi
    omega
def argsE (t : Bool) : List Ex := if t then [.use "y", .use "x"] else [.use "x", .use "y"]
/-- a function that calls one ahead -/
theorem ok_call (m f : Str) (n : Int) (h : Nat) (hh : h ≤ 16) (B : Nat) (es : List Fn15) (e : Fn15) (he : e ∈ es) (ok : Ok15 B es e) (t : Bool) :
    Ok15 (B + 1) es ⟨m, f, toldE n h ++ e.told, if t then e.other else e.one, if t then e.one else e.other, e.more + moreE n h, deepE n (.call e.m e.f (argsE t)) h⟩ := by
  have h1 := moreE_b n h
  have h2 := toldE_len n h
  obtain ⟨st, hst, hr⟩ := ok.run
  have h3 := deepS_le n (2 + st + 2) h
  have h4 := ok.more
  have h5 := ok.len
  refine ⟨⟨deepS n (2 + st + 2) h, by omega, fun K rows x y c => ?_⟩, ?_, by show 0 ≤ e.more + moreE n h ∧ e.more + moreE n h ≤ _; omega, by simp; omega, fun i hi => ?_⟩
  · have hx := runs_use (K + 2) rows (envOf ["x", "y"] [x, y]) "x" x (env_x x y)
    have hy := runs_use (K + 2) rows (envOf ["x", "y"] [x, y]) "y" y (env_y x y)
    cases t with
    | false =>
      have h6 := runs_call (m := e.m) (f := e.f) (as := argsE false) (runsL_cons hx (runsL_cons hy runsL_nil)) (by decide) (c e he) rfl (hr K rows x y c)
      have h7 := runs_deep n h6 h
      simp only [Bool.false_eq_true, if_false]
      rw [show e.one * x + e.other * y + (e.more + moreE n h) = moreE n h + (e.one * x + e.other * y + e.more) by omega]
      exact h7
    | true =>
      have h6 := runs_call (m := e.m) (f := e.f) (as := argsE true) (runsL_cons hy (runsL_cons hx runsL_nil)) (by decide) (c e he) rfl (hr K rows y x c)
      have h7 := runs_deep n h6 h
      simp only [if_true]
      rw [show e.other * x + e.one * y + (e.more + moreE n h) = moreE n h + (e.one * y + e.other * x + e.more) by omega]
      exact h7
  · rcases ok.co with ⟨a, b⟩ | ⟨a, b⟩ <;> cases t <;> simp [a, b]
  · rcases List.mem_append.mp hi with hi | hi
    · have := toldE_b n h i hi
      omega
    · exact ok.each i hi
/-! ### programs of such functions -/
theorem look_merge {κ : Type} [DecidableEq κ] : ∀ (xs acc : List (κ × D)) (k : κ) (v : D), (xs.map (·.1)).Nodup → (k, v) ∈ xs → lookD (mergeP acc xs) k = some v
  | y :: xs, acc, k, v, hn, hx => by
    rw [List.map_cons, List.nodup_cons] at hn
    show lookD (mergeP (putD acc y.1 y.2) xs) k = some v
    rcases List.mem_cons.mp hx with rfl | hx
    · have keep : ∀ (zs : List (κ × D)) (ac : List (κ × D)), k ∉ zs.map (·.1) → lookD (mergeP ac zs) k = lookD ac k := by
        intro zs
        induction zs with
        | nil => intro ac _; rfl
        | cons z zs ih =>
          intro ac hz
          rw [List.map_cons, List.mem_cons, not_or] at hz
          show lookD (mergeP (putD ac z.1 z.2) zs) k = lookD ac k
          rw [ih _ hz.2, look_put, if_neg (fun e => hz.1 e.symm)]
      rw [keep xs _ hn.1, look_put, if_pos rfl]
    · exact look_merge xs _ k v hn.2 hx
def ky (p : Str × Str) : List Key := [.inr p.1, .inr p.2]
theorem ky_inj {p q : Str × Str} (h : ky p = ky q) : p = q := by
  injection h with e1 e2
  injection e2 with e2 _
  exact Prod.ext (Sum.inr.inj e1) (Sum.inr.inj e2)
theorem ky_nd {es : List Fn15} (h : (es.map Fn15.nm).Nodup) : (es.map fun e => ky e.nm).Nodup := by
  have e : (es.map fun e => ky e.nm) = (es.map Fn15.nm).map ky := by rw [List.map_map]; rfl
  rw [e]
  exact List.pairwise_map.mpr (List.Pairwise.imp (fun {a b} hne e => hne (ky_inj e)) h)
theorem cov_of {es : List Fn15} {P : Pr} (hf : flat P = es.map Fn15.row) (hn : (es.map Fn15.nm).Nodup) : Cov (rowsT P) es := fun e he => by
  unfold rowsT
  rw [hf]
  refine look_merge _ _ _ _ ?_ (List.mem_map.mpr ⟨e.row, List.mem_map.mpr ⟨e, he, rfl⟩, rfl⟩)
  rw [List.map_map, List.map_map]
  exact ky_nd hn
/-- the table as a dict -/
theorem tab_look {es : List Fn15} (hn : (es.map Fn15.nm).Nodup) {e : Fn15} (he : e ∈ es) : lookD (es.map Fn15.kv) [.inr e.m, .inr e.f] = some e.tab := by
  have h := look_merge (es.map Fn15.kv) [] [.inr e.m, .inr e.f] e.tab (by rw [List.map_map]; exact ky_nd hn) (List.mem_map.mpr ⟨e, he, rfl⟩)
  rw [← h]
  congr 1
  have key : ∀ (xs acc : List Fn15), ((acc ++ xs).map Fn15.nm).Nodup → mergeP (acc.map Fn15.kv) (xs.map Fn15.kv) = (acc ++ xs).map Fn15.kv := by
    intro xs
    induction xs with
    | nil => intro acc _; rw [List.append_nil]; rfl
    | cons x xs ih =>
      intro acc hd
      show mergeP (putD (acc.map Fn15.kv) x.kv.1 x.kv.2) (xs.map Fn15.kv) = _
      have hp : putD (acc.map Fn15.kv) x.kv.1 x.kv.2 = (acc ++ [x]).map Fn15.kv := by
        unfold putD
        rw [if_neg, List.map_append]
        · rfl
        · intro ha
          obtain ⟨z, hz, hz2⟩ := List.any_eq_true.mp ha
          obtain ⟨w, hw, rfl⟩ := List.mem_map.mp hz
          have e1 : w.nm = x.nm := ky_inj (of_decide_eq_true hz2)
          rw [List.map_append, List.nodup_append] at hd
          exact hd.2.2 w.nm (List.mem_map.mpr ⟨w, hw, rfl⟩) x.nm (List.mem_map.mpr ⟨x, List.mem_cons_self, rfl⟩) e1
      rw [hp, ih (acc ++ [x]) (by rw [List.append_assoc]; exact hd), List.append_assoc]
      rfl
  exact (key es [] (by simpa using hn)).symm
theorem tab_put {es : List Fn15} {e : Fn15} (hn : e.nm ∉ es.map Fn15.nm) : putD (es.map Fn15.kv) [.inr e.m, .inr e.f] e.tab = (es ++ [e]).map Fn15.kv := by
  unfold putD
  rw [if_neg, List.map_append]
  · rfl
  · intro ha
    obtain ⟨z, hz, hz2⟩ := List.any_eq_true.mp ha
    obtain ⟨w, hw, rfl⟩ := List.mem_map.mp hz
    have e1 : w.nm = e.nm := ky_inj (of_decide_eq_true hz2)
    exact hn (List.mem_map.mpr ⟨w, hw, e1⟩)
theorem keysT_eq (es : List Fn15) : keysT (es.map Fn15.kv) = es.map Fn15.key := by
  unfold keysT
  rw [List.map_map]
  rfl
end K15
namespace K15
open PySem L2 TP
set_option maxHeartbeats 4000000
theorem deep_ok (K : Nat) (n : Int) (e : Ex) (h : Nat) (hh : h ≤ 100) (H : Int) (hH : (h : Int) = H) {j : Nat} {M : Store} (hj : M[j]? = some (.lst [])) :
    sem (K + 1) f__law_deep [.int n, e.toD, .int H, .ref j] M = .ok (.val (deepE n e h).toD) (M.set j (.lst ((toldE n h).map .int))) := by
  obtain ⟨ρ', M', hk, s4, s5, rfl, rfl⟩ := forGo_all (b := bName 4) (body := lp__law_deep_0 (sem K)) (fun i ρ N => ∃ s4 s5, ρ = [.val (.int n), .val (deepE n e i).toD, .val (.int H), .val (.ref j), s4, s5] ∧ N = M.set j (.lst ((toldE n i).map .int))) (rngL 0 h)
    (ρ := [.val (.int n), .val e.toD, .val (.int H), .val (.ref j), .un, .un]) (M := M) ⟨.un, .un, rfl, by rw [toldE]; exact (set_self hj).symm⟩
    (fun i d ρ N hd ⟨s4, s5, e1, e2⟩ => by
      subst e1 e2
      obtain ⟨hi, hdd⟩ := rngL_get hd
      rw [Int.zero_add] at hdd
      have g1 := get_set (b := .lst ((toldE n i).map .int)) hj
      have hl := toldE_len n i
      generalize hN : M.set j (.lst ((toldE n i).map .int)) = N at *
      obtain ⟨iz, hiz⟩ : ∃ iz : Int, (i : Int) = iz := ⟨_, rfl⟩
      rw [hiz] at hdd
      subst hdd
      refine ⟨_, rfl, _, _, ?_, .val (.int iz), .val (numE n i).toD, rfl, rfl⟩
      have hs : N.set j (.lst ((toldE n (i + 1)).map .int)) = M.set j (.lst ((toldE n (i + 1)).map .int)) := by rw [← hN, set_set]
      rw [← hs, lp__law_deep_0_eq]
      have hl2 : (toldE n i).length < 16777216 := by omega
      by_cases hc : (n / 3 + iz) % 9 = 0
      · have e3 : toldE n (i + 1) = iz :: toldE n i := by rw [toldE, hiz, if_pos hc]; rfl
        have e4 : numE n i = .tell (.num iz) (.num (1 + (n + iz) % 3)) := by rw [numE, numI, hiz, if_pos hc]
        simp [hc, g1, hl2, e3, deepE, e4, Ex.toD, bName]
      · have e3 : toldE n (i + 1) = toldE n i := by rw [toldE, hiz, if_neg hc]; rfl
        have e4 : numE n i = .num (1 + (n + iz) % 3) := by rw [numE, numI, hiz, if_neg hc]
        simp [hc, g1, hl2, e3, deepE, e4, Ex.toD, bName, set_self g1])
  rw [rngL_len] at hk
  have hr : rng1D [.int H] = some (rngL 0 h) := by
    rw [rng1_ok (by omega) (by omega), ← hH]
    rfl
  rw [e__law_deep]
  simp [-rng1D_int, runF, m__law_deep, startD, hr, hk]
end K15
namespace K15
open PySem L2 TP
set_option maxHeartbeats 4000000
theorem keys_good : ∀ (es : List Fn15), (∀ e ∈ es, okStr e.m = true ∧ okStr e.f = true) → goodL (es.map Fn15.key) = true ∧ dpL (es.map Fn15.key) ≤ 1
  | [], _ => ⟨rfl, by decide⟩
  | e :: es, h => by
    obtain ⟨h1, h2⟩ := keys_good es fun x hx => h x (List.mem_cons_of_mem _ hx)
    obtain ⟨a, b⟩ := h e List.mem_cons_self
    have h3 : goodD e.key = true := by
      show (okStr e.m && (okStr e.f && true)) = true
      rw [a, b]; rfl
    have h4 : dpD e.key ≤ 1 := by simp [Fn15.key, dpD, dpL]
    rw [List.map_cons, goodL, dpL, h1, h3]
    exact ⟨rfl, by omega⟩
theorem keys_ne (es : List Fn15) (h : ∀ e ∈ es, okStr e.m = true ∧ okStr e.f = true) (M : Store) : neD M (.lst (es.map Fn15.key)) (.lst []) = some (.val (.bl (!es.isEmpty))) := by
  obtain ⟨h1, h2⟩ := keys_good es h
  rw [neD_of M (by rw [goodD]; exact h1) (by decide +kernel) (by rw [dpD]; omega)]
  cases es <;> rfl
theorem sum_ok (n : Int) (h : Nat) (hh : h ≤ 100) (Φ : Nat → Fn) (ρ : EnvD) (M : Store) (N : Int) (hN : ρ[8]? = some (.val (.int N))) (hn : N / 816 = n) (h22 : ρ.length = 23) :
    lcGo (bName 22) dYes (el__law_functions_0 Φ) ρ (rngL 0 h) [] M = .ok (((List.range h).map fun (k : Nat) => numI n k).map .int) M := by
  have h2 := lcGo_mp (b := bName 22) (f := el__law_functions_0 Φ) (ρ0 := ρ) (M := M) (fun k : Nat => D.int (0 + (k : Int))) (fun k => .int (numI n k)) (List.range h) (fun k hk => ⟨ρ.set 22 (.val (.int (0 + (k : Int)))), by simp [bName, h22], ?_⟩) (by rw [List.length_range]; omega)
  · unfold rngL
    rw [List.map_map]
    exact h2
  · have e1 : (ρ.set 22 (.val (.int (0 + (k : Int)))))[8]? = some (.val (.int N)) := by rw [List.getElem?_set_ne (by decide)]; exact hN
    have e2 : (ρ.set 22 (.val (.int (0 + (k : Int)))))[22]? = some (.val (.int (0 + (k : Int)))) := List.getElem?_set_self (by omega)
    rw [Int.zero_add] at e1 e2 ⊢
    simp [el__law_functions_0_eq, e1, e2, hn, numI]
theorem ints_of (ks : List Int) : intsOf (ks.map D.int) = some ks := by
  induction ks with
  | nil => rfl
  | cons k ks ih => rw [List.map_cons, intsOf, ih]; rfl
structure NewFn (es : List Fn15) (m f : Str) (e : Fn15) : Prop where
  m : e.m = m
  f : e.f = f
  tab : Tab (es ++ [e])
theorem fn_ok (K : Nat) (ns : List Int) (hns : ns.length ≤ 63) (s2 s4 s7 s8 s9 s10 s11 s12 s13 s14 s15 s16 s17 s18 s19 s20 s21 : Slot) (jt : Nat) (m f : Str) (acc : List D) (hacc : acc.length ≤ 100) (es : List Fn15) (hes : es.length ≤ 96) (T : Tab es) (hok : ∀ e ∈ es, okStr e.m = true ∧ okStr e.f = true)
    (hnew : (m, f) ∉ es.map Fn15.nm) (c : Int) (M : Store) (h0 : M[0]? = some (.lst [.int c])) (hc : -1 ≤ c) (hc2 : c < 2 ^ 40) (hjt : M[jt]? = some (.dT (es.map Fn15.kv))) (hj0 : jt ≠ 0) :
    ∃ e, NewFn es m f e ∧ ∃ M' u8 u9 u10 u11 u12 u13 u14 u15 u16 u17 u18 u19 u20 u21, M'[0]? = some (.lst [.int (c + 1)]) ∧ M'[jt]? = some (.dT ((es ++ [e]).map Fn15.kv)) ∧
      lp__law_functions_0 (sem (K + 1)) [.val (.fro (ns.map .int)), .val (.ref 0), s2, .val (.ref jt), s4, .val (.str m), .own acc, .val (.str f), s8, s9, s10, s11, s12, s13, s14, s15, s16, s17, s18, s19, s20, s21, .un] M
        = .next [.val (.fro (ns.map .int)), .val (.ref 0), s2, .val (.ref jt), s4, .val (.str m), .own (acc ++ [Row.toD e.row.2]), .val (.str f), u8, u9, u10, u11, u12, u13, u14, u15, u16, u17, u18, u19, u20, u21, .un] M' := by
  obtain ⟨r, br, hr⟩ := cellB K ns hns h0 hc (by omega)
  have g0 : (M.set 0 (.lst [.int (c + 1)]))[0]? = some (.lst [.int (c + 1)]) := get_set h0
  have gt : (M.set 0 (.lst [.int (c + 1)]))[jt]? = some (.dT (es.map Fn15.kv)) := by rw [get_ne (Ne.symm hj0)]; exact hjt
  generalize hM1 : M.set 0 (.lst [.int (c + 1)]) = M1 at *
  obtain ⟨Hh, hHh⟩ : ∃ Hh, r % 17 = Hh := ⟨_, rfl⟩
  obtain ⟨h, hH, hh2⟩ : ∃ h : Nat, (h : Int) = Hh ∧ h ≤ 16 := ⟨Hh.toNat, by omega, by omega⟩
  obtain ⟨n, hn⟩ : ∃ n, r / 816 = n := ⟨_, rfl⟩
  have m0 : mulOk 2 0 = true := mulOk_l (by decide) (by decide)
  have m1 : mulOk 2 1 = true := mulOk_l (by decide) (by decide)
  have hjt1 : jt < M1.length := (List.getElem?_eq_some_iff.mp gt).1
  have h01 : 0 < M1.length := (List.getElem?_eq_some_iff.mp g0).1
  -- the told list
  have gtold : (M1 ++ [MO.lst []])[M1.length]? = some (.lst []) := at_end M1 _
  have gt2 : (M1 ++ [MO.lst []])[jt]? = some (.dT (es.map Fn15.kv)) := get_app gt
  have hdeep := fun e => deep_ok K n e h (by omega) Hh hH gtold
  rw [set_end] at hdeep
  have gt3 : (M1 ++ [MO.lst ((toldE n h).map .int)])[jt]? = some (.dT (es.map Fn15.kv)) := get_app gt
  have gtl3 : (M1 ++ [MO.lst ((toldE n h).map .int)])[M1.length]? = some (.lst ((toldE n h).map .int)) := at_end M1 _
  have g03 : (M1 ++ [MO.lst ((toldE n h).map .int)])[0]? = some (.lst [.int (c + 1)]) := get_app g0
  have hrg : rng1D [.int Hh] = some (rngL 0 h) := by
    rw [rng1_ok (by omega) (by omega), ← hH]
    rfl
  have hkne := keys_ne es hok
  obtain ⟨SL, hSL⟩ : ∃ SL, ((List.range h).map fun (k : Nat) => numI n k).map D.int = SL := ⟨_, rfl⟩
  have hsum : ∀ N, sumD N [.lst SL] = some (.val (.int (moreE n h))) := fun N => by
    rw [← hSL]
    have : intsOf (((List.range h).map fun (k : Nat) => numI n k).map D.int) = some ((List.range h).map fun (k : Nat) => numI n k) := ints_of _
    simp only [sumD, seqOf, lstOf, this, Option.map_some, moreE_sum]
  have htl := toldE_len n h
  have put : ∀ e : Fn15, e.m = m → e.f = f → ∃ M', M'[0]? = some (.lst [.int (c + 1)]) ∧ M'[jt]? = some (.dT ((es ++ [e]).map Fn15.kv)) ∧ (M1 ++ [MO.lst ((toldE n h).map .int)]).set jt (.dT (putD (es.map Fn15.kv) [.inr m, .inr f] e.tab)) = M' := fun e e1 e2 => by
    have hp := tab_put (es := es) (e := e) (by show (e.m, e.f) ∉ _; rw [e1, e2]; exact hnew)
    rw [e1, e2] at hp
    rw [hp]
    exact ⟨_, by rw [get_ne hj0]; exact g03, get_set gt3, rfl⟩
  have hkvl : (es.map Fn15.kv).length = es.length := List.length_map ..
  by_cases hcall : es ≠ [] ∧ 0 < r / 17 % 8
  · obtain ⟨hne, h8⟩ := hcall
    have hpos : 0 < es.length := List.length_pos_iff.mpr hne
    obtain ⟨ix, hix⟩ : ∃ ix, (if r / 136 % 3 < (es.length : Int) - 1 then (es.length : Int) - 1 - r / 136 % 3 else 0) = ix := ⟨_, rfl⟩
    obtain ⟨e, he, hat⟩ := atI_mem (xs := es) (i := ix) (by rw [← hix]; split <;> omega) (by rw [← hix]; split <;> omega)
    have hat2 := atI_map Fn15.key es ix
    rw [hat] at hat2
    have hlk := tab_look T.nd he
    obtain ⟨t, ht⟩ : ∃ t : Bool, t = decide (r / 408 % 2 = 1) := ⟨_, rfl⟩
    have Hok := ok_call m f n h hh2 es.length es e he (T.ok e he) t
    refine ⟨⟨m, f, toldE n h ++ e.told, if t then e.other else e.one, if t then e.one else e.other, e.more + moreE n h, deepE n (.call e.m e.f (argsE t)) h⟩, ⟨rfl, rfl, T.push Hok hnew⟩, ?_⟩
    obtain ⟨M', p1, p2, p3⟩ := put ⟨m, f, toldE n h ++ e.told, if t then e.other else e.one, if t then e.one else e.other, e.more + moreE n h, deepE n (.call e.m e.f (argsE t)) h⟩ rfl rfl
    have hl := (T.ok e he).len
    have hls : ∀ N : Store, N[jt]? = some (.dT (es.map Fn15.kv)) → listTD N [.ref jt] = some (.own (es.map Fn15.key)) := fun N hN => by
      simp only [listTD, hN, keysT_eq]
    have hget : ∀ N : Store, N[jt]? = some (.dT (es.map Fn15.kv)) → dgetD N (.ref jt) (.tup [.str e.m, .str e.f]) = some (.val e.tab) := fun N hN => by
      simp [dgetD, dGetO, hN, keysD, keyD, hlk]
    have hls2 := hls _ gt2
    have hmx : ∀ (N : Store) (x : Int), max2D N [.int 0, .int x] = some (.val (.int (if 0 < x then x else 0))) := fun _ _ => rfl
    have hget2 := hget _ gt2
    have hsm := fun ρ h8 h22 => sum_ok n h (by omega) (sem (K + 1)) ρ (M1 ++ [MO.lst ((toldE n h).map .int)]) r h8 hn h22
    simp only [hSL] at hsm
    have hnee : es.isEmpty = false := by cases es with | nil => exact absurd rfl hne | cons _ _ => rfl
    rw [hnee] at hkne
    have hzz : (toldE n h).length + e.told.length ≤ 16777216 := by omega
    have hacc2 : acc.length < 16777216 := by omega
    have hdz : (es.map Fn15.kv).length < 16777216 := by omega
    have hkl : (es.map Fn15.key).length = es.length := List.length_map ..
    rw [show Fn15.key = fun e : Fn15 => D.tup [.str e.m, .str e.f] from rfl] at hat2
    simp only [Option.map_some] at hat2
    rw [show (fun e : Fn15 => D.tup [.str e.m, .str e.f]) = Fn15.key from rfl] at hat2
    have hd1 := hdeep (.call e.m e.f (argsE t))
    generalize hKK : es.map Fn15.key = KK at *
    generalize hKV : es.map Fn15.kv = KV at *
    generalize hTT : ((toldE n h).map D.int) = TT at *
    generalize hET : e.told.map D.int = ET at *
    have hTTl : TT.length = (toldE n h).length := by rw [← hTT, List.length_map]
    have hETl : ET.length = e.told.length := by rw [← hET, List.length_map]
    have hadd : ∀ N : Store, N[M1.length]? = some (.lst TT) → addD N (.ref M1.length) (.lst ET) = some (.own (TT ++ ET)) := fun N hN => by
      have : lstOf N (.ref M1.length) = some TT := by simp [lstOf, hN]
      simp only [addD, this]
      simp [lstOf, hTTl, hETl, hzz]
    have hadd2 := hadd _ gtl3
    have htab : e.tab = .tup [.lst ET, .int e.one, .int e.other, .int e.more] := by rw [← hET]; rfl
    rw [htab] at hget2
    cases t with
    | false =>
      have ht1 : ¬ r / 408 % 2 = 1 := fun h => by rw [h] at ht; simp at ht
      refine ⟨M', ?_⟩
      have htab2 : Fn15.tab ⟨m, f, toldE n h ++ e.told, e.one, e.other, e.more + moreE n h, deepE n (.call e.m e.f (argsE false)) h⟩ = .tup [.lst (TT ++ ET), .int e.one, .int e.other, .int (e.more + moreE n h)] := by simp [Fn15.tab, hTT, hET]
      simp only [Bool.false_eq_true, if_false, if_true] at p1 p2 p3
      rw [htab2] at p3
      have hput : dPutM (M1 ++ [MO.lst TT]) (.ref jt) (.tup [.str m, .str f]) (.tup [.lst (TT ++ ET), .int e.one, .int e.other, .int (e.more + moreE n h)]) = some M' := by
        simp [-List.append_assoc, dPutM, gt3, keysD, keyD, hdz, p3]
      simp only [argsE, Ex.toD, Ex.toDs, Bool.false_eq_true, if_false, if_true] at hd1
      obtain ⟨O, hO⟩ : ∃ O, lp__law_functions_0 (sem (K + 1)) [.val (.fro (ns.map .int)), .val (.ref 0), s2, .val (.ref jt), s4, .val (.str m), .own acc, .val (.str f), s8, s9, s10, s11, s12, s13, s14, s15, s16, s17, s18, s19, s20, s21, .un] M = O := ⟨_, rfl⟩
      rw [hO]
      rw [lp__law_functions_0_eq] at hO
      simp [-List.append_assoc, -rng1D_int, hr, hHh, hls2, hkne, h8, hix, hmx, hkl, hat2, hget2, bTup, bNames, ht1, intD, stepD, m0, m1, hn, hd1, hrg, wipeD, hsm, hsum, hadd2, hput, hacc2] at hO
      subst hO
      exact ⟨_, _, _, _, _, _, _, _, _, _, _, _, _, _, p1, by simpa using p2, rfl⟩
    | true =>
      have ht1 : r / 408 % 2 = 1 := of_decide_eq_true ht.symm
      refine ⟨M', ?_⟩
      have htab2 : Fn15.tab ⟨m, f, toldE n h ++ e.told, e.other, e.one, e.more + moreE n h, deepE n (.call e.m e.f (argsE true)) h⟩ = .tup [.lst (TT ++ ET), .int e.other, .int e.one, .int (e.more + moreE n h)] := by simp [Fn15.tab, hTT, hET]
      simp only [Bool.false_eq_true, if_false, if_true] at p1 p2 p3
      rw [htab2] at p3
      have hput : dPutM (M1 ++ [MO.lst TT]) (.ref jt) (.tup [.str m, .str f]) (.tup [.lst (TT ++ ET), .int e.other, .int e.one, .int (e.more + moreE n h)]) = some M' := by
        simp [-List.append_assoc, dPutM, gt3, keysD, keyD, hdz, p3]
      simp only [argsE, Ex.toD, Ex.toDs, Bool.false_eq_true, if_false, if_true] at hd1
      obtain ⟨O, hO⟩ : ∃ O, lp__law_functions_0 (sem (K + 1)) [.val (.fro (ns.map .int)), .val (.ref 0), s2, .val (.ref jt), s4, .val (.str m), .own acc, .val (.str f), s8, s9, s10, s11, s12, s13, s14, s15, s16, s17, s18, s19, s20, s21, .un] M = O := ⟨_, rfl⟩
      rw [hO]
      rw [lp__law_functions_0_eq] at hO
      simp [-List.append_assoc, -rng1D_int, hr, hHh, hls2, hkne, h8, hix, hmx, hkl, hat2, hget2, bTup, bNames, ht1, intD, stepD, m0, m1, hn, hd1, hrg, wipeD, hsm, hsum, hadd2, hput, hacc2] at hO
      subst hO
      exact ⟨_, _, _, _, _, _, _, _, _, _, _, _, _, _, p1, by simpa using p2, rfl⟩
  · have Hok := ok_use m f n h hh2 (es.length + 1) (by omega) es
    refine ⟨_, ⟨rfl, rfl, T.push Hok hnew⟩, ?_⟩
    obtain ⟨M', p1, p2, p3⟩ := put ⟨m, f, toldE n h ++ [], 1, 0, 0 + moreE n h, deepE n (.use "x") h⟩ rfl rfl
    have hls : ∀ N : Store, N[jt]? = some (.dT (es.map Fn15.kv)) → listTD N [.ref jt] = some (.own (es.map Fn15.key)) := fun N hN => by
      simp only [listTD, hN, keysT_eq]
    have hls2 := hls _ gt2
    have hsm := fun ρ h8 h22 => sum_ok n h (by omega) (sem (K + 1)) ρ (M1 ++ [MO.lst ((toldE n h).map .int)]) r h8 hn h22
    simp only [hSL] at hsm
    have hcond : ∀ N : Store, (dAnd (dBo (dOp2 neD (dVarB 11) (dEF (dLst dNil)))) (dBo (dOp2 (cmpD fun i j => decide (j < i)) (dEF (dOp2 modD (dEF (dOp2 fdivD (dVarB 8) (dC (.int 17)))) (dC (.int 8)))) (dC (.int 0))))) [.val (.fro (ns.map .int)), .val (.ref 0), s2, .val (.ref jt), s4, .val (.str m), .own acc, .val (.str f), .val (.int r), .val (.tup [.lst [], .int 1, .int 0, .int 0]), .val (.tup [.str "use", .str "x"]), .val (.lst (es.map Fn15.key)), s12, s13, .val (.int Hh), .val (.ref M1.length), s16, s17, s18, s19, s20, s21, .un] N = .ok false N := fun N => by
      by_cases hz : es = []
      · subst hz
        have : ∀ N, neD N (.lst []) (.lst []) = some (.val (.bl false)) := fun _ => rfl
        simp [this]
      · have h8 : ¬ 0 < r / 17 % 8 := fun q => hcall ⟨hz, q⟩
        have hnee : es.isEmpty = false := by cases es with | nil => exact absurd rfl hz | cons _ _ => rfl
        rw [hnee] at hkne
        simp [hkne, h8]
    have hacc2 : acc.length < 16777216 := by omega
    have hdz : (es.map Fn15.kv).length < 16777216 := by omega
    have hd1 := hdeep (.use "x")
    generalize hKK : es.map Fn15.key = KK at *
    generalize hKV : es.map Fn15.kv = KV at *
    generalize hTT : ((toldE n h).map D.int) = TT at *
    have hTTl : TT.length = (toldE n h).length := by rw [← hTT, List.length_map]
    have hadd : ∀ N : Store, N[M1.length]? = some (.lst TT) → addD N (.ref M1.length) (.lst []) = some (.own TT) := fun N hN => by
      have : lstOf N (.ref M1.length) = some TT := by simp [lstOf, hN]
      simp only [addD, this]
      have : TT.length ≤ 16777216 := by omega
      simp [lstOf, this]
    have hadd2 := hadd _ gtl3
    refine ⟨M', ?_⟩
    have htab2 : Fn15.tab ⟨m, f, toldE n h ++ [], 1, 0, 0 + moreE n h, deepE n (.use "x") h⟩ = .tup [.lst TT, .int 1, .int 0, .int (moreE n h)] := by simp [Fn15.tab, hTT]
    rw [htab2] at p3
    have hput : dPutM (M1 ++ [MO.lst TT]) (.ref jt) (.tup [.str m, .str f]) (.tup [.lst TT, .int 1, .int 0, .int (moreE n h)]) = some M' := by
      simp [-List.append_assoc, dPutM, gt3, keysD, keyD, hdz, p3]
    simp only [Ex.toD] at hd1
    obtain ⟨O, hO⟩ : ∃ O, lp__law_functions_0 (sem (K + 1)) [.val (.fro (ns.map .int)), .val (.ref 0), s2, .val (.ref jt), s4, .val (.str m), .own acc, .val (.str f), s8, s9, s10, s11, s12, s13, s14, s15, s16, s17, s18, s19, s20, s21, .un] M = O := ⟨_, rfl⟩
    rw [hO]
    rw [lp__law_functions_0_eq] at hO
    generalize (dAnd (dBo (dOp2 neD (dVarB 11) (dEF (dLst dNil)))) (dBo (dOp2 (cmpD fun i j => decide (j < i)) (dEF (dOp2 modD (dEF (dOp2 fdivD (dVarB 8) (dC (.int 17)))) (dC (.int 8)))) (dC (.int 0))))) = CC at *
    simp [-List.append_assoc, -rng1D_int, hr, hHh, hls2, hcond, hn, hd1, hrg, wipeD, hsm, hsum, hadd2, hput, hacc2] at hO
    subst hO
    exact ⟨_, _, _, _, _, _, _, _, _, _, _, _, _, _, p1, by simpa using p2, rfl⟩
end K15
namespace K15
open PySem L2 TP
set_option maxHeartbeats 4000000
def LT : List Str := ["f", "g", "h", "i", "j", "k", "m", "n", "o", "p", "q", "r"]
def MODS : List Str := ["a", "aa", "b", "ab", "m", "f", "ba", "z"]
theorem LT_nd : LT.Nodup := by decide +kernel
theorem MODS_nd : MODS.Nodup := by decide +kernel
theorem LT_ok : ∀ x ∈ LT, okStr x = true := by decide +kernel
theorem MODS_ok : ∀ x ∈ MODS, okStr x = true := by decide +kernel
theorem slice_ok (k : Int) (h1 : 1 ≤ k) (h2 : k ≤ 12) (M : Store) : ∃ z, slD M (.str "fghijkmnopqr") none (some k) = some (.val (.str z)) ∧ itemsD (.str z) = some ((LT.take k.toNat).map .str) := by
  have : k = 1 ∨ k = 2 ∨ k = 3 ∨ k = 4 ∨ k = 5 ∨ k = 6 ∨ k = 7 ∨ k = 8 ∨ k = 9 ∨ k = 10 ∨ k = 11 ∨ k = 12 := by omega
  rcases this with rfl | rfl | rfl | rfl | rfl | rfl | rfl | rfl | rfl | rfl | rfl | rfl <;> exact ⟨_, rfl, rfl⟩
theorem flat_snoc : ∀ (P : Pr) (m : Str) (rs : List Row), flat (P ++ [(m, rs)]) = flat P ++ rs.map fun r => (m, r)
  | [], m, rs => by simp [flat]
  | (a, b) :: P, m, rs => by rw [List.cons_append, flat, flat_snoc P m rs, flat, List.append_assoc]
theorem take_snoc {α : Type} {xs : List α} {i : Nat} {x : α} (h : xs[i]? = some x) : xs.take (i + 1) = xs.take i ++ [x] := by
  rw [List.take_add_one, h]; rfl
theorem not_take {xs : List Str} (hn : xs.Nodup) {i : Nat} {x : Str} (h : xs[i]? = some x) : x ∉ xs.take i := by
  intro hm
  obtain ⟨j, hj⟩ := List.getElem?_of_mem hm
  rw [List.getElem?_take] at hj
  split at hj
  · rename_i hlt
    obtain ⟨a1, a2⟩ := List.getElem?_eq_some_iff.mp hj
    obtain ⟨b1, b2⟩ := List.getElem?_eq_some_iff.mp h
    have := (List.getElem_inj hn).mp (a2.trans b2.symm)
    omega
  · cases hj
/-- the functions of one module -/
theorem room_ok (K : Nat) (ns : List Int) (hns : ns.length ≤ 63) (s2 s4 s7 : Slot) (v : List Slot) (hv : v.length = 14) (jt : Nat) (m : Str) (hm : okStr m = true) (es : List Fn15) (hes : es.length ≤ 84) (T : Tab es) (hok : ∀ e ∈ es, okStr e.m = true ∧ okStr e.f = true)
    (hnew : ∀ e ∈ es, e.m ≠ m) (k : Nat) (hk : k ≤ 12) (c : Int) (M : Store) (h0 : M[0]? = some (.lst [.int c])) (hc : -1 ≤ c) (hc2 : c < 2 ^ 30) (hjt : M[jt]? = some (.dT (es.map Fn15.kv))) (hj0 : jt ≠ 0) :
    ∃ es' : List Fn15, es'.length = k ∧ Tab (es ++ es') ∧ (∀ e ∈ es', e.m = m ∧ okStr e.f = true) ∧ ∃ M' u7 u, u.length = 14 ∧ M'[0]? = some (.lst [.int (c + k)]) ∧ M'[jt]? = some (.dT ((es ++ es').map Fn15.kv)) ∧
      forGo (bName 7) (lp__law_functions_0 (sem (K + 1))) ((LT.take k).map .str) ([.val (.fro (ns.map .int)), .val (.ref 0), s2, .val (.ref jt), s4, .val (.str m), .own [], s7] ++ v ++ [.un]) M
        = .next ([.val (.fro (ns.map .int)), .val (.ref 0), s2, .val (.ref jt), s4, .val (.str m), .own (es'.map fun e => Row.toD e.row.2), u7] ++ u ++ [.un]) M' := by
  have hl : ((LT.take k).map D.str).length = k := by
    rw [List.length_map, List.length_take]
    show min k 12 = k
    omega
  obtain ⟨ρ', M', hg, es', e1, e2, e3, e4, u7, u, e5, rfl, e6, e7⟩ := forGo_all (b := bName 7) (body := lp__law_functions_0 (sem (K + 1))) (fun i ρ N => ∃ es' : List Fn15, es'.length = i ∧ Tab (es ++ es') ∧ (∀ e ∈ es', e.m = m ∧ okStr e.f = true) ∧ es'.map Fn15.f = LT.take i ∧ ∃ u7 u, u.length = 14 ∧ ρ = [.val (.fro (ns.map .int)), .val (.ref 0), s2, .val (.ref jt), s4, .val (.str m), .own (es'.map fun e => Row.toD e.row.2), u7] ++ u ++ [.un] ∧ N[0]? = some (.lst [.int (c + i)]) ∧ N[jt]? = some (.dT ((es ++ es').map Fn15.kv))) ((LT.take k).map .str)
    (ρ := [.val (.fro (ns.map .int)), .val (.ref 0), s2, .val (.ref jt), s4, .val (.str m), .own [], s7] ++ v ++ [.un]) (M := M)
    ⟨[], rfl, (by rw [List.append_nil]; exact T), (fun e he => absurd he List.not_mem_nil), rfl, s7, v, hv, rfl, (by rw [h0]; simp), (by rw [List.append_nil]; exact hjt)⟩
    (fun i d ρ N hd ⟨es', e1, e2, e3, e4, u7, u, e5, e6, e7, e8⟩ => by
      subst e6
      rw [List.getElem?_map, List.getElem?_take] at hd
      split at hd
      · rename_i hik
        cases hf : LT[i]? with
        | none => rw [hf] at hd; cases hd
        | some f =>
          rw [hf] at hd
          cases hd
          have hfresh : (m, f) ∉ (es ++ es').map Fn15.nm := by
            intro hm
            obtain ⟨e, he, heq⟩ := List.mem_map.mp hm
            have q1 : e.m = m := congrArg Prod.fst heq
            have q2 : e.f = f := congrArg Prod.snd heq
            rcases List.mem_append.mp he with he | he
            · exact hnew e he q1
            · have : f ∈ LT.take i := by rw [← e4]; exact List.mem_map.mpr ⟨e, he, q2⟩
              exact not_take LT_nd hf this
          obtain ⟨x0, x1, x2, x3, x4, x5, x6, x7, x8, x9, x10, x11, x12, x13, rfl⟩ : ∃ x0 x1 x2 x3 x4 x5 x6 x7 x8 x9 x10 x11 x12 x13, u = [x0, x1, x2, x3, x4, x5, x6, x7, x8, x9, x10, x11, x12, x13] := by
            match u, e5 with
            | [x0, x1, x2, x3, x4, x5, x6, x7, x8, x9, x10, x11, x12, x13], _ => exact ⟨_, _, _, _, _, _, _, _, _, _, _, _, _, _, rfl⟩
          obtain ⟨e, ne, M1, u8, u9, u10, u11, u12, u13, u14, u15, u16, u17, u18, u19, u20, u21, g1, g2, g3⟩ := fn_ok K ns hns s2 s4 (.val (.str f)) x0 x1 x2 x3 x4 x5 x6 x7 x8 x9 x10 x11 x12 x13 jt m f (es'.map fun e => Row.toD e.row.2) (by rw [List.length_map]; omega) (es ++ es') (by rw [List.length_append]; omega) e2
            (fun x hx => (List.mem_append.mp hx).elim (hok x) fun hx => ⟨by rw [(e3 x hx).1]; exact hm, (e3 x hx).2⟩) hfresh (c + i) N e7 (by omega) (by omega) e8 hj0
          refine ⟨_, rfl, _, M1, g3, es' ++ [e], by simp [e1], by rw [← List.append_assoc]; exact ne.tab, fun x hx => ?_, ?_, .val (.str f), [u8, u9, u10, u11, u12, u13, u14, u15, u16, u17, u18, u19, u20, u21], rfl, ?_, ?_, ?_⟩
          · rcases List.mem_append.mp hx with hx | hx
            · exact e3 x hx
            · rw [List.mem_singleton] at hx
              subst hx
              exact ⟨ne.m, by rw [ne.f]; exact LT_ok f (List.mem_of_getElem? hf)⟩
          · rw [List.map_append, e4, take_snoc hf, List.map_cons, List.map_nil, ne.f]
          · rw [List.map_append]; rfl
          · rw [g1]; congr 3; simp; omega
          · rw [g2, List.append_assoc]
      · cases hd)
  rw [hl] at e1 e6 e4
  exact ⟨es', e1, e2, e3, M', u7, u, e5, e6, e7, hg⟩
end K15
namespace K15
open PySem L2 TP
set_option maxHeartbeats 4000000
structure Made (es : List Fn15) (P : Pr) : Prop where
  flat : flat P = es.map Fn15.row
  tab : Tab es
  ok : ∀ e ∈ es, okStr e.m = true ∧ okStr e.f = true
theorem functions15_ok (K : Nat) (ns : List Int) (hns : ns.length ≤ 63) (most : Int) (hm1 : 1 ≤ most) (hm2 : most ≤ 12) (c : Int) (M : Store) (h0 : M[0]? = some (.lst [.int c])) (hc : -1 ≤ c) (hc2 : c < 2 ^ 20) :
    ∃ es P M', Made es P ∧ 1 ≤ es.length ∧ es.length ≤ 96 ∧ M'[0]? = some (.lst [.int (c + 8 + es.length)]) ∧ ∃ jt, jt ≠ 0 ∧ M'[jt]? = some (.dT (es.map Fn15.kv)) ∧ sem (K + 2) f__law_functions [.fro (ns.map .int), .ref 0, .int most] M = .ok (.val (.tup [pgD P, .ref jt])) M' := by
  have hM0 : 0 < M.length := (List.getElem?_eq_some_iff.mp h0).1
  obtain ⟨ρ', M', hg, es, P, e1, e2, e3, e4, e5, e6, u5, u6, u7, u, e7, rfl, e8, e9⟩ := forGo_all (b := bName 5) (body := lp__law_functions_1 (sem (K + 1))) (fun i ρ N => ∃ (es : List Fn15) (P : Pr), Made es P ∧ P.length = i ∧ (∀ e ∈ es, e.m ∈ MODS.take i) ∧ es.length ≤ 12 * i ∧ i ≤ es.length ∧ True ∧ ∃ (u5 u6 u7 : Slot) (u : List Slot), u.length = 14 ∧ ρ = [.val (.fro (ns.map .int)), .val (.ref 0), .val (.int most), .val (.ref M.length), .own (P.map rmD), u5, u6, u7] ++ u ++ [.un] ∧ N[0]? = some (.lst [.int (c + i + es.length)]) ∧ N[M.length]? = some (.dT (es.map Fn15.kv))) (MODS.map .str)
    (ρ := [.val (.fro (ns.map .int)), .val (.ref 0), .val (.int most), .val (.ref M.length), .own [], .un, .un, .un] ++ List.replicate 14 .un ++ [.un]) (M := M ++ [.dT []])
    ⟨[], [], ⟨rfl, ⟨fun e he => absurd he List.not_mem_nil, List.nodup_nil⟩, fun e he => absurd he List.not_mem_nil⟩, rfl, (fun e he => absurd he List.not_mem_nil), (Nat.zero_le _), (Nat.zero_le _), trivial, .un, .un, .un, List.replicate 14 .un, rfl, rfl, (by rw [get_app h0]; simp), at_end M _⟩
    (fun i d ρ N hd ⟨es, P, e1, e2, e3, e4, e5, e6, u5, u6, u7, u, e7, e8, e9, e10⟩ => by
      subst e8
      rw [List.getElem?_map] at hd
      cases hf : MODS[i]? with
      | none => rw [hf] at hd; cases hd
      | some m =>
        rw [hf] at hd
        cases hd
        have hi8 : i < 8 := (List.getElem?_eq_some_iff.mp hf).1
        obtain ⟨r, br, hr⟩ := cellB K ns hns e9 (by omega) (by omega)
        have g0 : (N.set 0 (.lst [.int (c + i + es.length + 1)]))[0]? = some (.lst [.int (c + i + es.length + 1)]) := get_set e9
        have gt : (N.set 0 (.lst [.int (c + i + es.length + 1)]))[M.length]? = some (.dT (es.map Fn15.kv)) := by rw [get_ne (by omega)]; exact e10
        generalize hN1 : N.set 0 (.lst [.int (c + i + es.length + 1)]) = N1 at *
        obtain ⟨kk, hkk⟩ : ∃ kk, 1 + r % most = kk := ⟨_, rfl⟩
        have hb1 : 0 ≤ r % most := Int.emod_nonneg _ (by omega)
        have hb2 : r % most < most := Int.emod_lt_of_pos _ (by omega)
        obtain ⟨z, hz1, hz2⟩ := slice_ok kk (by omega) (by omega) N1
        obtain ⟨k, hk⟩ : ∃ k : Nat, kk.toNat = k := ⟨_, rfl⟩
        rw [hk] at hz2
        obtain ⟨es', f1, f2, f3, M1, v7, v, f4, f5, f6, f7⟩ := room_ok K ns hns (.val (.int most)) (.own (P.map rmD)) u7 u e7 M.length m (MODS_ok m (List.mem_of_getElem? hf)) es (by omega) e1.tab e1.ok (fun e he hm => not_take MODS_nd hf (hm ▸ e3 e he)) k (by omega) (c + i + es.length + 1) N1 g0 (by omega) (by omega) gt (by omega)
        have hPl : P.length < 16777216 := by omega
        obtain ⟨x0, x1, x2, x3, x4, x5, x6, x7, x8, x9, x10, x11, x12, x13, rfl⟩ : ∃ x0 x1 x2 x3 x4 x5 x6 x7 x8 x9 x10 x11 x12 x13, u = [x0, x1, x2, x3, x4, x5, x6, x7, x8, x9, x10, x11, x12, x13] := by
          match u, e7 with
          | [x0, x1, x2, x3, x4, x5, x6, x7, x8, x9, x10, x11, x12, x13], _ => exact ⟨_, _, _, _, _, _, _, _, _, _, _, _, _, _, rfl⟩
        obtain ⟨y0, y1, y2, y3, y4, y5, y6, y7, y8, y9, y10, y11, y12, y13, rfl⟩ : ∃ x0 x1 x2 x3 x4 x5 x6 x7 x8 x9 x10 x11 x12 x13, v = [x0, x1, x2, x3, x4, x5, x6, x7, x8, x9, x10, x11, x12, x13] := by
          match v, f4 with
          | [x0, x1, x2, x3, x4, x5, x6, x7, x8, x9, x10, x11, x12, x13], _ => exact ⟨_, _, _, _, _, _, _, _, _, _, _, _, _, _, rfl⟩
        simp only [List.cons_append, List.nil_append] at f7
        have hrm : rmD (m, es'.map fun e => e.row.2) = .tup [.str m, .tup (es'.map fun e => Row.toD e.row.2)] := by rw [rmD, List.map_map]; rfl
        refine ⟨_, rfl, _, M1, ?_, es ++ es', P ++ [(m, es'.map fun e => e.row.2)], ⟨?_, f2, fun e he => ?_⟩, by simp [e2], fun e he => ?_, by rw [List.length_append]; omega, by rw [List.length_append]; omega, trivial, .val (.str m), .own (es'.map fun e => Row.toD e.row.2), v7, [y0, y1, y2, y3, y4, y5, y6, y7, y8, y9, y10, y11, y12, y13], rfl, rfl, ?_, f6⟩
        · rw [List.map_append, List.map_cons, List.map_nil, hrm]
          generalize hRR : es'.map (fun e => Row.toD e.row.2) = RR at *
          generalize hPP : P.map rmD = PP at *
          have hPPl : PP.length < 16777216 := by rw [← hPP, List.length_map]; exact hPl
          generalize hLL : (LT.take k).map D.str = LL at *
          rw [lp__law_functions_1_eq]
          have hmp : 0 < most := by omega
          simp [bName, hr, hmp, hkk, hz1, hz2, f7, tupleD, seqOf, lstOf, hPPl]
        · rw [flat_snoc, e1.flat, List.map_append, List.map_map]
          congr 1
          apply List.map_congr_left
          intro e he
          show (m, e.row.2) = e.row
          rw [← (f3 e he).1]; rfl
        · rcases List.mem_append.mp he with he | he
          · exact e1.ok e he
          · exact ⟨by rw [(f3 e he).1]; exact MODS_ok m (List.mem_of_getElem? hf), (f3 e he).2⟩
        · rw [take_snoc hf]
          rcases List.mem_append.mp he with he | he
          · exact List.mem_append_left _ (e3 e he)
          · rw [(f3 e he).1]; exact List.mem_append_right _ (List.mem_singleton.mpr rfl)
        · have q : c + ((i + 1 : Nat) : Int) + ((es ++ es').length : Nat) = c + i + es.length + 1 + k := by rw [List.length_append]; omega
          rw [f5, q])
  have hl : (MODS.map D.str).length = 8 := rfl
  rw [hl] at e2 e4 e5 e8
  refine ⟨es, P, M', e1, by omega, by omega, e8, M.length, by omega, e9, ?_⟩
  simp only [MODS, List.map_cons, List.map_nil, List.replicate, List.cons_append, List.nil_append] at hg
  rw [e__law_functions]
  have hPd : tupleD M' [.lst (P.map rmD)] = some (.val (pgD P)) := by simp [tupleD, seqOf, lstOf, pgD]
  simp [runF, m__law_functions, startD, hg, hPd, itemsD]
end K15
namespace K15
open PySem L2 TP
set_option maxHeartbeats 4000000
theorem lcGo_st {b : D → EnvD → Option EnvD} {f : FD} {ρ0 : EnvD} (I : Nat → List D → Store → Prop) (items : List D) {M : Store} (h0 : I 0 [] M)
    (step : ∀ i d acc N, items[i]? = some d → I i acc N → ∃ ρ1 y N', b d ρ0 = some ρ1 ∧ f ρ1 N = .ok y N' ∧ acc.length < sizeLine ∧ I (i + 1) (acc ++ [y]) N') : ∃ res M', lcGo b dYes f ρ0 items [] M = .ok res M' ∧ I items.length res M' := by
  have key : ∀ (k : Nat) (xs : List D) (i : Nat) (acc : List D) (N : Store), xs.length = k → xs = items.drop i → i + k = items.length → I i acc N → ∃ res M', lcGo b dYes f ρ0 xs acc N = .ok res M' ∧ I items.length res M' := by
    intro k
    induction k with
    | zero =>
      intro xs i acc N hl hd hi hI
      have : xs = [] := List.eq_nil_of_length_eq_zero hl
      subst this
      rw [show items.length = i by omega]
      exact ⟨acc, N, rfl, hI⟩
    | succ k ih =>
      intro xs i acc N hl hd hi hI
      have hlt : i < items.length := by omega
      rw [List.drop_eq_getElem_cons hlt] at hd
      subst hd
      obtain ⟨ρ1, y, N', h1, h2, h3, h4⟩ := step i items[i] acc N (List.getElem?_eq_getElem hlt) hI
      obtain ⟨res, M', g1, g2⟩ := ih (items.drop (i + 1)) (i + 1) (acc ++ [y]) N' (by rw [List.length_drop]; omega) rfl (by omega) h4
      refine ⟨res, M', ?_, g2⟩
      unfold lcGo
      rw [h1]
      simp only [dYes, h2, h3, if_true]
      exact g1
  exact key items.length items 0 [] M rfl rfl (by omega) h0
/-- one run -/
theorem turn15_ok (K : Nat) (ns : List Int) (hns : ns.length ≤ 63) (es : List Fn15) (P : Pr) (md : Made es P) (hl : es.length ≤ 96) (e : Fn15) (he : e ∈ es) (s2 s3 s4 s9 s10 s11 s12 s13 s14 s15 : Slot) (jt : Nat) (hjt : jt ≠ 0) (c : Int) (M : Store) (h0 : M[0]? = some (.lst [.int c])) (hc : 0 ≤ c) (hc2 : c < 2 ^ 30) (ht : M[jt]? = some (.dT (es.map Fn15.kv))) :
    ∃ M' u9 u10 u11 u12 u13 u14 u15, M'[0]? = some (.lst [.int (c + 2)]) ∧ M'[jt]? = some (.dT (es.map Fn15.kv)) ∧
      lp_law_0 (sem (K + 6)) [.val (.fro (ns.map .int)), .val (.ref 0), s2, s3, s4, .val (pgD P), .val (.ref jt), .val (.str e.m), .val (.str e.f), s9, s10, s11, s12, s13, s14, s15, .un] M
        = .next [.val (.fro (ns.map .int)), .val (.ref 0), s2, s3, s4, .val (pgD P), .val (.ref jt), .val (.str e.m), .val (.str e.f), u9, u10, u11, u12, u13, u14, u15, .un] M' := by
  obtain ⟨r1, b1, q1⟩ := cellB (K + 5) ns hns h0 (by omega) (by omega)
  have g1 : (M.set 0 (.lst [.int (c + 1)]))[0]? = some (.lst [.int (c + 1)]) := get_set h0
  have t1 : (M.set 0 (.lst [.int (c + 1)]))[jt]? = some (.dT (es.map Fn15.kv)) := by rw [get_ne (Ne.symm hjt)]; exact ht
  generalize hM1 : M.set 0 (.lst [.int (c + 1)]) = M1 at *
  obtain ⟨r2, b2, q2⟩ := cellB (K + 5) ns hns g1 (by omega) (by omega)
  have g2 : (M1.set 0 (.lst [.int (c + 1 + 1)]))[0]? = some (.lst [.int (c + 1 + 1)]) := get_set g1
  have t2 : (M1.set 0 (.lst [.int (c + 1 + 1)]))[jt]? = some (.dT (es.map Fn15.kv)) := by rw [get_ne (Ne.symm hjt)]; exact t1
  generalize hM2 : M1.set 0 (.lst [.int (c + 1 + 1)]) = M2 at *
  obtain ⟨x, hx⟩ : ∃ x, r1 % 2001 - 1000 = x := ⟨_, rfl⟩
  obtain ⟨y, hy⟩ : ∃ y, r2 % 2001 - 1000 = y := ⟨_, rfl⟩
  have ok := md.tab.ok e he
  obtain ⟨st, hst, hr⟩ := ok.run
  have hcov := cov_of md.flat md.tab.nd
  have hfl : (flat P).length ≤ 1000 := by rw [md.flat, List.length_map]; omega
  obtain ⟨v, hv⟩ : ∃ v, e.one * x + e.other * y + e.more = v := ⟨_, rfl⟩
  have hm := ok.more
  have hlen := ok.len
  have hvb : v.natAbs ≤ 10000 := by
    rcases ok.co with ⟨a, b⟩ | ⟨a, b⟩ <;> rw [a, b] at hv <;> omega
  have hrun := hr (K + 1) (rowsT P) x y hcov
  rw [hv] at hrun
  obtain ⟨M3, w1, w2, w3, w4⟩ := run_ok (K + 1) P e.m e.f ["x", "y"] e.b [x, y] M2 e.told (.val v) st hfl (hcov e he) hrun (by omega)
  have h02 : 0 < M2.length := (List.getElem?_eq_some_iff.mp g2).1
  have hj2 : jt < M2.length := (List.getElem?_eq_some_iff.mp t2).1
  have hfv : Fit 200 3 (resD (.val v)) := fit_val (by
    have c1 : 100000 ≤ (10 : Nat) ^ 62 := by decide +kernel
    generalize (10 : Nat) ^ 62 = A at *
    omega)
  have hfit : Fit 200000 6 (.tup [.lst (e.told.map .int), resD (.val v)]) := fit_out (by omega) (fun i hi => by
    have := ok.each i hi
    have c1 : 1001 ≤ (10 : Nat) ^ 62 := by decide +kernel
    generalize (10 : Nat) ^ 62 = A at *
    omega) hfv
  have hgd : goodD (resD (.val v)) = true := hfv.good
  have e1 := repr_run hfit hgd w2
  have e2 := repr_lst hfit M3
  have hget : dgetD M2 (.ref jt) (.tup [.str e.m, .str e.f]) = some (.val e.tab) := by
    simp [dgetD, dGetO, t2, keysD, keyD, tab_look md.tab.nd he]
  have hlc : lcGo (bName 16) dYes (el_law_1 (sem (K + 6))) [.val (.fro (ns.map .int)), .val (.ref 0), s2, s3, s4, .val (pgD P), .val (.ref jt), .val (.str e.m), .val (.str e.f), s9, s10, s11, s12, s13, s14, s15, .un] (rngL 0 2) [] M = .ok [.int x, .int y] M2 := by
    show lcGo _ _ _ _ [.int 0, .int 1] [] M = _
    simp [lcGo, bName, el_law_1_eq, q1, q2, hx, hy]
  refine ⟨M3, .val (.tup [.ref (M2.length + 4), resD (.val v)]), .val (.int x), .val (.int y), .val (.lst (e.told.map .int)), .val (.int e.one), .val (.int e.other), .val (.int e.more), ?_, by rw [w4 jt hj2]; exact t2, ?_⟩
  · rw [w4 0 h02, g2]
    congr 3
    rw [show c + 1 + 1 = c + 2 by omega]
  · have hrg : rng1D [.int 2] = some (rngL 0 2) := rfl
    have hw := w1
    simp only [List.map_cons, List.map_nil] at hw
    have m1 : mulOk e.one x = true := mulOk_l (by rcases ok.co with ⟨a, b⟩ | ⟨a, b⟩ <;> omega) (by rcases ok.co with ⟨a, b⟩ | ⟨a, b⟩ <;> omega)
    have m2 : mulOk e.other y = true := mulOk_l (by rcases ok.co with ⟨a, b⟩ | ⟨a, b⟩ <;> omega) (by rcases ok.co with ⟨a, b⟩ | ⟨a, b⟩ <;> omega)
    have hres : resD (.val v) = .tup [.str "value", .int v] := rfl
    rw [hres] at e1 e2 hw
    rw [hres]
    have htab : e.tab = .tup [.lst (e.told.map .int), .int e.one, .int e.other, .int e.more] := rfl
    rw [htab] at hget
    generalize shownOf e.told (D.tup [D.str "value", D.int v]) = SH at *
    generalize e.told.map D.int = TT at *
    generalize pgD P = PG at *
    rw [lp_law_0_eq]
    simp [-rng1D_int, hrg, wipeD, hlc, bLst, bTup, bNames, hget, hw, e1, e2, m1, m2, hv, neS]
/-- a drawn function -/
theorem pick_ok (K : Nat) (ns : List Int) (hns : ns.length ≤ 63) (es : List Fn15) (hp : 1 ≤ es.length) (ρ0 : EnvD) (h16 : ρ0.length = 17) (r0 : ρ0[0]? = some (.val (.fro (ns.map .int)))) (r1 : ρ0[1]? = some (.val (.ref 0))) (r3 : ρ0[3]? = some (.val (.lst (es.map Fn15.key)))) (jt : Nat) (hjt : jt ≠ 0) (c : Int) (M : Store) (h0 : M[0]? = some (.lst [.int c])) (hc : 0 ≤ c) (hc2 : c < 2 ^ 30) (o : MO) (ht : M[jt]? = some o) :
    ∃ (res : List D) (M' : Store), lcGo (bName 16) dYes (el_law_0 (sem (K + 1))) ρ0 (rngL 0 3) [] M = .ok res M' ∧ res.length = 3 ∧ (∀ d ∈ res, ∃ e ∈ es, d = e.key) ∧ M'[0]? = some (.lst [.int (c + 3)]) ∧ M'[jt]? = some o := by
  obtain ⟨res, M', g, h1, h2, h3, h4⟩ := lcGo_st (b := bName 16) (f := el_law_0 (sem (K + 1))) (ρ0 := ρ0) (fun i acc N => acc.length = i ∧ (∀ d ∈ acc, ∃ e ∈ es, d = e.key) ∧ N[0]? = some (.lst [.int (c + i)]) ∧ N[jt]? = some o) (rngL 0 3) (M := M) ⟨rfl, (fun d hd => absurd hd List.not_mem_nil), (by rw [h0]; simp), ht⟩
    (fun i d acc N hd ⟨h1, h2, h3, h4⟩ => by
      have hi := (rngL_get hd).1
      obtain ⟨r, b, q⟩ := cellB K ns hns h3 (by omega) (by omega)
      obtain ⟨e, he, hat⟩ := atI_mem (xs := es) (i := r % (es.length : Int)) (Int.emod_nonneg _ (by omega)) (Int.emod_lt_of_pos _ (by omega))
      have hat2 := atI_map Fn15.key es (r % (es.length : Int))
      rw [hat] at hat2
      have hkl : (es.map Fn15.key).length = es.length := List.length_map ..
      refine ⟨ρ0.set 16 (.val d), e.key, N.set 0 (.lst [.int (c + i + 1)]), by simp [bName, h16], ?_, by rw [h1, szL]; omega, by simp [h1], fun x hx => ?_, ?_, ?_⟩
      · have e0 : (ρ0.set 16 (.val d))[0]? = some (.val (.fro (ns.map .int))) := by rw [List.getElem?_set_ne (by decide)]; exact r0
        have e1 : (ρ0.set 16 (.val d))[1]? = some (.val (.ref 0)) := by rw [List.getElem?_set_ne (by decide)]; exact r1
        have e3 : (ρ0.set 16 (.val d))[3]? = some (.val (.lst (es.map Fn15.key))) := by rw [List.getElem?_set_ne (by decide)]; exact r3
        have hpp : 0 < es.length := by omega
        generalize es.map Fn15.key = KK at *
        simp [el_law_0_eq, e0, e1, e3, q, hkl, hpp, hat2]
      · rcases List.mem_append.mp hx with hx | hx
        · exact h2 x hx
        · rw [List.mem_singleton] at hx; exact ⟨e, he, hx⟩
      · rw [get_set h3, show c + (i : Int) + 1 = c + ((i + 1 : Nat) : Int) by omega]
      · rw [get_ne (Ne.symm hjt)]; exact h4)
  rw [rngL_len] at h1 h3
  exact ⟨res, M', g, h1, h2, h3, h4⟩
end K15
namespace K15
open PySem L2 TP
set_option maxHeartbeats 4000000
theorem cutD_mem {xs : List D} {lo hi : Option Int} {d : D} (h : d ∈ cutD xs lo hi) : d ∈ xs := List.mem_of_mem_drop (List.mem_of_mem_take h)
theorem cutD_len (xs : List D) (lo hi : Option Int) : (cutD xs lo hi).length ≤ xs.length := by
  unfold cutD
  rw [List.length_take, List.length_drop]
  omega
/-- one program -/
theorem prog_ok (K : Nat) (ns : List Int) (hns : ns.length ≤ 63) (iz : Int) (hiz : iz = 0 ∨ iz = 1) (s3 s4 s5 s6 s7 s8 s9 s10 s11 s12 s13 s14 s15 : Slot) (c : Int) (M : Store) (h0 : M[0]? = some (.lst [.int c])) (hc : 0 ≤ c) (hc2 : c < 2 ^ 19) :
    ∃ (M' : Store) (c' : Int) (u3 u4 u5 u6 u7 u8 u9 u10 u11 u12 u13 u14 u15 : Slot), M'[0]? = some (.lst [.int c']) ∧ 0 ≤ c' ∧ c' ≤ c + 400 ∧
      lp_law_1 (sem (K + 6)) [.val (.fro (ns.map .int)), .val (.ref 0), .val (.int iz), s3, s4, s5, s6, s7, s8, s9, s10, s11, s12, s13, s14, s15, .un] M
        = .next [.val (.fro (ns.map .int)), .val (.ref 0), .val (.int iz), u3, u4, u5, u6, u7, u8, u9, u10, u11, u12, u13, u14, u15, .un] M' := by
  obtain ⟨most, hmost, hm1, hm2⟩ : ∃ most : Int, atI [D.int 3, D.int 12] (iz % 2) = some (.int most) ∧ 1 ≤ most ∧ most ≤ 12 := by
    rcases hiz with rfl | rfl
    · exact ⟨3, rfl, by decide, by decide⟩
    · exact ⟨12, rfl, by decide, by decide⟩
  obtain ⟨es, P, M1, md, l1, l2, g0, jt, hjt, gt, hf⟩ := functions15_ok (K + 4) ns hns most hm1 hm2 c M h0 (by omega) (by omega)
  have hls : listTD M1 [.ref jt] = some (.own (es.map Fn15.key)) := by simp only [listTD, gt, keysT_eq]
  obtain ⟨res, M2, p1, p2, p3, p4, p5⟩ := pick_ok (K + 5) ns hns es l1 [.val (.fro (ns.map .int)), .val (.ref 0), .val (.int iz), .val (.lst (es.map Fn15.key)), s4, .val (pgD P), .val (.ref jt), s7, s8, s9, s10, s11, s12, s13, s14, s15, .un] rfl rfl rfl rfl jt hjt (c + 8 + es.length) M1 g0 (by omega) (by omega) _ gt
  obtain ⟨CL, hCL⟩ : ∃ CL, cutD (es.map Fn15.key) (some (-2)) none = CL := ⟨_, rfl⟩
  have hCLl : CL.length ≤ es.length := by rw [← hCL]; have := cutD_len (es.map Fn15.key) (some (-2)) none; rw [List.length_map] at this; exact this
  have hCLm : ∀ d ∈ CL, ∃ e ∈ es, d = e.key := fun d hd => by
    rw [← hCL] at hd
    obtain ⟨e, he, h⟩ := List.mem_map.mp (cutD_mem hd)
    exact ⟨e, he, h.symm⟩
  have hadd : ∀ N, addD N (.lst CL) (.lst res) = some (.own (CL ++ res)) := fun N => by
    have : CL.length + res.length ≤ 16777216 := by omega
    simp [addD, lstOf, this]
  have hall : ∀ d ∈ CL ++ res, ∃ e ∈ es, d = e.key := fun d hd => (List.mem_append.mp hd).elim (hCLm d) (p3 d)
  have hSLl : (CL ++ res).length ≤ 99 := by rw [List.length_append]; omega
  generalize hSL : CL ++ res = SL at *
  obtain ⟨ρ', M', hg, u7, u8, u9, u10, u11, u12, u13, u14, u15, rfl, e1, e2⟩ := forGo_all (b := bTup [7, 8]) (body := lp_law_0 (sem (K + 6))) (fun i ρ N => ∃ (u7 u8 u9 u10 u11 u12 u13 u14 u15 : Slot), ρ = [.val (.fro (ns.map .int)), .val (.ref 0), .val (.int iz), .val (.lst (es.map Fn15.key)), .val (.lst SL), .val (pgD P), .val (.ref jt), u7, u8, u9, u10, u11, u12, u13, u14, u15, .un] ∧ N[0]? = some (.lst [.int (c + 8 + es.length + 3 + 2 * i)]) ∧ N[jt]? = some (.dT (es.map Fn15.kv))) SL
    (ρ := [.val (.fro (ns.map .int)), .val (.ref 0), .val (.int iz), .val (.lst (es.map Fn15.key)), .val (.lst SL), .val (pgD P), .val (.ref jt), s7, s8, s9, s10, s11, s12, s13, s14, s15, .un]) (M := M2) ⟨s7, s8, s9, s10, s11, s12, s13, s14, s15, rfl, (by rw [p4]; simp), p5⟩
    (fun i d ρ N hd ⟨u7, u8, u9, u10, u11, u12, u13, u14, u15, e1, e2, e3⟩ => by
      subst e1
      have hil : i < SL.length := (List.getElem?_eq_some_iff.mp hd).1
      obtain ⟨e, he, rfl⟩ := hall d (List.mem_of_getElem? hd)
      obtain ⟨M3, v9, v10, v11, v12, v13, v14, v15, w1, w2, w3⟩ := turn15_ok K ns hns es P md l2 e he (.val (.int iz)) (.val (.lst (es.map Fn15.key))) (.val (.lst SL)) u9 u10 u11 u12 u13 u14 u15 jt hjt _ N e2 (by omega) (by omega) e3
      refine ⟨_, rfl, _, M3, w3, .val (.str e.m), .val (.str e.f), v9, v10, v11, v12, v13, v14, v15, rfl, ?_, w2⟩
      rw [w1, show c + 8 + (es.length : Int) + 3 + 2 * (i : Int) + 2 = c + 8 + (es.length : Int) + 3 + 2 * ((i + 1 : Nat) : Int) by omega])
  refine ⟨M', _, .val (.lst (es.map Fn15.key)), .val (.lst SL), .val (pgD P), .val (.ref jt), u7, u8, u9, u10, u11, u12, u13, u14, u15, e1, by omega, by omega, ?_⟩
  have hrg : rng1D [.int 3] = some (rngL 0 3) := rfl
  have hsl : ∀ N, slD N (.lst (es.map Fn15.key)) (some (-2)) none = some (.own CL) := fun N => by rw [← hCL]; rfl
  generalize es.map Fn15.key = KK at *
  generalize pgD P = PG at *
  rw [lp_law_1_eq]
  simp [-rng1D_int, hmost, hf, bTup, bNames, hls, hsl, hrg, wipeD, p1, hadd, itemsD, hg]
theorem law_true (ns : List Int) (hns : ns.length ≤ 63) : ∃ M, sem 110 f_law [.fro (ns.map D.int)] [] = .ok (.val (.bl true)) M := by
  obtain ⟨cnt, hcnt, hc4⟩ : ∃ k : Nat, (k : Int) = 1 + (if (ns.length : Int) < 1 then (ns.length : Int) else 1) ∧ k ≤ 2 := ⟨1 + min 1 ns.length, by split <;> omega, by omega⟩
  obtain ⟨ρ', M', hk, cc, s3, s4, s5, s6, s7, s8, s9, s10, s11, s12, s13, s14, s15, s2, rfl, _, _, _⟩ := forGo_all (b := bName 2) (body := lp_law_1 (sem 109)) (fun i ρ N => ∃ (cc : Int) (s3 s4 s5 s6 s7 s8 s9 s10 s11 s12 s13 s14 s15 s2 : Slot), ρ = [.val (.fro (ns.map D.int)), .val (.ref 0), s2, s3, s4, s5, s6, s7, s8, s9, s10, s11, s12, s13, s14, s15, .un] ∧ N[0]? = some (.lst [.int cc]) ∧ 0 ≤ cc ∧ cc ≤ 400 * i) (rngL 0 cnt)
    (ρ := [.val (.fro (ns.map D.int)), .val (.ref 0), .un, .un, .un, .un, .un, .un, .un, .un, .un, .un, .un, .un, .un, .un, .un]) (M := [.lst [.int 0]]) ⟨0, .un, .un, .un, .un, .un, .un, .un, .un, .un, .un, .un, .un, .un, .un, rfl, rfl, by omega, by omega⟩
    (fun i d ρ N hd ⟨cc, s3, s4, s5, s6, s7, s8, s9, s10, s11, s12, s13, s14, s15, s2, e1, e2, h0, h1⟩ => by
      subst e1
      obtain ⟨hi, hdd⟩ := rngL_get hd
      obtain ⟨iz, hiz⟩ : ∃ iz : Int, 0 + (i : Int) = iz := ⟨_, rfl⟩
      rw [hiz] at hdd
      subst hdd
      obtain ⟨M1, c', u3, u4, u5, u6, u7, u8, u9, u10, u11, u12, u13, u14, u15, a1, a2, a3, a4⟩ := prog_ok 103 ns hns iz (by omega) s3 s4 s5 s6 s7 s8 s9 s10 s11 s12 s13 s14 s15 cc N e2 (by omega) (by omega)
      exact ⟨_, rfl, _, M1, a4, c', u3, u4, u5, u6, u7, u8, u9, u10, u11, u12, u13, u14, u15, .val (.int iz), rfl, a1, a2, by omega⟩)
  refine ⟨M', ?_⟩
  have hmn : ∀ N, min2D N [.int 1, .int (ns.length : Int)] = some (.val (.int (if (ns.length : Int) < 1 then (ns.length : Int) else 1))) := fun _ => rfl
  have hrng : rng1D [.int (1 + (if (ns.length : Int) < 1 then (ns.length : Int) else 1))] = some (rngL 0 cnt) := by
    rw [← hcnt, rng1_ok (by omega) (by omega)]
    rfl
  rw [e_law]
  simp [-rng1D_int, runF, m_law, startD, hmn, hrng, hk]
end K15
open PySem PySem.W PyProof.Rows
set_option maxRecDepth 100000 in
set_option maxHeartbeats 0 in
theorem PySem.Challenge.cw_turnpaper_k15_calls_of_calls_holds : PySem.Challenge.rw_turnpaper_k15_calls_of_calls.Holds := by
  w_on; o_law; k_head; (case hw => w_witness2)
  k_fill
  refine TP.g_walk (l := PySem.Challenge.rw_turnpaper_k15_calls_of_calls) (n := 63) (k := K15.lv 110) (x := "_law_script") (CX := fun _ => L2.CX0) (sp := fun w => TP.spD _ TP.W0 1 (K15.sem 110 K15.f_law)) rfl (by decide) rfl ⟨rfl, by decide, by decide⟩ (fun w h Y => PySem.W.kIn_of Y) ?F (fun _ H a ns hl hO hS => TP.law_sp hS (K15.law_true ns hl)) (fun _ _ _ _ _ h => h)
  case F =>
    intro w mg fa h KX G hmg
    refine' K15.law_fin 110 KX G hmg ?ca_Work ?cb_Work ?cc_Work ?cd_Work ?ce_Work ?cf_Work ?cg_Work ?nf_Work_tree ?nf_Work_scope ?ca_Enter ?cb_Enter ?cc_Enter ?cd_Enter ?ce_Enter ?cf_Enter ?cg_Enter ?nf_Enter_tree ?ca_Sign ?cb_Sign ?cc_Sign ?cd_Sign ?ce_Sign ?cf_Sign ?cg_Sign ?nf_Sign_sign ?ca_Behind ?cb_Behind ?cc_Behind ?cd_Behind ?ce_Behind ?cf_Behind ?cg_Behind ?nf_Behind_tree ?nf_Behind_scope ?ca_Begin ?cb_Begin ?cc_Begin ?cd_Begin ?ce_Begin ?cf_Begin ?cg_Begin ?nf_Begin_tree ?nf_Begin_scope ?ca_Round ?cb_Round ?cc_Round ?cd_Round ?ce_Round ?cf_Round ?cg_Round ?nf_Round_tree ?nf_Round_scope ?nf_Round_turn ?nf_Round_turns ?ca_Run ?cb_Run ?cc_Run ?cd_Run ?ce_Run ?cf_Run ?cg_Run ?nf_Run_rows ?nf_Run_deeds ?nf_Run_worths ?nf_Run_told ?nf_Run_end ?a0 ?l0 ?c0 ?k0 ?a1 ?l1 ?c1 ?k1 ?a2 ?l2 ?c2 ?k2 ?i2 ?a3 ?l3 ?c3 ?k3 ?i3 ?a4 ?l4 ?c4 ?k4 ?i4 ?a5 ?l5 ?c5 ?k5 ?i5 ?a6 ?l6 ?c6 ?k6 ?i6 ?a7 ?l7 ?c7 ?k7 ?i7 ?a8 ?l8 ?c8 ?k8 ?i8 ?a9 ?l9 ?c9 ?k9 ?i9 ?a10 ?l10 ?c10 ?k10 ?i10 ?a11 ?l11 ?c11 ?k11 ?i11 ?a12 ?l12 ?c12 ?k12 ?i12 ?a13 ?l13 ?c13 ?k13 ?i13 ?a14 ?l14 ?c14 ?k14 ?i14 ?a15 ?l15 ?c15 ?k15 ?i15 ?a16 ?l16 ?c16 ?k16 ?i16 ?a17 ?l17 ?c17 ?k17 ?i17 ?a18 ?l18 ?c18 ?k18 ?a19 ?l19 ?c19 ?k19 ?a20 ?l20 ?c20 ?k20 ?a21 ?l21 ?c21 ?k21 ?a22 ?l22 ?c22 ?k22 ?z_int ?z_dict ?z_zip ?z_reversed ?z_len ?z_range ?z_list ?z_max ?z_sum ?z_tuple ?z_min ?z_repr ?g_MOST_ROUNDS
    (case ca_Work => k_is)
    (case cb_Work => k_is)
    (case cc_Work => k_is)
    (case cd_Work => k_is)
    (case ce_Work => k_is)
    (case cf_Work => k_is)
    (case cg_Work => k_is)
    (case nf_Work_tree => k_is)
    (case nf_Work_scope => k_is)
    (case ca_Enter => k_is)
    (case cb_Enter => k_is)
    (case cc_Enter => k_is)
    (case cd_Enter => k_is)
    (case ce_Enter => k_is)
    (case cf_Enter => k_is)
    (case cg_Enter => k_is)
    (case nf_Enter_tree => k_is)
    (case ca_Sign => k_is)
    (case cb_Sign => k_is)
    (case cc_Sign => k_is)
    (case cd_Sign => k_is)
    (case ce_Sign => k_is)
    (case cf_Sign => k_is)
    (case cg_Sign => k_is)
    (case nf_Sign_sign => k_is)
    (case ca_Behind => k_is)
    (case cb_Behind => k_is)
    (case cc_Behind => k_is)
    (case cd_Behind => k_is)
    (case ce_Behind => k_is)
    (case cf_Behind => k_is)
    (case cg_Behind => k_is)
    (case nf_Behind_tree => k_is)
    (case nf_Behind_scope => k_is)
    (case ca_Begin => k_is)
    (case cb_Begin => k_is)
    (case cc_Begin => k_is)
    (case cd_Begin => k_is)
    (case ce_Begin => k_is)
    (case cf_Begin => k_is)
    (case cg_Begin => k_is)
    (case nf_Begin_tree => k_is)
    (case nf_Begin_scope => k_is)
    (case ca_Round => k_is)
    (case cb_Round => k_is)
    (case cc_Round => k_is)
    (case cd_Round => k_is)
    (case ce_Round => k_is)
    (case cf_Round => k_is)
    (case cg_Round => k_is)
    (case nf_Round_tree => k_is)
    (case nf_Round_scope => k_is)
    (case nf_Round_turn => k_is)
    (case nf_Round_turns => k_is)
    (case ca_Run => k_is)
    (case cb_Run => k_is)
    (case cc_Run => k_is)
    (case cd_Run => k_is)
    (case ce_Run => k_is)
    (case cf_Run => k_is)
    (case cg_Run => k_is)
    (case nf_Run_rows => k_is)
    (case nf_Run_deeds => k_is)
    (case nf_Run_worths => k_is)
    (case nf_Run_told => k_is)
    (case nf_Run_end => k_is)
    (case a0 => k_is)
    (case l0 => k_is)
    (case c0 => k_is)
    (case k0 => k_is)
    (case a1 => k_is)
    (case l1 => k_is)
    (case c1 => k_is)
    (case k1 => k_is)
    (case a2 => k_is)
    (case l2 => k_is)
    (case c2 => k_is)
    (case k2 => k_is)
    (case i2 => k_is)
    (case a3 => k_is)
    (case l3 => k_is)
    (case c3 => k_is)
    (case k3 => k_is)
    (case i3 => k_is)
    (case a4 => k_is)
    (case l4 => k_is)
    (case c4 => k_is)
    (case k4 => k_is)
    (case i4 => k_is)
    (case a5 => k_is)
    (case l5 => k_is)
    (case c5 => k_is)
    (case k5 => k_is)
    (case i5 => k_is)
    (case a6 => k_is)
    (case l6 => k_is)
    (case c6 => k_is)
    (case k6 => k_is)
    (case i6 => k_is)
    (case a7 => k_is)
    (case l7 => k_is)
    (case c7 => k_is)
    (case k7 => k_is)
    (case i7 => k_is)
    (case a8 => k_is)
    (case l8 => k_is)
    (case c8 => k_is)
    (case k8 => k_is)
    (case i8 => k_is)
    (case a9 => k_is)
    (case l9 => k_is)
    (case c9 => k_is)
    (case k9 => k_is)
    (case i9 => k_is)
    (case a10 => k_is)
    (case l10 => k_is)
    (case c10 => k_is)
    (case k10 => k_is)
    (case i10 => k_is)
    (case a11 => k_is)
    (case l11 => k_is)
    (case c11 => k_is)
    (case k11 => k_is)
    (case i11 => k_is)
    (case a12 => k_is)
    (case l12 => k_is)
    (case c12 => k_is)
    (case k12 => k_is)
    (case i12 => k_is)
    (case a13 => k_is)
    (case l13 => k_is)
    (case c13 => k_is)
    (case k13 => k_is)
    (case i13 => k_is)
    (case a14 => k_is)
    (case l14 => k_is)
    (case c14 => k_is)
    (case k14 => k_is)
    (case i14 => k_is)
    (case a15 => k_is)
    (case l15 => k_is)
    (case c15 => k_is)
    (case k15 => k_is)
    (case i15 => k_is)
    (case a16 => k_is)
    (case l16 => k_is)
    (case c16 => k_is)
    (case k16 => k_is)
    (case i16 => k_is)
    (case a17 => k_is)
    (case l17 => k_is)
    (case c17 => k_is)
    (case k17 => k_is)
    (case i17 => k_is)
    (case a18 => k_is)
    (case l18 => k_is)
    (case c18 => k_is)
    (case k18 => k_is)
    (case a19 => k_is)
    (case l19 => k_is)
    (case c19 => k_is)
    (case k19 => k_is)
    (case a20 => k_is)
    (case l20 => k_is)
    (case c20 => k_is)
    (case k20 => k_is)
    (case a21 => k_is)
    (case l21 => k_is)
    (case c21 => k_is)
    (case k21 => k_is)
    (case a22 => k_is)
    (case l22 => k_is)
    (case c22 => k_is)
    (case k22 => k_is)
    (case z_int => k_is)
    (case z_dict => k_is)
    (case z_zip => k_is)
    (case z_reversed => k_is)
    (case z_len => k_is)
    (case z_range => k_is)
    (case z_list => k_is)
    (case z_max => k_is)
    (case z_sum => k_is)
    (case z_tuple => k_is)
    (case z_min => k_is)
    (case z_repr => k_is)
    (case g_MOST_ROUNDS => k_is)
