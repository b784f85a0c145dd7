import PyProof.Rows.All
import Wide.All
import OpenK.AllK
import Wide.FinOn
import HandS.ForMost
import KE.KDictKeyed
import HandS.Wide
import HandS.TupAny
import HandS.Style
import HandS.IsInst
import HandS.Flow
import HandS.Deep
import HandS.Text
import HandS.Zip
import HandS.Rev
import HandS.More
import PyProof.ReprRoads
import KE.KDictZip
import KE.GoesZip
import KE.GoesMore
import KE.GoesEnum
import HandS.TryOnly
import KE.KRevIter
import HandS.Conv
import HandS.SortKw
import HandS.RaiseMore
import HandS.ExcInit
import HandS.ExcCtx
import HandS.TryElse
import HandS.SuiteRaise
import HandS.SetBool
import PyProof.Rows.TupDisplay
import HandS.ExcIs
import HandS.ExcOwn
import HandS.Strs
import HandS.ExcField
import PyProof.SeqRoads2
import PyProof.AutoSeq1
import PyProof.EqKinds
import PyProof.NeKinds
import KE.KDictDisplayH
import PyProof.Rows.InDataRows
import PyProof.TableCode
import PyProof.ReprLen
import KE.KIndexOf
import KE.KDictPairs
import PyProof.P3Eq
import HandS.Sort
import HandS.SortOrd
import HandS.SortRule
import KE.OsRunLaw
import PySem.Challenge.RW_turnpaper_k06_whole_binders
set_option Elab.async false
set_option linter.all false
set_option maxRecDepth 100000
namespace K06Hd
section
open PySem PySem.W PyProof.Rows
set_option maxRecDepth 100000 in
set_option maxHeartbeats 0 in
theorem law_open (H : PySem.Challenge.rw_turnpaper_k06_whole_binders.row.wellSaid = true → PySem.Challenge.rw_turnpaper_k06_whole_binders.row.Holds) : PySem.Challenge.rw_turnpaper_k06_whole_binders.Holds := by
  w_on; o_law
  exact H ‹_›
end
section
open PySem PySem.W PySem.Calls PyProof.Rows
set_option maxHeartbeats 0
abbrev hR : OpenRow := OpenLaw.row PySem.Challenge.rw_turnpaper_k06_whole_binders
abbrev hP : Program := RowW.prog (OpenRow.toRowW hR)
theorem bareP : hP.bare := ⟨rfl, rfl, rfl, rfl, rfl, by decide +kernel⟩
section
local macro_rules | `(tactic| o_head $H) => `(tactic| assumption)
theorem pre (h : OpenRow.Holds hR) : OpenRow.Holds hR := by k_head
end
def loose0 : List PySem.Str := ["__name__", "SPOTS", "parts", "functions", "function", "is_spot", "part_at", "at_way", "more_round", "uses_in", "params_round", "round_way", "all_uses", "binder_of", "home_of", "uses_of", "name_of", "_law_cell", "_law_names", "_law_number", "_law_leaf", "_law_op", "_law_times", "_law_call", "_law_expression", "_law_program", "_law_spots", "_law_parts", "_law_rows", "_law_found"]
def loose1 : List PySem.Str := ["_law_at", "_law_nearest", "_law_all", "_law_right"]
def looseL : List PySem.Str := loose0 ++ loose1
abbrev viewP : Program := view hP [36]
abbrev xtF : Shared → Bool := fun s => xlAt viewP [] s && recOk (RowW.records (OpenRow.toRowW hR)) s
def asL : List Addr := [2, 3, 15, 16, 17, 18, 19, 20, 21, 22, 23, 24, 27, 28, 29, 32, 33, 34, 36, 37, 39, 40, 41, 43, 44, 46, 47, 48, 50, 51, 53, 54, 55, 58, 59, 60, 62, 63, 65, 66, 67, 69, 70, 72, 73, 74, 77, 78, 79, 81, 82, 84, 85, 86, 88, 89, 91, 92, 93, 95, 96, 98, 99, 100, 102, 103, 105, 106, 107, 110, 111, 112, 114, 115, 117, 118, 119, 121, 122, 124, 125, 126, 129, 130, 131, 133, 134, 136, 137, 138, 140, 141, 143, 144, 145, 147, 148, 150, 151, 152, 155, 156, 157, 160, 161, 162, 165, 166, 167, 170, 171, 172, 174, 175, 177, 178, 179, 182, 183, 184, 187, 188, 189, 191, 192, 194, 195, 196, 198, 199, 201, 202, 203, 205, 206, 208, 209, 210, 213, 214, 215, 218, 219, 220, 222, 223, 225, 226]
theorem as_ok (P : Params) : asL = (pre.heap_1 P).map (·.1) := by kernel_rfl
theorem run_f (w : World) (os : OsState) : (HeadRun.endF (HeadRun.stepQ (HeadRun.denQ HeadRun.tabQ) hP (w.withFollow "special-get-raises" false)) 100000 hP (w.withFollow "special-get-raises" false) os).map (fun s => (HeadRun.looksF hP (boot_heap (w.withFollow "special-get-raises" false).params) s.abs, HeadRun.seenQ viewP looseL (importedModules hP.main.body) xtF s.abs, asL.map (HeadRun.getT s))) = some (true, openGood viewP looseL, (pre.heap_1 (w.withFollow "special-get-raises" false).params).map fun x => some x.2) := by kernel_rfl
theorem run_t (w : World) (os : OsState) : (HeadRun.endF (HeadRun.stepQ (HeadRun.denQ HeadRun.tabQ) hP (w.withFollow "special-get-raises" true)) 100000 hP (w.withFollow "special-get-raises" true) os).map (fun s => (HeadRun.looksF hP (boot_heap (w.withFollow "special-get-raises" true).params) s.abs, HeadRun.seenQ viewP looseL (importedModules hP.main.body) xtF s.abs, asL.map (HeadRun.getT s))) = some (true, openGood viewP looseL, (pre.heap_1 (w.withFollow "special-get-raises" true).params).map fun x => some x.2) := by kernel_rfl
theorem left : LeftO hP viewP looseL xtF (Hook.obs (kHook pre.heap_1 asL as_ok)) (Hook.val (kHook pre.heap_1 asL as_ok)) 100700 true :=
  HeadRun.left_oneK (M := 100000) (by kernel_rfl) (by rfl) (fun s => by kernel_rfl) (by rfl) (byRow2 "special-get-raises" run_f run_t)
theorem okP : (chainsOk viewP && opensWell hP && (frees (OpenRow.toRowW hR) && (OpenRow.toRowW hR).within.isEmpty)) = true := by decide +kernel
end
end K06Hd
namespace TP
open PySem L2
inductive D where
  | non | bl (b : Bool) | int (i : Int) | str (x : Str) | tup (xs : List D) | lst (xs : List D) | fro (xs : List D) | kt (xs : List D) | ref (k : Nat) | fn (c : Str)
  deriving Inhabited
inductive MO where
  | lst (xs : List D)
  | dK (kvs : List (Key × D))
  | dT (kvs : List (List Key × D))
  | ins (c : Str) (fs : List (Str × D))
  | exc (c : Nat) (d : D)
  | dN (wd : World) (kvs : List (NestedKey × D))
  | fK (kvs : List (Key × D))
  | fT (kvs : List (List Key × D))
abbrev Store := List MO
def clsAt (K : PySem.W.Frag) (c : Str) : Addr := match PySem.W.nsIn K mainGlobals c with
  | some (some (.ref a)) => a
  | _ => 0
@[simp] def klD (_ : List D) : Bool := false
def TupH (G : Hp) (a : Addr) (vs : List V) (b : Bool) : Prop := (b = true ∧ G a = some (.tup vs)) ∨ (b = false ∧ ∃ o : Obj, o.dict = none ∧ o.cls = .type "tuple" ∧ G a = some (.frz o (.tup vs)))
theorem TupH.rd {G : Hp} {a : Addr} {vs : List V} {b : Bool} (h : TupH G a vs b) : Rd G a (.tup vs) := by
  rcases h with ⟨_, h⟩ | ⟨_, o, _, _, h⟩
  · exact .inl h
  · exact .inr ⟨o, h⟩
theorem TupH.mono {G G' : Hp} (e : Same G G') {a : Addr} {vs : List V} {b : Bool} (h : TupH G a vs b) : TupH G' a vs b := by
  rcases h with ⟨hb, h⟩ | ⟨hb, o, h1, h2, h⟩
  · exact .inl ⟨hb, e _ _ h⟩
  · exact .inr ⟨hb, o, h1, h2, e _ _ h⟩
theorem TupH.inj {G : Hp} {a : Addr} {vs us : List V} {b b' : Bool} (h : TupH G a vs b) (h' : TupH G a us b') : vs = us := by
  rcases h with ⟨_, h⟩ | ⟨_, o, _, _, h⟩ <;> rcases h' with ⟨_, h'⟩ | ⟨_, o', _, _, h'⟩ <;> (rw [h] at h'; first | (cases h'; done) | (cases h'; rfl))
theorem TupH.key {G : Hp} {a : Addr} {vs : List V} {b : Bool} (h : TupH G a vs b) (hb : b = true) : G a = some (.tup vs) := by
  rcases h with ⟨_, h⟩ | ⟨hb', _⟩
  · exact h
  · rw [hb] at hb'; cases hb'
theorem TupH.known {G : Hp} {a : Addr} {vs : List V} {b : Bool} (h : TupH G a vs b) (hb : b = false) : ∃ o : Obj, o.dict = none ∧ o.cls = .type "tuple" ∧ G a = some (.frz o (.tup vs)) := by
  rcases h with ⟨hb', _⟩ | ⟨_, h⟩
  · rw [hb] at hb'; cases hb'
  · exact h
section
variable (K : PySem.W.Frag) (A : List Addr) (G : Hp)
mutual
inductive Rep : V → D → Prop
  | non : Rep .non .non
  | bl (b : Bool) : Rep (.bl b) (.bl b)
  | int (i : Int) : Rep (.int i) (.int i)
  | str (x : Str) : Rep (.str x) (.str x)
  | tup {a : Addr} {vs : List V} {ds : List D} : TupH G a vs (klD ds) → RepL vs ds → Rep (.ref a) (.tup ds)
  | kt {a : Addr} {vs : List V} {ds : List D} : SqT K G a vs → RepL vs ds → Rep (.ref a) (.kt ds)
  | lst {a : Addr} {vs : List V} {ds : List D} : G a = some (.lst vs) → RepL vs ds → Rep (.ref a) (.lst ds)
  | fro {a : Addr} {vs : List V} {ds : List D} : SqL K G a vs → RepL vs ds → Rep (.ref a) (.fro ds)
  | ref {a : Addr} {k : Nat} : A[k]? = some a → Rep (.ref a) (.ref k)
  | fn (c : Str) : Rep (.ref (clsAt K c)) (.fn c)
inductive RepL : List V → List D → Prop
  | nil : RepL [] []
  | cons {v : V} {vs : List V} {d : D} {ds : List D} : Rep v d → RepL vs ds → RepL (v :: vs) (d :: ds)
end
end
theorem sqT_mono {K : PySem.W.Frag} {G G' : Hp} {a : Addr} {xs : List V} (e : Same G G') (h : SqT K G a xs) : SqT K G' a xs := by
  rcases h with (h | ⟨o, h⟩) | h
  · exact .inl (.inl (e _ _ h))
  · exact .inl (.inr ⟨o, e _ _ h⟩)
  · exact .inr h
section
variable {K : PySem.W.Frag} {A A' : List Addr} {G G' : Hp}
theorem pre_get {α : Type} {l l' : List α} (h : l <+: l') {k : Nat} {a : α} (e : l[k]? = some a) : l'[k]? = some a := by
  obtain ⟨t, rfl⟩ := h
  rw [List.getElem?_append_left (List.getElem?_eq_some_iff.mp e).1]
  exact e
mutual
theorem Rep.mono (hA : A <+: A') (hG : Same G G') : ∀ (d : D) (v : V), Rep K A G v d → Rep K A' G' v d
  | .non, _, h => by cases h; exact .non
  | .bl b, _, h => by cases h; exact .bl b
  | .int i, _, h => by cases h; exact .int i
  | .str x, _, h => by cases h; exact .str x
  | .tup ds, _, h => by
    cases h with
    | tup hs hr => exact .tup (hs.mono hG) (RepL.mono hA hG ds _ hr)
  | .kt ds, _, h => by
    cases h with
    | kt hs hr => exact .kt (sqT_mono hG hs) (RepL.mono hA hG ds _ hr)
  | .lst ds, _, h => by
    cases h with
    | lst hs hr => exact .lst (hG _ _ hs) (RepL.mono hA hG ds _ hr)
  | .fro ds, _, h => by
    cases h with
    | fro hs hr => exact .fro (hG.seq hs) (RepL.mono hA hG ds _ hr)
  | .ref k, _, h => by
    cases h with
    | ref e => exact .ref (pre_get hA e)
  | .fn c, _, h => by cases h; exact .fn c
theorem RepL.mono (hA : A <+: A') (hG : Same G G') : ∀ (ds : List D) (vs : List V), RepL K A G vs ds → RepL K A' G' vs ds
  | [], _, h => by cases h; exact .nil
  | d :: ds, _, h => by
    cases h with
    | cons h1 h2 => exact .cons (Rep.mono hA hG d _ h1) (RepL.mono hA hG ds _ h2)
end
theorem RepL.length : ∀ {vs : List V} {ds : List D}, RepL K A G vs ds → vs.length = ds.length
  | [], [], _ => rfl
  | _ :: vs, _ :: ds, h => by
    cases h with
    | cons _ h2 => rw [List.length_cons, List.length_cons, RepL.length h2]
theorem RepL.get : ∀ {vs : List V} {ds : List D} {i : Nat} {d : D}, RepL K A G vs ds → ds[i]? = some d → ∃ v, vs[i]? = some v ∧ Rep K A G v d
  | [], [], _, _, _, e => by simp at e
  | _ :: _, _ :: _, 0, _, h, e => by
    cases h with
    | cons h1 _ => simp at e; subst e; exact ⟨_, rfl, h1⟩
  | _ :: _, _ :: _, i + 1, _, h, e => by
    cases h with
    | cons _ h2 =>
      obtain ⟨v, a, b⟩ := RepL.get (i := i) h2 (by simpa using e)
      exact ⟨v, by simpa using a, b⟩
theorem RepL.get' : ∀ {vs : List V} {ds : List D} {i : Nat} {v : V}, RepL K A G vs ds → vs[i]? = some v → ∃ d, ds[i]? = some d ∧ Rep K A G v d
  | [], [], _, _, _, e => by simp at e
  | _ :: _, _ :: _, 0, _, h, e => by
    cases h with
    | cons h1 _ => simp at e; subst e; exact ⟨_, rfl, h1⟩
  | _ :: _, _ :: _, i + 1, _, h, e => by
    cases h with
    | cons _ h2 =>
      obtain ⟨v, a, b⟩ := RepL.get' (i := i) h2 (by simpa using e)
      exact ⟨v, by simpa using a, b⟩
theorem RepL.append : ∀ {vs ws : List V} {ds es : List D}, RepL K A G vs ds → RepL K A G ws es → RepL K A G (vs ++ ws) (ds ++ es)
  | [], _, [], _, _, s => s
  | _ :: vs, _, _ :: ds, _, .cons r t, s => .cons r (RepL.append t s)
theorem RepL.take : ∀ {vs : List V} {ds : List D} (n : Nat), RepL K A G vs ds → RepL K A G (vs.take n) (ds.take n)
  | _, _, 0, _ => .nil
  | [], [], _ + 1, _ => .nil
  | _ :: _, _ :: _, n + 1, .cons r t => .cons r (RepL.take n t)
theorem RepL.drop : ∀ {vs : List V} {ds : List D} (n : Nat), RepL K A G vs ds → RepL K A G (vs.drop n) (ds.drop n)
  | _, _, 0, r => r
  | [], [], _ + 1, _ => .nil
  | _ :: _, _ :: _, n + 1, .cons _ t => RepL.drop n t
theorem RepL.set {v : V} {d : D} (r : Rep K A G v d) : ∀ {vs : List V} {ds : List D} (i : Nat), RepL K A G vs ds → RepL K A G (vs.set i v) (ds.set i d)
  | [], [], _, _ => .nil
  | _ :: _, _ :: _, 0, .cons _ t => .cons r t
  | _ :: _, _ :: _, i + 1, .cons q t => .cons q (RepL.set r i t)
theorem RepL.dropLast {vs : List V} {ds : List D} (h : RepL K A G vs ds) : RepL K A G vs.dropLast ds.dropLast := by
  rw [List.dropLast_eq_take, List.dropLast_eq_take, h.length]
  exact h.take _
theorem RepL.one {v : V} {d : D} (h : Rep K A G v d) : RepL K A G [v] [d] := .cons h .nil
theorem RepL.nil_iff {vs : List V} {ds : List D} (h : RepL K A G vs ds) : vs = [] ↔ ds = [] := by
  cases h <;> simp
end
structure Wd where
  A : List Addr
  G : Hp
  M : Store
  H : Hp
inductive RepKV {κ : Type} (R : V → D → Prop) : List (κ × V) → List (κ × D) → Prop
  | nil : RepKV R [] []
  | cons {k : κ} {v : V} {d : D} {vs : List (κ × V)} {ds : List (κ × D)} : R v d → RepKV R vs ds → RepKV R ((k, v) :: vs) ((k, d) :: ds)
theorem RepKV.imp {κ : Type} {R R' : V → D → Prop} (f : ∀ v d, R v d → R' v d) : ∀ {vs : List (κ × V)} {ds : List (κ × D)}, RepKV R vs ds → RepKV R' vs ds
  | _, _, .nil => .nil
  | _, _, .cons r t => .cons (f _ _ r) (RepKV.imp f t)
def InsOk (K : PySem.W.Frag) (c : Str) (fs : List (Str × D)) : Prop := Cls K (clsAt K c) ∧ ∀ x ∈ fs, NoAttr K (clsAt K c) x.1
def exN : Nat → Str
  | 0 => "NoStep"
  | 1 => "Shade"
  | 2 => "NoTurn"
  | 3 => "TooMany"
  | 4 => "BadProgram"
  | 5 => "BadPaper"
  | 6 => "BadText"
  | _ => "Hangs"
def exI (c : Nat) : Bool := decide (4 ≤ c)
def exH (cls : Value) (dx : Option Addr) (a : Addr) : HO := .ext fun h => ∃ (oe : Obj) (vs : Array Value), h.get? a = some oe ∧ oe.cls = cls ∧ oe.dict = dx ∧ oe.data = .fields vs
mutual
inductive KeyR (G : Hp) : NestedKey → V → Prop
  | non : KeyR G .none .non
  | num (i : Int) : KeyR G (.num i) (.int i)
  | text (x : Str) : KeyR G (.text x) (.str x)
  | tup {a : Addr} {vs : List V} {ks : List NestedKey} : Rd G a (.tup vs) → KeyRL G ks vs → KeyR G (.tup ks) (.ref a)
inductive KeyRL (G : Hp) : List NestedKey → List V → Prop
  | nil : KeyRL G [] []
  | cons {k : NestedKey} {v : V} {ks : List NestedKey} {vs : List V} : KeyR G k v → KeyRL G ks vs → KeyRL G (k :: ks) (v :: vs)
end
mutual
theorem KeyR.mono {G G' : Hp} (e : Same G G') : ∀ (k : NestedKey) (v : V), KeyR G k v → KeyR G' k v
  | .none, _, h => by cases h; exact .non
  | .num i, _, h => by cases h; exact .num i
  | .text x, _, h => by cases h; exact .text x
  | .tup ks, _, h => by
    cases h with
    | tup h1 h2 => exact .tup (h1.imp (e _ _) fun ⟨o, h⟩ => ⟨o, e _ _ h⟩) (KeyRL.mono e ks _ h2)
theorem KeyRL.mono {G G' : Hp} (e : Same G G') : ∀ (ks : List NestedKey) (vs : List V), KeyRL G ks vs → KeyRL G' ks vs
  | [], _, h => by cases h; exact .nil
  | k :: ks, _, h => by
    cases h with
    | cons h1 h2 => exact .cons (KeyR.mono e k _ h1) (KeyRL.mono e ks _ h2)
end
abbrev EntN := NestedKey × Addr × V
abbrev VN : List EntN → List (NestedKey × Addr × Value) → Prop := Paired fun p q => p.1 = q.1 ∧ p.2.1 = q.2.1 ∧ RelV p.2.2 q.2.2
def dnX (wd : World) (ys : List EntN) (a : Addr) : HO := .ext fun h => ∃ xs, VN ys xs ∧ ∃ o es ep, h.get? a = some o ∧ o.ExactDict ∧ o.data = .dict es ep ∧ es.toList = xs.map (fun x => (⟨x.1.hash wd, .ref x.2.1, x.2.2⟩ : DictEntry)) ∧ (xs.map (·.1)).Nodup
inductive RepN (R : V → D → Prop) (G : Hp) : List EntN → List (NestedKey × D) → Prop
  | nil : RepN R G [] []
  | cons {k : NestedKey} {b : Addr} {v : V} {d : D} {ys : List EntN} {ds : List (NestedKey × D)} : KeyR G k (.ref b) → k.depth ≤ 8 → R v d → RepN R G ys ds → RepN R G ((k, b, v) :: ys) ((k, d) :: ds)
theorem RepN.imp {R R' : V → D → Prop} {G G' : Hp} (e : Same G G') (f : ∀ v d, R v d → R' v d) : ∀ {ys : List EntN} {ds : List (NestedKey × D)}, RepN R G ys ds → RepN R' G' ys ds
  | _, _, .nil => .nil
  | _, _, .cons k d r t => .cons (KeyR.mono e _ _ k) d (f _ _ r) (RepN.imp e f t)
section
variable (K : PySem.W.Frag)
def MoR (w : Wd) (a : Addr) : MO → Prop
  | .lst ds => ∃ vs, w.H a = some (.lst vs) ∧ RepL K w.A w.G vs ds
  | .dK kvs => ∃ vs, w.H a = some (.dK vs) ∧ RepKV (Rep K w.A w.G) vs kvs
  | .dT kvs => ∃ vs, w.H a = some (.dT vs) ∧ RepKV (Rep K w.A w.G) vs kvs
  | .ins c fs => InsOk K c fs ∧ ∃ vs dx, w.H a = some (.ins (clsAt K c) dx vs) ∧ RepKV (Rep K w.A w.G) vs fs
  | .exc c d => ∃ dx, w.H a = some (exH (.ref (clsAt K (exN c))) dx a) ∧ ((exI c = false ∧ dx = none) ∨ (exI c = true ∧ ∃ dd v, dx = some dd ∧ w.G dd = some (.xd [("at", v)]) ∧ Rep K w.A w.G v d))
  | .dN wd kvs => kvs.length ≤ sizeLine ∧ (a == sysModules) = false ∧ ∃ ys, w.H a = some (dnX wd ys a) ∧ RepN (Rep K w.A w.G) w.G ys kvs
  | .fK kvs => ∃ od vs, w.G a = some (.frz od (.dK vs)) ∧ RepKV (Rep K w.A w.G) vs kvs
  | .fT kvs => ∃ od vs, w.G a = some (.frz od (.dT vs)) ∧ RepKV (Rep K w.A w.G) vs kvs
def Lk : HO → Prop
  | .frz _ (.dK _) => True
  | .frz _ (.dT _) => True
  | _ => False
theorem fk_mono {K : PySem.W.Frag} {w w' : Wd} {a : Addr} {d : List (Key × D)} (r : MoR K w a (.fK d)) (hA : w.A <+: w'.A) (hG : Same w.G w'.G) : MoR K w' a (.fK d) := by
  obtain ⟨od, vs, q1, q2⟩ := r
  exact ⟨od, vs, hG _ _ q1, q2.imp fun v d => Rep.mono hA hG d v⟩
theorem ft_mono {K : PySem.W.Frag} {w w' : Wd} {a : Addr} {d : List (List Key × D)} (r : MoR K w a (.fT d)) (hA : w.A <+: w'.A) (hG : Same w.G w'.G) : MoR K w' a (.fT d) := by
  obtain ⟨od, vs, q1, q2⟩ := r
  exact ⟨od, vs, hG _ _ q1, q2.imp fun v d => Rep.mono hA hG d v⟩
theorem dn_mono {K : PySem.W.Frag} {w w' : Wd} {a : Addr} {wd : World} {d : List (NestedKey × D)} (r : MoR K w a (.dN wd d)) (h : ∀ o, w.H a = some o → w'.H a = some o) (hA : w.A <+: w'.A) (hG : Same w.G w'.G) : MoR K w' a (.dN wd d) := by
  obtain ⟨z, y, ys, q1, q2⟩ := r
  exact ⟨z, y, ys, h _ q1, q2.imp hG fun v d => Rep.mono hA hG d v⟩
theorem exc_mono {K : PySem.W.Frag} {w w' : Wd} {a : Addr} {c : Nat} {d : D} (r : MoR K w a (.exc c d)) (h : ∀ o, w.H a = some o → w'.H a = some o) (hA : w.A <+: w'.A) (hG : Same w.G w'.G) : MoR K w' a (.exc c d) := by
  obtain ⟨dx, z, q⟩ := r
  refine ⟨dx, h _ z, q.imp id fun ⟨e, dd, v, h1, h2, h3⟩ => ⟨e, dd, v, h1, hG _ _ h2, Rep.mono hA hG d v h3⟩⟩
structure Wd.Ok (w : Wd) : Prop where
  sub : Same w.G w.H
  nd : w.A.Nodup
  len : w.A.length = w.M.length
  out : ∀ a ∈ w.A, ∀ u, w.G a = some u → Lk u
  mos : ∀ (k : Nat) (o : MO), w.M[k]? = some o → ∃ a, w.A[k]? = some a ∧ MoR K w a o
structure Step (w w' : Wd) : Prop where
  ok : w'.Ok K
  pre : w.A <+: w'.A
  fro : Same w.G w'.G
  keep : ∀ p o, w.H p = some o → w.G p = none → p ∉ w.A → w'.H p = some o ∧ (w'.G p = none ∨ ∃ xs, o = .tup xs) ∧ p ∉ w'.A
end
section
variable {K : PySem.W.Frag} {w w1 w2 : Wd}
theorem Step.refl (h : w.Ok K) : Step K w w := ⟨h, List.prefix_refl _, Same.refl _, fun _ _ a b c => ⟨a, .inl b, c⟩⟩
theorem Step.trans (a : Step K w w1) (b : Step K w1 w2) : Step K w w2 :=
  ⟨b.ok, a.pre.trans b.pre, a.fro.trans b.fro, fun p o h1 h2 h3 => by
    obtain ⟨x, y, z⟩ := a.keep p o h1 h2 h3
    cases q : w1.G p with
    | none => exact b.keep p o x q z
    | some u =>
      have e1 := a.ok.sub _ _ q
      rw [x] at e1; cases e1
      have e2 := b.fro _ _ q
      refine ⟨b.ok.sub _ _ e2, .inr (y.elim (fun y => by rw [q] at y; cases y) id), fun hm => ?_⟩
      have l := b.ok.out _ hm _ e2
      rcases y with y | ⟨xs, rfl⟩
      · rw [q] at y; cases y
      · exact l⟩
theorem Step.keepN (s : Step K w w1) (p : Addr) (o : HO) (h1 : w.H p = some o) (h2 : w.G p = none) (h3 : p ∉ w.A) (hn : ∀ xs, o ≠ .tup xs := by intro _ h; cases h) : w1.H p = some o ∧ w1.G p = none ∧ p ∉ w1.A :=
  let ⟨a, b, c⟩ := s.keep p o h1 h2 h3
  ⟨a, b.elim id fun ⟨xs, e⟩ => absurd e (hn xs), c⟩
theorem Step.rep (s : Step K w w1) {v : V} {d : D} (h : Rep K w.A w.G v d) : Rep K w1.A w1.G v d := Rep.mono s.pre s.fro d v h
theorem Step.repL (s : Step K w w1) {vs : List V} {ds : List D} (h : RepL K w.A w.G vs ds) : RepL K w1.A w1.G vs ds := RepL.mono s.pre s.fro ds vs h
theorem Wd.Ok.fresh (h : w.Ok K) {p : Addr} (hp : w.H p = none) (o : HO) : Step K w ⟨w.A, upd w.G p o, w.M, upd w.H p o⟩ := by
  have hG : w.G p = none := h.sub.free hp
  have sG : Same w.G (upd w.G p o) := fun b u e => by rw [upd_ne (ne_of_none e hG)]; exact e
  have npA : p ∉ w.A := fun hm => by
    obtain ⟨k, hk, e⟩ := List.mem_iff_getElem.mp hm
    have hk' : k < w.M.length := by rw [← h.len]; exact hk
    obtain ⟨a, ea, r⟩ := h.mos k w.M[k] (List.getElem?_eq_getElem hk')
    have e2 : a = p := by
      rw [List.getElem?_eq_getElem hk] at ea
      exact (Option.some.inj ea).symm.trans e
    subst e2
    cases q : w.M[k] with
    | lst ds => rw [q] at r; obtain ⟨_, z, _⟩ := r; rw [hp] at z; cases z
    | dK ds => rw [q] at r; obtain ⟨_, z, _⟩ := r; rw [hp] at z; cases z
    | dT ds => rw [q] at r; obtain ⟨_, z, _⟩ := r; rw [hp] at z; cases z
    | ins c fs => rw [q] at r; obtain ⟨_, _, _, z, _⟩ := r; rw [hp] at z; cases z
    | exc c d => rw [q] at r; obtain ⟨_, z, _⟩ := r; rw [hp] at z; cases z
    | dN wd d => rw [q] at r; obtain ⟨_, _, _, z, _⟩ := r; rw [hp] at z; cases z
    | fK ds => rw [q] at r; obtain ⟨_, _, z, _⟩ := r; have z := h.sub _ _ z; rw [hp] at z; cases z
    | fT ds => rw [q] at r; obtain ⟨_, _, z, _⟩ := r; have z := h.sub _ _ z; rw [hp] at z; cases z
  refine ⟨⟨fun b u e => ?_, h.nd, h.len, fun a ha u e => ?_, fun k m e => ?_⟩, List.prefix_refl _, sG, fun q u h1 h2 h3 => ⟨?_, ?_, h3⟩⟩
  · show upd w.H p o b = some u
    by_cases hb : b = p
    · subst hb
      have e' : upd w.G b o b = some u := e
      rw [upd_same] at e' ⊢; exact e'
    · have e' : upd w.G p o b = some u := e
      rw [upd_ne hb] at e' ⊢; exact h.sub b u e'
  · have e' : upd w.G p o a = some u := e
    rw [upd_ne (fun z : a = p => npA (z ▸ ha))] at e'
    exact h.out a ha u e'
  · obtain ⟨a, ea, r⟩ := h.mos k m e
    refine ⟨a, ea, ?_⟩
    have rr : ∀ v d, Rep K w.A w.G v d → Rep K w.A (upd w.G p o) v d := fun v d => Rep.mono (List.prefix_refl _) sG d v
    cases m with
    | lst ds =>
      obtain ⟨vs, z, q⟩ := r
      exact ⟨vs, by show upd w.H p o a = _; rw [upd_ne (ne_of_none z hp)]; exact z, RepL.mono (List.prefix_refl _) sG _ _ q⟩
    | dK ds =>
      obtain ⟨vs, z, q⟩ := r
      exact ⟨vs, by show upd w.H p o a = _; rw [upd_ne (ne_of_none z hp)]; exact z, q.imp rr⟩
    | dT ds =>
      obtain ⟨vs, z, q⟩ := r
      exact ⟨vs, by show upd w.H p o a = _; rw [upd_ne (ne_of_none z hp)]; exact z, q.imp rr⟩
    | exc c d => exact exc_mono r (fun o z => by show upd w.H p _ a = _; rw [upd_ne (ne_of_none z hp)]; exact z) (List.prefix_refl _) sG
    | dN wd d => exact dn_mono r (fun o z => by show upd w.H p _ a = _; rw [upd_ne (ne_of_none z hp)]; exact z) (List.prefix_refl _) sG
    | fK d => exact fk_mono r (List.prefix_refl _) sG
    | fT d => exact ft_mono r (List.prefix_refl _) sG
    | ins c fs =>
      obtain ⟨io, vs, dx, z, q⟩ := r
      exact ⟨io, vs, dx, by show upd w.H p o a = _; rw [upd_ne (ne_of_none z hp)]; exact z, q.imp rr⟩
  · show upd w.H p o q = some u
    rw [upd_ne (ne_of_none h1 hp)]; exact h1
  · refine .inl ?_
    show upd w.G p o q = none
    rw [upd_ne (ne_of_none h1 hp)]; exact h2
end
end TP
namespace TP
open PySem L2
inductive Slot where
  | un | val (d : D) | own (ds : List D)
  deriving Inhabited
abbrev EnvD := List Slot
def Slot.d : Slot → D
  | .un => .non
  | .val d => d
  | .own ds => .lst ds
inductive R (α : Type) where
  | ok (a : α) (M : Store) | exc (c : Nat) (d : D) (M : Store) | bad
def R.bind {α β : Type} (r : R α) (f : α → Store → R β) : R β := match r with
  | .ok a M => f a M
  | .exc c d M => .exc c d M
  | .bad => .bad
def R.map {α β : Type} (f : α → β) (r : R α) : R β := match r with
  | .ok a M => .ok (f a) M
  | .exc c d M => .exc c d M
  | .bad => .bad
def R.of {α : Type} (o : Option α) (M : Store) : R α := match o with
  | some a => .ok a M
  | none => .bad
abbrev Wish := Nat → D → Wd → Prop
section
variable (K : PySem.W.Frag) (E : Wish)
def After {α : Type} (w : Wd) (r : R α) (P : α → Wd → Prop) : Prop := match r with
  | .ok a M => ∀ w', Step K w w' → w'.M = M → P a w'
  | .exc c d M => ∀ w', Step K w w' → w'.M = M → E c d w'
  | .bad => False
structure SR (w : Wd) (ρ : EnvD) (σ : St) : Prop where
  len : ρ.length = σ.length
  val : ∀ (i : Nat) (d : D), ρ[i]? = some (.val d) → ∃ v, σ[i]? = some (some v) ∧ Rep K w.A w.G v d
  own : ∀ (i : Nat) (ds : List D), ρ[i]? = some (.own ds) → ∃ p vs, σ[i]? = some (some (.ref p)) ∧ w.H p = some (.lst vs) ∧ w.G p = none ∧ p ∉ w.A ∧ RepL K w.A w.G vs ds
  dis : ∀ (i j : Nat) (ds es : List D) (p : Addr), ρ[i]? = some (.own ds) → ρ[j]? = some (.own es) → σ[i]? = some (some (.ref p)) → σ[j]? = some (some (.ref p)) → i = j
def RepB (w : Wd) (v : V) (d : D) : Prop := Rep K w.A w.G v d ∨ ∃ p vs ds, v = .ref p ∧ d = .lst ds ∧ w.H p = some (.lst vs) ∧ w.G p = none ∧ p ∉ w.A ∧ RepL K w.A w.G vs ds
def RepX (w w' : Wd) (v : V) : Slot → Prop
  | .un => False
  | .val d => Rep K w'.A w'.G v d
  | .own ds => ∃ p vs, v = .ref p ∧ w.H p = none ∧ w'.H p = some (.lst vs) ∧ w'.G p = none ∧ p ∉ w'.A ∧ RepL K w'.A w'.G vs ds
abbrev FE := EnvD → Store → R Slot
abbrev FD := EnvD → Store → R D
abbrev FL := EnvD → Store → R (List D)
abbrev FB := EnvD → Store → R Bool
def tE (f : FE) : TE := fun σ H Q => ∃ ρ w, w.H = H ∧ w.Ok K ∧ SR K w ρ σ ∧ After K E w (f ρ w.M) fun s w' => ∀ v, RepX K w w' v s → Q v w'.H
def tF (f : FD) : TE := fun σ H Q => ∃ ρ w, w.H = H ∧ w.Ok K ∧ SR K w ρ σ ∧ After K E w (f ρ w.M) fun d w' => ∀ v, Rep K w'.A w'.G v d → Q v w'.H
def tR (f : FD) : TE := fun σ H Q => ∃ ρ w, w.H = H ∧ w.Ok K ∧ SR K w ρ σ ∧ After K E w (f ρ w.M) fun d w' => ∀ v, RepB K w' v d → Q v w'.H
def tAF (f : FL) : TA := fun σ H Q => ∃ ρ w, w.H = H ∧ w.Ok K ∧ SR K w ρ σ ∧ After K E w (f ρ w.M) fun ds w' => ∀ vs, RepL K w'.A w'.G vs ds → Q vs w'.H
inductive RepBL (w : Wd) : List V → List D → Prop
  | nil : RepBL w [] []
  | cons {v : V} {vs : List V} {d : D} {ds : List D} : RepB K w v d → RepBL w vs ds → RepBL w (v :: vs) (d :: ds)
def tAR (f : FL) : TA := fun σ H Q => ∃ ρ w, w.H = H ∧ w.Ok K ∧ SR K w ρ σ ∧ After K E w (f ρ w.M) fun ds w' => ∀ vs, RepBL K w' vs ds → Q vs w'.H
def tT (f : FB) : TT := fun σ H Q => ∃ ρ w, w.H = H ∧ w.Ok K ∧ SR K w ρ σ ∧ After K E w (f ρ w.M) fun b w' => Q b w'.H
end
section
variable {K : PySem.W.Frag} {E : Wish}
theorem After.bind {α β : Type} {w : Wd} {r : R α} {f : α → Store → R β} {P : β → Wd → Prop} (h : After K E w (r.bind f) P) : After K E w r fun a w' => After K E w' (f a w'.M) P := by
  cases r with
  | bad => exact h
  | exc c d M => exact h
  | ok a M =>
    intro w1 s1 e1
    have h' : After K E w (f a M) P := h
    rw [e1]
    cases q : f a M with
    | bad => rw [q] at h'; exact h'
    | exc c d M2 => rw [q] at h'; exact fun w2 s2 e2 => h' w2 (s1.trans s2) e2
    | ok b M2 => rw [q] at h'; exact fun w2 s2 e2 => h' w2 (s1.trans s2) e2
theorem After.imp {α : Type} {w : Wd} {r : R α} {P P' : α → Wd → Prop} (h : After K E w r P) (f : ∀ a w', Step K w w' → P a w' → P' a w') : After K E w r P' := by
  cases r with
  | bad => exact h
  | exc c d M => exact h
  | ok a M => exact fun w1 s1 e1 => f a w1 s1 (h w1 s1 e1)
theorem After.map {α β : Type} {w : Wd} {r : R α} {g : α → β} {P : β → Wd → Prop} (h : After K E w (r.map g) P) : After K E w r fun a w' => P (g a) w' := by
  cases r with
  | bad => exact h
  | exc c d M => exact h
  | ok a M => exact h
theorem After.of {α : Type} {w w' : Wd} {o : Option α} {P : α → Wd → Prop} (h : After K E w (R.of o w.M) P) (hs : Step K w w') (hM : w'.M = w.M) : ∃ a, o = some a ∧ P a w' := by
  cases o with
  | none => exact h.elim
  | some a => exact ⟨a, rfl, h w' hs hM⟩
theorem After.later {α : Type} {w w1 : Wd} {r : R α} {P : α → Wd → Prop} (h : After K E w r P) (s : Step K w w1) : After K E w1 r P := by
  cases r with
  | bad => exact h
  | exc c d M => exact fun w2 s2 e2 => h w2 (s.trans s2) e2
  | ok a M => exact fun w2 s2 e2 => h w2 (s.trans s2) e2
theorem SR.step {w w' : Wd} {ρ : EnvD} {σ : St} (h : SR K w ρ σ) (s : Step K w w') : SR K w' ρ σ :=
  ⟨h.len, fun i d e => let ⟨v, a, b⟩ := h.val i d e; ⟨v, a, s.rep b⟩,
   fun i ds e => let ⟨p, vs, a, b, c, d, f⟩ := h.own i ds e; let ⟨b', c', d'⟩ := s.keepN p _ b c d; ⟨p, vs, a, b', c', d', s.repL f⟩, h.dis⟩
theorem RepB.step {w w' : Wd} {v : V} {d : D} (h : RepB K w v d) (s : Step K w w') : RepB K w' v d := by
  rcases h with h | ⟨p, vs, ds, e1, e2, b, c, d, f⟩
  · exact .inl (s.rep h)
  · obtain ⟨b', c', d'⟩ := s.keepN p _ b c d
    exact .inr ⟨p, vs, ds, e1, e2, b', c', d', s.repL f⟩
theorem RepBL.step {w w' : Wd} (s : Step K w w') : ∀ {vs : List V} {ds : List D}, RepBL K w vs ds → RepBL K w' vs ds
  | _, _, .nil => .nil
  | _, _, .cons r t => .cons (r.step s) (RepBL.step s t)
theorem RepBL.of {w : Wd} : ∀ {vs : List V} {ds : List D}, RepL K w.A w.G vs ds → RepBL K w vs ds
  | [], [], _ => .nil
  | _ :: _, _ :: _, .cons r t => .cons (.inl r) (RepBL.of t)
theorem Wd.Ok.freeze {w : Wd} (h : w.Ok K) {p : Addr} {o : HO} (hp : w.H p = some o) (hG : w.G p = none) (hA : p ∉ w.A) : (⟨w.A, upd w.G p o, w.M, w.H⟩ : Wd).Ok K := by
  have sG : Same w.G (upd w.G p o) := fun b u e => by rw [upd_ne (ne_of_none e hG)]; exact e
  have rr : ∀ v d, Rep K w.A w.G v d → Rep K w.A (upd w.G p o) v d := fun v d => Rep.mono (List.prefix_refl _) sG d v
  refine ⟨fun b u e => ?_, h.nd, h.len, fun a ha u e => ?_, fun k m e => ?_⟩
  · have e' : upd w.G p o b = some u := e
    by_cases hb : b = p
    · subst hb
      rw [upd_same] at e'
      exact hp.trans e'
    · rw [upd_ne hb] at e'; exact h.sub b u e'
  · have e' : upd w.G p o a = some u := e
    rw [upd_ne (fun z : a = p => hA (z ▸ ha))] at e'
    exact h.out a ha u e'
  · obtain ⟨a, ea, r⟩ := h.mos k m e
    refine ⟨a, ea, ?_⟩
    cases m with
    | lst ds => obtain ⟨vs, z, q⟩ := r; exact ⟨vs, z, RepL.mono (List.prefix_refl _) sG _ _ q⟩
    | dK ds => obtain ⟨vs, z, q⟩ := r; exact ⟨vs, z, q.imp rr⟩
    | dT ds => obtain ⟨vs, z, q⟩ := r; exact ⟨vs, z, q.imp rr⟩
    | ins c fs => obtain ⟨io, vs, dx, z, q⟩ := r; exact ⟨io, vs, dx, z, q.imp rr⟩
    | exc c d => exact exc_mono r (fun _ z => z) (List.prefix_refl _) sG
    | dN wd d => exact dn_mono r (fun _ z => z) (List.prefix_refl _) sG
    | fK d => exact fk_mono r (List.prefix_refl _) sG
    | fT d => exact ft_mono r (List.prefix_refl _) sG
theorem upd_fro {G : Hp} {p : Addr} {o : HO} (h : G p = none) : Same G (upd G p o) := fun b u e => by rw [upd_ne (ne_of_none e h)]; exact e
theorem RepX.freeze {w w' : Wd} {v : V} {s : Slot} (st : Step K w w') (h : RepX K w w' v s) : ∃ G', Step K w ⟨w'.A, G', w'.M, w'.H⟩ ∧ Rep K w'.A G' v s.d := by
  cases s with
  | un => exact h.elim
  | val d => exact ⟨w'.G, st, h⟩
  | own ds =>
    obtain ⟨p, vs, rfl, h0, hH, hG, hA, r⟩ := h
    refine ⟨upd w'.G p (.lst vs), ⟨st.ok.freeze hH hG hA, st.pre, st.fro.trans (upd_fro hG), fun q o h1 h2 h3 => ?_⟩, .lst upd_same (RepL.mono (List.prefix_refl _) (upd_fro hG) _ _ r)⟩
    obtain ⟨a, b, c⟩ := st.keep q o h1 h2 h3
    exact ⟨a, b.imp (fun b => by show upd w'.G p (.lst vs) q = none; rw [upd_ne (ne_of_none h1 h0)]; exact b) id, c⟩
theorem RepX.b {w w' : Wd} {v : V} {s : Slot} (h : RepX K w w' v s) : RepB K w' v s.d := by
  cases s with
  | un => exact h.elim
  | val d => exact .inl h
  | own ds => obtain ⟨p, vs, e, _, hH, hG, hA, r⟩ := h; exact .inr ⟨p, vs, ds, e, rfl, hH, hG, hA, r⟩
theorem Wd.Ok.some_at {w : Wd} (h : w.Ok K) {p : Addr} (hp : p ∈ w.A) : ∃ o, w.H p = some o := by
  obtain ⟨k, hk, e⟩ := List.mem_iff_getElem.mp hp
  have hk' : k < w.M.length := by rw [← h.len]; exact hk
  obtain ⟨a, ea, r⟩ := h.mos k w.M[k] (List.getElem?_eq_getElem hk')
  have e2 : a = p := by
    rw [List.getElem?_eq_getElem hk] at ea
    exact (Option.some.inj ea).symm.trans e
  subst e2
  cases q : w.M[k] with
  | lst ds => rw [q] at r; obtain ⟨_, z, _⟩ := r; exact ⟨_, z⟩
  | dK ds => rw [q] at r; obtain ⟨_, z, _⟩ := r; exact ⟨_, z⟩
  | dT ds => rw [q] at r; obtain ⟨_, z, _⟩ := r; exact ⟨_, z⟩
  | ins c fs => rw [q] at r; obtain ⟨_, _, _, z, _⟩ := r; exact ⟨_, z⟩
  | exc c d => rw [q] at r; obtain ⟨_, z, _⟩ := r; exact ⟨_, z⟩
  | dN wd d => rw [q] at r; obtain ⟨_, _, _, z, _⟩ := r; exact ⟨_, z⟩
  | fK d => rw [q] at r; obtain ⟨_, _, z, _⟩ := r; exact ⟨_, h.sub _ _ z⟩
  | fT d => rw [q] at r; obtain ⟨_, _, z, _⟩ := r; exact ⟨_, h.sub _ _ z⟩
theorem Step.free {w w' : Wd} (s : Step K w w') {p : Addr} (h : w'.H p = none) : w.H p = none := by
  cases q : w.H p with
  | none => rfl
  | some o =>
    exfalso
    cases qG : w.G p with
    | some u =>
      have := s.ok.sub p u (s.fro p u qG)
      rw [h] at this; cases this
    | none =>
      by_cases hA : p ∈ w.A
      · obtain ⟨o', z⟩ := s.ok.some_at (s.pre.subset hA)
        rw [h] at z; cases z
      · have := (s.keep p o q qG hA).1
        rw [h] at this; cases this
theorem RepX.back {w w1 w2 : Wd} {v : V} {s : Slot} (st : Step K w w1) (h : RepX K w1 w2 v s) : RepX K w w2 v s := by
  cases s with
  | un => exact h
  | val d => exact h
  | own ds => obtain ⟨p, vs, e, h0, r⟩ := h; exact ⟨p, vs, e, st.free h0, r⟩
section
variable {X : Cx} {e : Expr}
theorem PE.wk {t t' : TE} (h : PE X e t) (f : ∀ σ H Q, t' σ H Q → t σ H Q) : PE X e t' := ⟨fun pins s σ H Q I q => h.run pins s σ H Q I (f σ H Q q)⟩
theorem PT.wk {t t' : TT} (h : PT X e t) (f : ∀ σ H Q, t' σ H Q → t σ H Q) : PT X e t' := ⟨fun pins s σ H Q I q => h.run pins s σ H Q I (f σ H Q q)⟩
theorem PW.wk {t t' : TT} (h : PW X e t) (f : ∀ σ H Q, t' σ H Q → t σ H Q) : PW X e t' := ⟨fun wh pins s σ H Q I q => h.run wh pins s σ H Q I (f σ H Q q)⟩
theorem PA.wk {es : List Expr} {t t' : TA} (h : PA X es t) (f : ∀ σ H Q, t' σ H Q → t σ H Q) : PA X es t' := ⟨fun pos pins s σ H Q I q => h.run pos pins s σ H Q I (f σ H Q q)⟩
theorem PSs.wk {sts : List Stmt} {t t' : TS} (h : PSs X sts t) (f : ∀ D σ H, t' D σ H → t D σ H) : PSs X sts t' := ⟨fun pins s σ H D I q => h.run pins s σ H D I (f D σ H q)⟩
theorem PS.wk {st : Stmt} {t t' : TS} (h : PS X st t) (f : ∀ D σ H, t' D σ H → t D σ H) : PS X st t' := ⟨fun pins s σ H D I q => h.run pins s σ H D I (f D σ H q)⟩
def dEF (f : FE) : FD := fun ρ M => (f ρ M).map Slot.d
def dFE (f : FD) : FE := fun ρ M => (f ρ M).map Slot.val
theorem c_EF {f : FE} (h : PE X e (tE K E f)) : PE X e (tF K E (dEF f)) := PE.wk h fun σ H Q ⟨ρ, w, e1, ok, sr, a⟩ => ⟨ρ, w, e1, ok, sr, by
  have a2 := a.map
  cases q : f ρ w.M with
  | bad => rw [q] at a2; exact a2
  | exc c d M => rw [q] at a2; exact a2
  | ok s M =>
    rw [q] at a2
    intro w' st eM v r
    obtain ⟨G', st', r'⟩ := r.freeze st
    exact a2 _ st' eM v r'⟩
theorem c_EB {f : FE} (h : PE X e (tE K E f)) : PE X e (tR K E (dEF f)) := PE.wk h fun σ H Q ⟨ρ, w, e1, ok, sr, a⟩ => ⟨ρ, w, e1, ok, sr, a.map.imp fun s w' _ z v r => z v r.b⟩
theorem c_FE {f : FD} (h : PE X e (tF K E f)) : PE X e (tE K E (dFE f)) := PE.wk h fun σ H Q ⟨ρ, w, e1, ok, sr, a⟩ => ⟨ρ, w, e1, ok, sr, a.map⟩
theorem c_FB {f : FD} (h : PE X e (tF K E f)) : PE X e (tR K E f) := PE.wk h fun σ H Q ⟨ρ, w, e1, ok, sr, a⟩ => ⟨ρ, w, e1, ok, sr, a.imp fun s w' _ z v r => z v (.inl r)⟩
def dVar (i : Nat) : FD := fun ρ M => match ρ[i]? with
  | some (.val d) => .ok d M
  | _ => .bad
def dVarB (i : Nat) : FD := fun ρ M => match ρ[i]? with
  | some (.val d) => .ok d M
  | some (.own ds) => .ok (.lst ds) M
  | _ => .bad
def dC (d : D) : FD := fun _ M => .ok d M
theorem x_var {i : Nat} (h : PE X e (tVar i)) : PE X e (tF K E (dVar i)) := PE.wk h fun σ H Q ⟨ρ, w, e1, ok, sr, a⟩ => by
  subst e1
  unfold dVar at a
  split at a
  · rename_i d e2
    obtain ⟨v, h1, h2⟩ := sr.val i d e2
    exact ⟨v, h1, a w (Step.refl ok) rfl v h2⟩
  · exact a.elim
theorem x_varB {i : Nat} (h : PE X e (tVar i)) : PE X e (tR K E (dVarB i)) := PE.wk h fun σ H Q ⟨ρ, w, e1, ok, sr, a⟩ => by
  subst e1
  unfold dVarB at a
  split at a
  · rename_i d e2
    obtain ⟨v, h1, h2⟩ := sr.val i d e2
    exact ⟨v, h1, a w (Step.refl ok) rfl v (.inl h2)⟩
  · rename_i ds e2
    obtain ⟨p, vs, h1, h2, h3, h4, h5⟩ := sr.own i ds e2
    exact ⟨_, h1, a w (Step.refl ok) rfl _ (.inr ⟨p, vs, ds, rfl, rfl, h2, h3, h4, h5⟩)⟩
  · exact a.elim
theorem x_c {v : V} {d : D} (h : PE X e (tC v)) (r : ∀ A G, Rep K A G v d) : PE X e (tF K E (dC d)) := PE.wk h fun σ H Q ⟨ρ, w, e1, ok, sr, a⟩ => by
  subst e1
  exact a w (Step.refl ok) rfl v (r _ _)
end
end
end TP
namespace TP
open PySem L2
def lstOf (M : Store) : D → Option (List D)
  | .lst ds => some ds
  | .ref k => match M[k]? with
    | some (.lst ds) => some ds
    | _ => none
  | _ => none
def seqOf (M : Store) : D → Option (List D)
  | .fro ds => some ds
  | x => lstOf M x
section
variable {K : PySem.W.Frag} {E : Wish}
theorem lstOf_ref {M : Store} {k : Nat} {ds : List D} (h : lstOf M (.ref k) = some ds) : M[k]? = some (.lst ds) := by
  unfold lstOf at h
  simp only at h
  split at h
  · rename_i es e2
    cases h
    exact e2
  · cases h
theorem lst_at {w : Wd} (ok : w.Ok K) {v : V} {x : D} {ds : List D} (r : RepB K w v x) (h : lstOf w.M x = some ds) : ∃ p vs, v = .ref p ∧ w.H p = some (.lst vs) ∧ RepL K w.A w.G vs ds := by
  rcases r with r | ⟨p, vs, es, rfl, rfl, h1, _, _, h4⟩
  · cases r with
    | lst e rl => cases h; exact ⟨_, _, rfl, ok.sub _ _ e, rl⟩
    | @ref a k e =>
      obtain ⟨a', e3, vs, h1, h2⟩ := ok.mos k _ (lstOf_ref h)
      rw [e] at e3
      cases e3
      exact ⟨_, vs, rfl, h1, h2⟩
    | _ => cases h
  · cases h; exact ⟨p, vs, rfl, h1, h4⟩
theorem seq_at {w : Wd} (ok : w.Ok K) {v : V} {x : D} {ds : List D} (r : RepB K w v x) (h : seqOf w.M x = some ds) : ∃ p vs, v = .ref p ∧ SqL K w.H p vs ∧ RepL K w.A w.G vs ds := by
  by_cases hf : ∃ es, x = .fro es
  · obtain ⟨es, rfl⟩ := hf
    rcases r with r | ⟨p, vs, es', rfl, e, _⟩
    · cases r with
      | fro hs rl => cases h; exact ⟨_, _, rfl, ok.sub.seq hs, rl⟩
    · cases e
  · have h' : lstOf w.M x = some ds := by
      cases x <;> first | exact h | exact absurd ⟨_, rfl⟩ hf
    obtain ⟨p, vs, e, h1, h2⟩ := lst_at ok r h'
    exact ⟨p, vs, e, .inl (.inl h1), h2⟩
theorem tup_at {w : Wd} (ok : w.Ok K) {v : V} {ds : List D} (r : RepB K w v (.tup ds)) : ∃ p vs, v = .ref p ∧ SqT K w.H p vs ∧ RepL K w.A w.G vs ds := by
  rcases r with r | ⟨p, vs, es', rfl, e, _⟩
  · cases r with
    | tup hs rl => exact ⟨_, _, rfl, .inl ((hs.mono ok.sub).rd), rl⟩
  · cases e
theorem tupH_at {w : Wd} (ok : w.Ok K) {v : V} {ds : List D} (hk : klD ds = true) (r : RepB K w v (.tup ds)) : ∃ p vs, v = .ref p ∧ w.H p = some (.tup vs) ∧ RepL K w.A w.G vs ds := by
  rcases r with r | ⟨p, vs, es', rfl, e, _⟩
  · cases r with
    | tup hs rl => exact ⟨_, _, rfl, ok.sub _ _ (hs.key hk), rl⟩
  · cases e
theorem kt_at {w : Wd} (ok : w.Ok K) {v : V} {ds : List D} (r : RepB K w v (.kt ds)) : ∃ p vs, v = .ref p ∧ SqT K w.H p vs ∧ RepL K w.A w.G vs ds := by
  rcases r with r | ⟨p, vs, es', rfl, e, _⟩
  · cases r with
    | kt hs rl => exact ⟨_, _, rfl, sqT_mono ok.sub hs, rl⟩
  · cases e
theorem int_at {w : Wd} {v : V} {i : Int} (r : RepB K w v (.int i)) : v = .int i := by
  rcases r with r | ⟨p, vs, es', rfl, e, _⟩
  · cases r; rfl
  · cases e
theorem bl_at {w : Wd} {v : V} {i : Bool} (r : RepB K w v (.bl i)) : v = .bl i := by
  rcases r with r | ⟨p, vs, es', rfl, e, _⟩
  · cases r; rfl
  · cases e
theorem str_at {w : Wd} {v : V} {i : Str} (r : RepB K w v (.str i)) : v = .str i := by
  rcases r with r | ⟨p, vs, es', rfl, e, _⟩
  · cases r; rfl
  · cases e
theorem non_at {w : Wd} {v : V} (r : RepB K w v .non) : v = .non := by
  rcases r with r | ⟨p, vs, es', rfl, e, _⟩
  · cases r; rfl
  · cases e
def Prim1 (K : PySem.W.Frag) (r : V → Hp → VK → Prop) (g : Store → D → Option Slot) : Prop := ∀ (w : Wd) (vx : V) (x : D) (s : Slot) (Q : VK), w.Ok K → RepB K w vx x → g w.M x = some s →
  (∀ v w', Step K w w' → w'.M = w.M → RepX K w w' v s → Q v w'.H) → r vx w.H Q
def Prim2 (K : PySem.W.Frag) (r : R2) (g : Store → D → D → Option Slot) : Prop := ∀ (w : Wd) (vx vy : V) (x y : D) (s : Slot) (Q : VK), w.Ok K → RepB K w vx x → RepB K w vy y → g w.M x y = some s →
  (∀ v w', Step K w w' → w'.M = w.M → RepX K w w' v s → Q v w'.H) → r vx vy w.H Q
def PrimN (K : PySem.W.Frag) (r : List V → Hp → VK → Prop) (g : Store → List D → Option Slot) : Prop := ∀ (w : Wd) (vs : List V) (ds : List D) (s : Slot) (Q : VK), w.Ok K → RepBL K w vs ds → g w.M ds = some s →
  (∀ v w', Step K w w' → w'.M = w.M → RepX K w w' v s → Q v w'.H) → r vs w.H Q
def PrimM (K : PySem.W.Frag) (r : V → List V → Hp → VK → Prop) (g : Store → D → List D → Option Slot) : Prop := ∀ (w : Wd) (vx : V) (x : D) (vs : List V) (ds : List D) (s : Slot) (Q : VK), w.Ok K → RepB K w vx x → RepBL K w vs ds → g w.M x ds = some s →
  (∀ v w', Step K w w' → w'.M = w.M → RepX K w w' v s → Q v w'.H) → r vx vs w.H Q
def dOp1 (g : Store → D → Option Slot) (fa : FD) : FE := fun ρ M => (fa ρ M).bind fun x M => R.of (g M x) M
def dOp2 (g : Store → D → D → Option Slot) (fa fb : FD) : FE := fun ρ M => (fa ρ M).bind fun x M => (fb ρ M).bind fun y M => R.of (g M x y) M
def dPr (g : Store → List D → Option Slot) (fs : FL) : FE := fun ρ M => (fs ρ M).bind fun ds M => R.of (g M ds) M
section
variable {X : Cx} {e : Expr}
theorem fin_of {w w2 : Wd} {o : Option Slot} {Q : VK} (s : Step K w w2) (a : After K E w2 (R.of o w2.M) fun s w' => ∀ v, RepX K w w' v s → Q v w'.H) :
    ∃ s, o = some s ∧ ∀ v w', Step K w2 w' → w'.M = w2.M → RepX K w2 w' v s → Q v w'.H := by
  cases o with
  | none => exact a.elim
  | some x => exact ⟨x, rfl, fun v w' s3 e3 rv => a w' s3 e3 v (rv.back s)⟩
theorem x_op2 {r : R2} {g : Store → D → D → Option Slot} {fa fb : FD} (h : PE X e (tOp r (tR K E fa) (tR K E fb))) (p : Prim2 K r g) : PE X e (tE K E (dOp2 g fa fb)) := PE.wk h fun σ H Q ⟨ρ, w, e1, ok, sr, a⟩ =>
  ⟨ρ, w, e1, ok, sr, a.bind.imp fun x w1 s1 a1 vx rx => ⟨ρ, w1, rfl, s1.ok, sr.step s1, a1.bind.imp fun y w2 s2 a2 vy ry => by
    obtain ⟨s, es, k⟩ := fin_of (s1.trans s2) a2
    exact p w2 vx vy x y s Q s2.ok (rx.step s2) ry es k⟩⟩
theorem x_op1 {r : V → Hp → VK → Prop} {g : Store → D → Option Slot} {fa : FD} (h : PE X e (tUn r (tR K E fa))) (p : Prim1 K r g) : PE X e (tE K E (dOp1 g fa)) := PE.wk h fun σ H Q ⟨ρ, w, e1, ok, sr, a⟩ =>
  ⟨ρ, w, e1, ok, sr, a.bind.imp fun x w1 s1 a1 vx rx => by
    obtain ⟨s, es, k⟩ := fin_of s1 a1
    exact p w1 vx x s Q s1.ok rx es k⟩
theorem x_prim {r : List V → Hp → VK → Prop} {g : Store → List D → Option Slot} {fs : FL} (h : PE X e (tCB r (tAR K E fs))) (p : PrimN K r g) : PE X e (tE K E (dPr g fs)) := PE.wk h fun σ H Q ⟨ρ, w, e1, ok, sr, a⟩ =>
  ⟨ρ, w, e1, ok, sr, a.bind.imp fun x w1 s1 a1 vx rx => by
    obtain ⟨s, es, k⟩ := fin_of s1 a1
    exact p w1 vx x s Q s1.ok rx es k⟩
def dNil : FL := fun _ M => .ok [] M
def dCons (f : FD) (fs : FL) : FL := fun ρ M => (f ρ M).bind fun d M => (fs ρ M).bind fun ds M => .ok (d :: ds) M
variable {es : List Expr}
theorem xa_nil (h : PA X [] tNil) : PA X [] (tAF K E dNil) := PA.wk h fun σ H Q ⟨ρ, w, e1, ok, sr, a⟩ => by
  subst e1
  exact a w (Step.refl ok) rfl [] .nil
theorem xr_nil (h : PA X [] tNil) : PA X [] (tAR K E dNil) := PA.wk h fun σ H Q ⟨ρ, w, e1, ok, sr, a⟩ => by
  subst e1
  exact a w (Step.refl ok) rfl [] .nil
theorem xa_cons {f : FD} {fs : FL} (h : PA X es (tCons (tF K E f) (tAF K E fs))) : PA X es (tAF K E (dCons f fs)) := PA.wk h fun σ H Q ⟨ρ, w, e1, ok, sr, a⟩ =>
  ⟨ρ, w, e1, ok, sr, a.bind.imp fun d w1 s1 a1 v rv => ⟨ρ, w1, rfl, s1.ok, sr.step s1, a1.bind.imp fun ds w2 s2 a2 vs rvs => a2 w2 (Step.refl s2.ok) rfl _ (.cons (s2.rep rv) rvs)⟩⟩
theorem xr_cons {f : FD} {fs : FL} (h : PA X es (tCons (tR K E f) (tAR K E fs))) : PA X es (tAR K E (dCons f fs)) := PA.wk h fun σ H Q ⟨ρ, w, e1, ok, sr, a⟩ =>
  ⟨ρ, w, e1, ok, sr, a.bind.imp fun d w1 s1 a1 v rv => ⟨ρ, w1, rfl, s1.ok, sr.step s1, a1.bind.imp fun ds w2 s2 a2 vs rvs => a2 w2 (Step.refl s2.ok) rfl _ (.cons (rv.step s2) rvs)⟩⟩
def dTup (fs : FL) : FD := fun ρ M => (fs ρ M).bind fun ds M => if ds.length ≤ sizeLine then .ok (.tup ds) M else .bad
def dLst (fs : FL) : FE := fun ρ M => (fs ρ M).bind fun ds M => if ds.length ≤ sizeLine then .ok (.own ds) M else .bad
def NewT (H : Hp) (xs : List V) (Q : VK) : Prop := ∀ p (o : Obj), H p = none → o.dict = none → o.cls = .type "tuple" → Q (.ref p) (upd H p (.frz o (.tup xs))) ∨ Q (.ref p) (upd H p (.tup xs))
theorem NewT.ep {pins : List (Addr × Obj)} {σ : L2.St} {H : Hp} {s : Shared} {xs : List V} {us : List Value} {Q : VK} {t' : Nat} {h' : Heap} {p : Addr} (I : Inv X pins σ H s) (r : Vals xs us) (z : xs.length ≤ sizeLine) (q : NewT H xs Q)
    (k : ∀ b u, s.heap.get? b = some u → h'.get? b = some u) (hp : s.heap.objs.size ≤ p) {n : Nat} (hn : h'.get? p = some { cls := .type "tuple", data := .seq us.toArray n }) :
    ∃ x H', Inv X pins σ H' { s with heap := h', toks := t' } ∧ RelV x (.ref p) ∧ Q x H' := by
  rcases q p { cls := .type "tuple", data := .seq us.toArray n } (I.hok.fresh hp) rfl rfl with q | q
  · exact ⟨.ref p, _, I.laid (t' := t') (o := .frz { cls := .type "tuple", data := .seq us.toArray n } (.tup xs)) k hp ⟨hn, z, us, r, ⟨_, hn, rfl, _, rfl⟩⟩, rfl, q⟩
  · exact ⟨.ref p, _, I.laid (t' := t') (o := .tup xs) k hp ⟨z, us, r, ⟨_, hn, rfl, _, rfl⟩⟩, rfl, q⟩
theorem NewT.imp {H : Hp} {xs : List V} {Q Q' : VK} (q : NewT H xs Q) (f : ∀ v H', Q v H' → Q' v H') : NewT H xs Q' := fun p o h1 h2 h3 => (q p o h1 h2 h3).imp (f _ _) (f _ _)
def tTupX (t : TA) : TE := fun σ H Q => t σ H fun xs H1 => xs.length ≤ sizeLine ∧ NewT H1 xs Q
theorem pe_tupX {t : TA} {pos : Pos} {x1} (h : PA X es t) : PE X (.Tuple es x1 pos) (tTupX t) := by
  refine ⟨fun pins s σ H Q I hq => ?_⟩
  refine wpAny_Tuple_spliced (thn (h.run pos pins s σ H _ I hq) fun us s1 ⟨xs, H1, I1, r, z, q⟩ => ⟨by rw [← r.length]; exact z, ?_⟩)
  exact q.ep (t' := s1.toks) I1 r z (fun b u e => Heap.get?_push_of_some _ e) (Nat.le_refl _) (Heap.get?_push_size _ rfl)
theorem newT {w : Wd} (h : w.Ok K) {vs : List V} {ds : List D} (r : RepL K w.A w.G vs ds) {Q : VK}
    (a : ∀ w', Step K w w' → w'.M = w.M → ∀ v, Rep K w'.A w'.G v (.tup ds) → Q v w'.H) : NewT w.H vs Q := fun p o hp ho hc => by
  cases hk : klD ds with
  | false =>
    have st := h.fresh hp (.frz o (.tup vs))
    exact .inl (a _ st rfl _ (.tup (.inr ⟨hk, o, ho, hc, upd_same⟩) (st.repL r)))
  | true =>
    have st := h.fresh hp (.tup vs)
    exact .inr (a _ st rfl _ (.tup (.inl ⟨hk, upd_same⟩) (st.repL r)))
theorem x_tup {fs : FL} (h : PE X e (tTupX (tAF K E fs))) : PE X e (tF K E (dTup fs)) := PE.wk h fun σ H Q ⟨ρ, w, e1, ok, sr, a⟩ =>
  ⟨ρ, w, e1, ok, sr, a.bind.imp fun ds w1 s1 a1 vs rvs => by
    split at a1
    · rename_i hl
      exact ⟨by rw [rvs.length]; exact hl, newT s1.ok rvs fun w' st eM v rv => a1 w' st eM v rv⟩
    · exact a1.elim⟩
theorem Wd.Ok.fresh0 {w : Wd} (h : w.Ok K) {p : Addr} (hp : w.H p = none) (o : HO) : Step K w ⟨w.A, w.G, w.M, upd w.H p o⟩ := by
  have hG : w.G p = none := h.sub.free hp
  refine ⟨⟨fun b u e => ?_, h.nd, h.len, h.out, fun k m e => ?_⟩, List.prefix_refl _, Same.refl _, fun q u h1 h2 h3 => ⟨?_, .inl h2, h3⟩⟩
  · show upd w.H p o b = some u
    rw [upd_ne (ne_of_none e hG)]
    exact h.sub b u e
  · obtain ⟨a, ea, r⟩ := h.mos k m e
    refine ⟨a, ea, ?_⟩
    cases m with
    | lst ds => obtain ⟨vs, z, q⟩ := r; exact ⟨vs, by show upd w.H p o a = _; rw [upd_ne (ne_of_none z hp)]; exact z, q⟩
    | dK ds => obtain ⟨vs, z, q⟩ := r; exact ⟨vs, by show upd w.H p o a = _; rw [upd_ne (ne_of_none z hp)]; exact z, q⟩
    | dT ds => obtain ⟨vs, z, q⟩ := r; exact ⟨vs, by show upd w.H p o a = _; rw [upd_ne (ne_of_none z hp)]; exact z, q⟩
    | ins c fs => obtain ⟨io, vs, dx, z, q⟩ := r; exact ⟨io, vs, dx, by show upd w.H p o a = _; rw [upd_ne (ne_of_none z hp)]; exact z, q⟩
    | exc c d => exact exc_mono r (fun _ z => by show upd w.H p o a = _; rw [upd_ne (ne_of_none z hp)]; exact z) (List.prefix_refl _) (Same.refl _)
    | dN wd d => exact dn_mono r (fun _ z => by show upd w.H p o a = _; rw [upd_ne (ne_of_none z hp)]; exact z) (List.prefix_refl _) (Same.refl _)
    | fK d => exact fk_mono r (List.prefix_refl _) (Same.refl _)
    | fT d => exact ft_mono r (List.prefix_refl _) (Same.refl _)
  · show upd w.H p o q = some u
    rw [upd_ne (ne_of_none h1 hp)]; exact h1
theorem Wd.Ok.notA {w : Wd} (h : w.Ok K) {p : Addr} (hp : w.H p = none) : p ∉ w.A := fun hm => by
  obtain ⟨o, z⟩ := h.some_at hm
  rw [hp] at z; cases z
theorem own_new {w w1 : Wd} (s1 : Step K w w1) {p : Addr} (hp : w1.H p = none) {vs : List V} {ds : List D} (r : RepL K w1.A w1.G vs ds) :
    RepX K w ⟨w1.A, w1.G, w1.M, upd w1.H p (.lst vs)⟩ (.ref p) (.own ds) :=
  ⟨p, vs, rfl, s1.free hp, upd_same, s1.ok.sub.free hp, s1.ok.notA hp, r⟩
theorem x_lst {fs : FL} (h : PE X e (tLst (tAF K E fs))) : PE X e (tE K E (dLst fs)) := PE.wk h fun σ H Q ⟨ρ, w, e1, ok, sr, a⟩ =>
  ⟨ρ, w, e1, ok, sr, a.bind.imp fun ds w1 s1 a1 vs rvs => by
    split at a1
    · rename_i hl
      refine ⟨by rw [rvs.length]; exact hl, fun p hp => ?_⟩
      exact a1 _ (s1.ok.fresh0 hp (.lst vs)) rfl _ (own_new s1 hp rvs)
    · exact a1.elim⟩
def truD (M : Store) : D → Option Bool
  | .non => some false
  | .bl b => some b
  | .int i => some (i != 0)
  | .str y => if y.length ≤ sizeLine then some ((y.length : Int) != 0) else none
  | .tup ds => some (!ds.isEmpty)
  | .ref k => match M[k]? with
    | some (.lst ds) => some (!ds.isEmpty)
    | some (.dK ds) => some (!ds.isEmpty)
    | _ => none
  | .lst ds => some (!ds.isEmpty)
  | .fro ds => some (!ds.isEmpty)
  | .kt ds => some (!ds.isEmpty)
  | .fn _ => none
theorem RepL.emp {A : List Addr} {G : Hp} {vs : List V} {ds : List D} (h : RepL K A G vs ds) : ds.isEmpty = vs.isEmpty := by cases h <;> rfl
theorem RepKV.emp {κ : Type} {R : V → D → Prop} {vs : List (κ × V)} {ds : List (κ × D)} (h : RepKV R vs ds) : ds.isEmpty = vs.isEmpty := by cases h <;> rfl
theorem tru_at {w : Wd} (ok : w.Ok K) {v : V} {x : D} {b : Bool} (r : RepB K w v x) (h : truD w.M x = some b) : TruV K v w.H b := by
  cases x with
  | non => cases non_at r; exact (Option.some.inj h).symm
  | bl c => cases bl_at r; exact (Option.some.inj h).symm
  | int i => cases int_at r; exact (Option.some.inj h).symm
  | str y =>
    cases str_at r
    simp only [truD] at h
    split at h
    · rename_i hl; exact ⟨hl, (Option.some.inj h).symm⟩
    · cases h
  | tup ds =>
    obtain ⟨p, vs, rfl, hs, rl⟩ := tup_at ok r
    exact .inr (.inl ⟨vs, hs, by rw [← rl.emp]; exact (Option.some.inj h).symm⟩)
  | lst ds =>
    obtain ⟨p, vs, rfl, hs, rl⟩ := lst_at (ds := ds) ok r rfl
    exact .inl ⟨vs, .inl (.inl hs), by rw [← rl.emp]; exact (Option.some.inj h).symm⟩
  | fro ds =>
    obtain ⟨p, vs, rfl, hs, rl⟩ := seq_at (ds := ds) ok r rfl
    exact .inl ⟨vs, hs, by rw [← rl.emp]; exact (Option.some.inj h).symm⟩
  | kt ds =>
    obtain ⟨p, vs, rfl, hs, rl⟩ := kt_at ok r
    exact .inr (.inl ⟨vs, hs, by rw [← rl.emp]; exact (Option.some.inj h).symm⟩)
  | fn c => cases h
  | ref k =>
    simp only [truD] at h
    rcases r with r | ⟨p, vs, es', rfl, e, _⟩
    · cases r with
      | @ref a k ek =>
        split at h
        · rename_i ds e2
          obtain ⟨a', e3, vs, h1, h2⟩ := ok.mos k _ e2
          rw [ek] at e3; cases e3
          exact .inl ⟨vs, .inl (.inl h1), by rw [← h2.emp]; exact (Option.some.inj h).symm⟩
        · rename_i ds e2
          obtain ⟨a', e3, vs, h1, h2⟩ := ok.mos k _ e2
          rw [ek] at e3; cases e3
          exact .inr (.inr ⟨vs, h1, by rw [← h2.emp]; exact (Option.some.inj h).symm⟩)
        · cases h
    · cases e
def dTru (f : FD) : FB := fun ρ M => (f ρ M).bind fun x M => R.of (truD M x) M
theorem x_truth {f : FD} (h : PT X e (fun σ H Q => tR K E f σ H fun x H' => ∃ k, TruV K x H' k ∧ Q k H')) : PT X e (tT K E (dTru f)) := PT.wk h fun σ H Q ⟨ρ, w, e1, ok, sr, a⟩ =>
  ⟨ρ, w, e1, ok, sr, a.bind.imp fun x w1 s1 a1 v rv => by
    obtain ⟨b, eb, k⟩ := a1.of (Step.refl s1.ok) rfl
    exact ⟨b, tru_at s1.ok rv eb, k⟩⟩
def boD : D → Option Bool
  | .bl b => some b
  | _ => none
def dBo (f : FE) : FB := fun ρ M => (f ρ M).bind fun x M => R.of (boD x.d) M
theorem x_test {t : TE} {f : FE} (h : PT X e (tTest t)) (ht : ∀ σ H Q, tE K E f σ H Q → t σ H Q) : PT X e (tT K E (dBo f)) := PT.wk h fun σ H Q ⟨ρ, w, e1, ok, sr, a⟩ =>
  ht _ _ _ ⟨ρ, w, e1, ok, sr, a.bind.imp fun x w1 s1 a1 v rv => by
    obtain ⟨b, eb, k⟩ := a1.of (Step.refl s1.ok) rfl
    cases x with
    | un => cases eb
    | own ds => cases eb
    | val d =>
      cases d with
      | bl c => cases eb; cases rv; exact ⟨_, rfl, k⟩
      | _ => cases eb⟩
def dNot (f : FB) : FB := fun ρ M => (f ρ M).map fun b => !b
theorem x_not {f : FB} (h : PT X e (tNot (tT K E f))) : PT X e (tT K E (dNot f)) := PT.wk h fun σ H Q ⟨ρ, w, e1, ok, sr, a⟩ => ⟨ρ, w, e1, ok, sr, a.map⟩
def dAnd (f g : FB) : FB := fun ρ M => (f ρ M).bind fun b M => if b then g ρ M else .ok false M
def dOr (f g : FB) : FB := fun ρ M => (f ρ M).bind fun b M => if b then .ok true M else g ρ M
theorem x_and {f g : FB} (h : PW X e (tAnd (tT K E f) (tT K E g))) : PW X e (tT K E (dAnd f g)) := PW.wk h fun σ H Q ⟨ρ, w, e1, ok, sr, a⟩ =>
  ⟨ρ, w, e1, ok, sr, a.bind.imp fun b w1 s1 a1 => by
    cases b with
    | true => exact iteT ⟨ρ, w1, rfl, s1.ok, sr.step s1, a1⟩
    | false => exact iteF (a1 w1 (Step.refl s1.ok) rfl)⟩
theorem x_or {f g : FB} (h : PW X e (tOr (tT K E f) (tT K E g))) : PW X e (tT K E (dOr f g)) := PW.wk h fun σ H Q ⟨ρ, w, e1, ok, sr, a⟩ =>
  ⟨ρ, w, e1, ok, sr, a.bind.imp fun b w1 s1 a1 => by
    cases b with
    | true => exact iteT (a1 w1 (Step.refl s1.ok) rfl)
    | false => exact iteF ⟨ρ, w1, rfl, s1.ok, sr.step s1, a1⟩⟩
def dIf (c : FB) (f g : FE) : FE := fun ρ M => (c ρ M).bind fun b M => if b then f ρ M else g ρ M
theorem tE_back {f : FE} {w w1 : Wd} {ρ : EnvD} {σ : St} {Q : VK} (s1 : Step K w w1) (sr : SR K w ρ σ) (a : After K E w1 (f ρ w1.M) fun s w' => ∀ v, RepX K w w' v s → Q v w'.H) : tE K E f σ w1.H Q :=
  ⟨ρ, w1, rfl, s1.ok, sr.step s1, a.imp fun s w' _ z v rv => z v (rv.back s1)⟩
theorem x_if {c : FB} {f g : FE} (h : PE X e (tIf (tT K E c) (tE K E f) (tE K E g))) : PE X e (tE K E (dIf c f g)) := PE.wk h fun σ H Q ⟨ρ, w, e1, ok, sr, a⟩ =>
  ⟨ρ, w, e1, ok, sr, a.bind.imp fun b w1 s1 a1 => by
    cases b with
    | true => exact iteT (tE_back s1 sr a1)
    | false => exact iteF (tE_back s1 sr a1)⟩
def dAndV (f g : FE) : FE := fun ρ M => (f ρ M).bind fun x M => match x with
  | .val (.bl true) => g ρ M
  | .val (.bl false) => .ok (.val (.bl false)) M
  | _ => .bad
def dNotV (f : FE) : FE := fun ρ M => (f ρ M).bind fun x M => match x with
  | .val (.bl b) => .ok (.val (.bl (!b))) M
  | _ => .bad
theorem x_andV {f g : FE} (h : PE X e (tAndV (tE K E f) (tE K E g))) : PE X e (tE K E (dAndV f g)) := PE.wk h fun σ H Q ⟨ρ, w, e1, ok, sr, a⟩ =>
  ⟨ρ, w, e1, ok, sr, a.bind.imp fun x w1 s1 a1 v rv => by
    split at a1
    · cases rv; exact ⟨true, rfl, iteT (tE_back s1 sr a1)⟩
    · cases rv; exact ⟨false, rfl, iteF (a1 w1 (Step.refl s1.ok) rfl _ (.bl _))⟩
    · exact a1.elim⟩
theorem x_notV {f : FE} (h : PE X e (tNotV (tE K E f))) : PE X e (tE K E (dNotV f)) := PE.wk h fun σ H Q ⟨ρ, w, e1, ok, sr, a⟩ =>
  ⟨ρ, w, e1, ok, sr, a.bind.imp fun x w1 s1 a1 v rv => by
    split at a1
    · cases rv; exact ⟨_, rfl, a1 w1 (Step.refl s1.ok) rfl _ (.bl _)⟩
    · exact a1.elim⟩
end
end
end TP
namespace TP
open PySem L2
section
variable {K : PySem.W.Frag} {E : Wish} {X : Cx} {e : Expr} {md : Bool}
abbrev FO := EnvD → Store → R (Option Int)
def tO (K : PySem.W.Frag) (E : Wish) (f : FO) : TO := fun σ H Q => ∃ ρ w, w.H = H ∧ w.Ok K ∧ SR K w ρ σ ∧ After K E w (f ρ w.M) fun o w' => Q o w'.H
def dNo : FO := fun _ M => .ok none M
def dSo (f : FD) : FO := fun ρ M => (f ρ M).bind fun x M => match x with
  | .int i => .ok (some i) M
  | _ => .bad
theorem PO.wk {o : Option Expr} {t t' : TO} (h : PO X o t) (f : ∀ σ H Q, t' σ H Q → t σ H Q) : PO X o t' := ⟨fun pins s σ H Q I q => h.run pins s σ H Q I (f σ H Q q)⟩
theorem x_no : PO X none (tO K E dNo) := PO.wk po_none fun σ H Q ⟨ρ, w, e1, ok, sr, a⟩ => by
  subst e1
  exact a w (Step.refl ok) rfl
theorem x_so {f : FD} (h : PE X e (tR K E f)) : PO X (some e) (tO K E (dSo f)) := PO.wk (po_some h) fun σ H Q ⟨ρ, w, e1, ok, sr, a⟩ =>
  ⟨ρ, w, e1, ok, sr, a.bind.imp fun x w1 s1 a1 v rv => by
    split at a1
    · exact ⟨_, int_at rv, a1 w1 (Step.refl s1.ok) rfl⟩
    · exact a1.elim⟩
def PrimS (K : PySem.W.Frag) (r : V → Option Int → Option Int → Hp → VK → Prop) (g : Store → D → Option Int → Option Int → Option Slot) : Prop := ∀ (w : Wd) (vx : V) (x : D) (lo hi : Option Int) (s : Slot) (Q : VK), w.Ok K → RepB K w vx x → g w.M x lo hi = some s →
  (∀ v w', Step K w w' → w'.M = w.M → RepX K w w' v s → Q v w'.H) → r vx lo hi w.H Q
def dSl (g : Store → D → Option Int → Option Int → Option Slot) (f : FD) (lo hi : FO) : FE := fun ρ M => (f ρ M).bind fun x M => (lo ρ M).bind fun l M => (hi ρ M).bind fun u M => R.of (g M x l u) M
theorem x_sl {r : V → Option Int → Option Int → Hp → VK → Prop} {g : Store → D → Option Int → Option Int → Option Slot} {f : FD} {lo hi : FO} (h : PE X e (tSl r (tR K E f) (tO K E lo) (tO K E hi))) (p : PrimS K r g) : PE X e (tE K E (dSl g f lo hi)) := PE.wk h fun σ H Q ⟨ρ, w, e1, ok, sr, a⟩ =>
  ⟨ρ, w, e1, ok, sr, a.bind.imp fun x w1 s1 a1 vx rx => ⟨ρ, w1, rfl, s1.ok, sr.step s1, a1.bind.imp fun l w2 s2 a2 => ⟨ρ, w2, rfl, s2.ok, (sr.step s1).step s2, a2.bind.imp fun u w3 s3 a3 => by
    obtain ⟨s, es, k⟩ := fin_of ((s1.trans s2).trans s3) a3
    exact p w3 vx x l u s Q s3.ok ((rx.step s2).step s3) es k⟩⟩⟩
abbrev Fn := List D → Store → R Slot
def spD (K : PySem.W.Frag) (We : XK → Wish) (n : Nat) (m : Fn) : Sp := fun vs H Q EX => vs.length = n ∧ ∃ ds w, w.H = H ∧ w.Ok K ∧ RepL K w.A w.G vs ds ∧ After K (We EX) w (m ds w.M) fun s w' => ∀ v, RepX K w w' v s → Q v w'.H
def dCall (n : Nat) (m : Fn) (fs : FL) : FE := fun ρ M => (fs ρ M).bind fun ds M => if ds.length = n then m ds M else .bad
theorem x_call {We : XK → Wish} {n : Nat} {m : Fn} {EX : XK} {fs : FL} (hE : We EX = E) (h : PE X e (tCall (spD K We n m) [] EX (tAF K E fs))) : PE X e (tE K E (dCall n m fs)) := PE.wk h fun σ H Q ⟨ρ, w, e1, ok, sr, a⟩ =>
  ⟨ρ, w, e1, ok, sr, a.bind.imp fun ds w1 s1 a1 vs rvs => by
    split at a1
    · rename_i hn
      refine ⟨by rw [List.append_nil, rvs.length]; exact hn, ds, w1, rfl, s1.ok, by rw [List.append_nil]; exact rvs, ?_⟩
      rw [hE]
      exact a1.imp fun s w' _ z v rv => z v (rv.back s1)
    · exact a1.elim⟩
def Le (w w' : Wd) : Prop := w.A <+: w'.A ∧ Same w.G w'.G
theorem Le.refl (w : Wd) : Le w w := ⟨List.prefix_refl _, Same.refl _⟩
theorem Le.trans {w w1 w2 : Wd} (a : Le w w1) (b : Le w1 w2) : Le w w2 := ⟨a.1.trans b.1, a.2.trans b.2⟩
theorem Step.le {w w' : Wd} (s : Step K w w') : Le w w' := ⟨s.pre, s.fro⟩
theorem Le.rep {w w' : Wd} (s : Le w w') {v : V} {d : D} (h : Rep K w.A w.G v d) : Rep K w'.A w'.G v d := Rep.mono s.1 s.2 d v h
theorem Le.repL {w w' : Wd} (s : Le w w') {v : List V} {d : List D} (h : RepL K w.A w.G v d) : RepL K w'.A w'.G v d := RepL.mono s.1 s.2 d v h
def RepM (md : Bool) (K : PySem.W.Frag) (A : List Addr) (G : Hp) (v : V) (d : D) : Prop := Rep K A G v d ∨ (md = true ∧ ∃ ds a vs, d = .tup ds ∧ v = .ref a ∧ SqT K G a vs ∧ RepL K A G vs ds)
def IterOk (md : Bool) (K : PySem.W.Frag) (w : Wd) (J : It) (ds : List D) : Prop := ∀ w2, Le w w2 → w2.Ok K → ∀ i, (∀ d, ds[i]? = some d → J.go i w2.H ∧ ∀ x H', J.yld i w2.H x H' → ∃ w3, Step K w2 w3 ∧ w3.M = w2.M ∧ w3.H = H' ∧ RepM md K w3.A w3.G x d) ∧ (ds.length ≤ i → J.stop i w2.H)
def tI (md : Bool) (K : PySem.W.Frag) (E : Wish) (f : FL) : TI := fun σ H Q => ∃ ρ w, w.H = H ∧ w.Ok K ∧ SR K w ρ σ ∧ After K E w (f ρ w.M) fun ds w' => ∀ J, IterOk md K w' J ds → Q J w'.H
theorem PI.wk {tg : Expr} {t t' : TI} (h : PI X tg e t) (f : ∀ σ H Q, t' σ H Q → t σ H Q) : PI X tg e t' := ⟨fun pins s σ H Q I q => h.run pins s σ H Q I (f σ H Q q)⟩
theorem PI.or {tg : Expr} {t t' : TI} (h : PI X tg e t) (h' : PI X tg e t') : PI X tg e (fun σ H Q => t σ H Q ∨ t' σ H Q) := ⟨fun pins s σ H Q I q => q.elim (h.run pins s σ H Q I) (h'.run pins s σ H Q I)⟩
def itemsD : D → Option (List D)
  | .lst ds => some ds
  | .fro ds => some ds
  | .tup ds => some ds
  | .kt ds => some ds
  | .str x => some (x.cps.toList.map fun c => .str ⟨#[c]⟩)
  | _ => none
def dIt (f : FD) : FL := fun ρ M => (f ρ M).bind fun x M => R.of (itemsD x) M
theorem it_list {w : Wd} {a : Addr} {vs : List V} {ds : List D} (hs : SqL K w.G a vs) (rl : RepL K w.A w.G vs ds) : IterOk md K w (Itl K a) ds := fun w2 le ok2 i => by
  have h2 : SqL K w2.H a vs := ok2.sub.seq (le.2.seq hs)
  have r2 := le.repL rl
  refine ⟨fun d ed => ?_, fun hl => ⟨vs, h2, by rw [rl.length]; exact hl⟩⟩
  obtain ⟨v, ev, rv⟩ := r2.get ed
  refine ⟨⟨vs, v, h2, ev⟩, fun x H' y => ?_⟩
  obtain ⟨eH, y⟩ := y
  have := y vs h2
  rw [ev] at this
  cases this
  exact ⟨w2, Step.refl ok2, rfl, eH.symm, .inl (rv)⟩
theorem it_tup {w : Wd} {a : Addr} {vs : List V} {ds : List D} (hs : SqT K w.G a vs) (rl : RepL K w.A w.G vs ds) : IterOk md K w (Itt K a) ds := fun w2 le ok2 i => by
  have h2 : SqT K w2.H a vs := sqT_mono ok2.sub (sqT_mono le.2 hs)
  have r2 := le.repL rl
  refine ⟨fun d ed => ?_, fun hl => ⟨vs, h2, by rw [rl.length]; exact hl⟩⟩
  obtain ⟨v, ev, rv⟩ := r2.get ed
  refine ⟨⟨vs, v, h2, ev⟩, fun x H' y => ?_⟩
  obtain ⟨eH, y⟩ := y
  have := y vs h2
  rw [ev] at this
  cases this
  exact ⟨w2, Step.refl ok2, rfl, eH.symm, .inl (rv)⟩
theorem it_str {w : Wd} (x : Str) : IterOk md K w (Its x) (x.cps.toList.map fun c => .str ⟨#[c]⟩) := fun w2 le ok2 i => by
  refine ⟨fun d ed => ?_, fun hl => show x.cps.size ≤ i by simpa using hl⟩
  rw [List.getElem?_map] at ed
  cases q : x.cps.toList[i]? with
  | none => rw [q] at ed; cases ed
  | some c =>
    rw [q] at ed
    cases ed
    have q' : x.cps[i]? = some c := by simpa using q
    refine ⟨?_, fun v H' y => ?_⟩
    · have := (List.getElem?_eq_some_iff.mp q).1
      show i < x.cps.size
      simpa using this
    · obtain ⟨eH, c', ec, ev⟩ := y
      rw [q'] at ec
      cases ec
      subst ev
      exact ⟨w2, Step.refl ok2, rfl, eH.symm, .inl (.str _)⟩
def rngL (lo : Int) (n : Nat) : List D := (List.range n).map fun (i : Nat) => .int (lo + i)
theorem rngL_len (lo : Int) (n : Nat) : (rngL lo n).length = n := by simp [rngL]
theorem it_range {w : Wd} (lo : Int) (n : Nat) : IterOk md K w (Itr lo n) (rngL lo n) := fun w2 le ok2 i => by
  refine ⟨fun d ed => ?_, fun hl => show n ≤ i by rw [rngL_len] at hl; exact hl⟩
  unfold rngL at ed
  rw [List.getElem?_map] at ed
  by_cases hi : i < n
  · rw [List.getElem?_range hi] at ed
    cases ed
    refine ⟨hi, fun v H' y => ?_⟩
    obtain ⟨eH, ev⟩ := y
    subst ev
    exact ⟨w2, Step.refl ok2, rfl, eH.symm, .inl (.int _)⟩
  · rw [List.getElem?_eq_none (by simpa using hi)] at ed
    cases ed
theorem x_it {tg : Expr} {f : FD} (h : PI X tg e (fun σ H Q => iList K (tF K E f) σ H Q ∨ (iTup K (tF K E f) σ H Q ∨ iStr (tF K E f) σ H Q))) : PI X tg e (tI md K E (dIt f)) := PI.wk h fun σ H Q ⟨ρ, w, e1, ok, sr, a⟩ => by
  have a1 := a.bind
  cases q : f ρ w.M with
  | bad => rw [q] at a1; exact a1.elim
  | exc c d M => rw [q] at a1; exact .inl ⟨ρ, w, e1, ok, sr, by rw [q]; exact a1⟩
  | ok x M =>
    rw [q] at a1
    cases x with
    | lst ds =>
      refine .inl ⟨ρ, w, e1, ok, sr, ?_⟩
      rw [q]
      intro w1 s1 eM v rv
      cases rv with
      | lst hs rl => exact ⟨_, rfl, ⟨_, .inl (.inl (s1.ok.sub _ _ hs))⟩, a1 w1 s1 eM w1 (Step.refl s1.ok) rfl _ (it_list (.inl (.inl hs)) rl)⟩
    | fro ds =>
      refine .inl ⟨ρ, w, e1, ok, sr, ?_⟩
      rw [q]
      intro w1 s1 eM v rv
      cases rv with
      | fro hs rl => exact ⟨_, rfl, ⟨_, s1.ok.sub.seq hs⟩, a1 w1 s1 eM w1 (Step.refl s1.ok) rfl _ (it_list hs rl)⟩
    | tup ds =>
      refine .inr (.inl ⟨ρ, w, e1, ok, sr, ?_⟩)
      rw [q]
      intro w1 s1 eM v rv
      cases rv with
      | tup hs rl => exact ⟨_, rfl, ⟨_, .inl ((hs.mono s1.ok.sub).rd)⟩, a1 w1 s1 eM w1 (Step.refl s1.ok) rfl _ (it_tup (.inl hs.rd) rl)⟩
    | kt ds =>
      refine .inr (.inl ⟨ρ, w, e1, ok, sr, ?_⟩)
      rw [q]
      intro w1 s1 eM v rv
      cases rv with
      | kt hs rl => exact ⟨_, rfl, ⟨_, sqT_mono s1.ok.sub hs⟩, a1 w1 s1 eM w1 (Step.refl s1.ok) rfl _ (it_tup hs rl)⟩
    | str y =>
      refine .inr (.inr ⟨ρ, w, e1, ok, sr, ?_⟩)
      rw [q]
      intro w1 s1 eM v rv
      cases rv
      exact ⟨_, rfl, a1 w1 s1 eM w1 (Step.refl s1.ok) rfl _ (it_str y)⟩
    | non => exact (show After K E w (dIt f ρ w.M) _ from a) |> fun z => by rw [show dIt f ρ w.M = .bad by simp only [dIt, q, R.bind, itemsD, R.of]] at z; exact z.elim
    | bl b => exact (show After K E w (dIt f ρ w.M) _ from a) |> fun z => by rw [show dIt f ρ w.M = .bad by simp only [dIt, q, R.bind, itemsD, R.of]] at z; exact z.elim
    | int b => exact (show After K E w (dIt f ρ w.M) _ from a) |> fun z => by rw [show dIt f ρ w.M = .bad by simp only [dIt, q, R.bind, itemsD, R.of]] at z; exact z.elim
    | ref b => exact (show After K E w (dIt f ρ w.M) _ from a) |> fun z => by rw [show dIt f ρ w.M = .bad by simp only [dIt, q, R.bind, itemsD, R.of]] at z; exact z.elim
    | fn b => exact (show After K E w (dIt f ρ w.M) _ from a) |> fun z => by rw [show dIt f ρ w.M = .bad by simp only [dIt, q, R.bind, itemsD, R.of]] at z; exact z.elim
theorem RepBL.one {w : Wd} {vs : List V} {d : D} (h : RepBL K w vs [d]) : ∃ v, vs = [v] ∧ RepB K w v d := by
  cases h with
  | cons h1 h2 => cases h2; exact ⟨_, rfl, h1⟩
theorem RepBL.two {w : Wd} {vs : List V} {d d' : D} (h : RepBL K w vs [d, d']) : ∃ v v', vs = [v, v'] ∧ RepB K w v d ∧ RepB K w v' d' := by
  cases h with
  | cons h1 h2 =>
    cases h2 with
    | cons h2 h3 => cases h3; exact ⟨_, _, rfl, h1, h2⟩
def rng1D : List D → Option (List D)
  | [.int j] => if -(2 ^ 62) ≤ j ∧ j < 2 ^ 62 then some (rngL 0 j.toNat) else none
  | _ => none
def dRng1 (fs : FL) : FL := fun ρ M => (fs ρ M).bind fun ds M => R.of (rng1D ds) M
theorem x_rng1 {tg : Expr} {fs : FL} (h : PI X tg e (iRng1 (tAR K E fs))) : PI X tg e (tI md K E (dRng1 fs)) := PI.wk h fun σ H Q ⟨ρ, w, e1, ok, sr, a⟩ =>
  ⟨ρ, w, e1, ok, sr, a.bind.imp fun ds w1 s1 a1 vs rvs => by
    obtain ⟨items, ei, k⟩ := a1.of (Step.refl s1.ok) rfl
    unfold rng1D at ei
    split at ei
    · rename_i j
      split at ei
      · rename_i hj
        cases ei
        obtain ⟨v, rfl, rv⟩ := rvs.one
        cases int_at rv
        exact ⟨j, rfl, hj.1, hj.2, k _ (it_range 0 j.toNat)⟩
      · cases ei
    · cases ei⟩
def OwnSub (ρ ρ' : EnvD) (σ σ' : St) : Prop := ∀ (j : Nat) (ds : List D), ρ'[j]? = some (.own ds) → ρ[j]? = some (.own ds) ∧ σ'[j]? = σ[j]?
theorem OwnSub.refl (ρ : EnvD) (σ : St) : OwnSub ρ ρ σ σ := fun _ _ h => ⟨h, rfl⟩
theorem OwnSub.trans {ρ ρ1 ρ2 : EnvD} {σ σ1 σ2 : St} (a : OwnSub ρ ρ1 σ σ1) (b : OwnSub ρ1 ρ2 σ1 σ2) : OwnSub ρ ρ2 σ σ2 := fun j ds h => by
  obtain ⟨h1, e1⟩ := b j ds h
  obtain ⟨h2, e2⟩ := a j ds h1
  exact ⟨h2, e1.trans e2⟩
theorem OwnSub.set (ρ : EnvD) (σ : St) (i : Nat) {s : Slot} (hs : ∀ ds, s ≠ .own ds) (v : Option V) : OwnSub ρ (ρ.set i s) σ (σ.set i v) := fun j ds h => by
  by_cases hj : i = j
  · subst hj
    have hi : i < ρ.length := by have := (List.getElem?_eq_some_iff.mp h).1; rwa [List.length_set] at this
    rw [List.getElem?_set_self hi] at h
    exact absurd (Option.some.inj h) (hs ds)
  · rw [List.getElem?_set_ne hj] at h ⊢
    exact ⟨h, rfl⟩
def tG (md : Bool) (K : PySem.W.Frag) (b : D → EnvD → Option EnvD) (is : List Nat) : TG := fun v σ H Q => ∃ ρ w d ρ', w.H = H ∧ w.Ok K ∧ SR K w ρ σ ∧ RepM md K w.A w.G v d ∧ b d ρ = some ρ' ∧ ∀ σ', SR K w ρ' σ' → OwnSub ρ ρ' σ σ' → (∀ j, j ∉ is → σ'[j]? = σ[j]?) → σ'.length = σ.length → Q σ' H
theorem PG.wk {tg : Expr} {t t' : TG} (h : PG X tg t) (f : ∀ v σ H Q, t' v σ H Q → t v σ H Q) : PG X tg t' := ⟨fun pins s σ H v u Q I r q => h.run pins s σ H v u Q I r (f v σ H Q q)⟩
theorem SR.set {w : Wd} {ρ : EnvD} {σ : St} (sr : SR K w ρ σ) (i : Nat) {v : V} {d : D} (r : Rep K w.A w.G v d) : SR K w (ρ.set i (.val d)) (σ.set i (some v)) := by
  refine ⟨by rw [List.length_set, List.length_set]; exact sr.len, fun j x h => ?_, fun j ds h => ?_, fun j k ds es p h1 h2 h3 h4 => ?_⟩
  · by_cases hj : i = j
    · subst hj
      have hi : i < ρ.length := by have := (List.getElem?_eq_some_iff.mp h).1; rwa [List.length_set] at this
      rw [List.getElem?_set_self hi] at h
      cases h
      exact ⟨v, List.getElem?_set_self (by rw [← sr.len]; exact hi), r⟩
    · rw [List.getElem?_set_ne hj] at h ⊢
      exact sr.val j x h
  · by_cases hj : i = j
    · subst hj
      have hi : i < ρ.length := by have := (List.getElem?_eq_some_iff.mp h).1; rwa [List.length_set] at this
      rw [List.getElem?_set_self hi] at h
      cases h
    · rw [List.getElem?_set_ne hj] at h ⊢
      exact sr.own j ds h
  · have nj : i ≠ j := fun hj => by
      subst hj
      have hi : i < ρ.length := by have := (List.getElem?_eq_some_iff.mp h1).1; rwa [List.length_set] at this
      rw [List.getElem?_set_self hi] at h1
      cases h1
    have nk : i ≠ k := fun hj => by
      subst hj
      have hi : i < ρ.length := by have := (List.getElem?_eq_some_iff.mp h2).1; rwa [List.length_set] at this
      rw [List.getElem?_set_self hi] at h2
      cases h2
    rw [List.getElem?_set_ne nj] at h1 h3
    rw [List.getElem?_set_ne nk] at h2 h4
    exact sr.dis j k ds es p h1 h2 h3 h4
def bName (i : Nat) : D → EnvD → Option EnvD := fun d ρ => some (ρ.set i (.val d))
theorem x_gname {tg : Expr} {i : Nat} (h : PG X tg (gName i)) : PG X tg (tG false K (bName i) [i]) := PG.wk h fun v σ H Q ⟨ρ, w, d, ρ', e1, ok, sr, r, eb, k⟩ => by
  cases eb
  have r := r.elim id fun z => by cases z.1
  exact k _ (sr.set i r) (OwnSub.set ρ σ i (fun _ z => by cases z) _) (fun j hj => List.getElem?_set_ne (by simpa using fun z => hj (by simp [z]))) (by rw [List.length_set])
def bNames : List Nat → List D → EnvD → Option EnvD
  | [], [], ρ => some ρ
  | i :: is, d :: ds, ρ => bNames is ds (ρ.set i (.val d))
  | _, _, _ => none
def bTup (is : List Nat) : D → EnvD → Option EnvD := fun d ρ => match d with
  | .tup ds => bNames is ds ρ
  | _ => none
def gNames : List Nat → TGs
  | [] => gNil
  | i :: is => gCons (gName i) (gNames is)
theorem gNames_ok {w : Wd} {Q : St → Hp → Prop} (ok : w.Ok K) : ∀ (is : List Nat) (ds : List D) (vs : List V) (ρ ρ' : EnvD) (σ : St), SR K w ρ σ → RepL K w.A w.G vs ds → bNames is ds ρ = some ρ' →
    (∀ σ', SR K w ρ' σ' → OwnSub ρ ρ' σ σ' → (∀ j, j ∉ is → σ'[j]? = σ[j]?) → σ'.length = σ.length → Q σ' w.H) → gNames is vs σ w.H Q
  | [], [], _, ρ, ρ', σ, sr, rl, eb, k => by
    cases rl
    cases eb
    exact ⟨rfl, k σ sr (OwnSub.refl _ _) (fun _ _ => rfl) rfl⟩
  | i :: is, d :: ds, _, ρ, ρ', σ, sr, rl, eb, k => by
    cases rl with
    | cons r rl =>
      refine ⟨_, _, rfl, ?_⟩
      exact gNames_ok ok is ds _ _ ρ' _ (sr.set i r) rl eb fun σ' sr' os h1 h2 => k σ' sr' ((OwnSub.set ρ σ i (fun _ z => by cases z) _).trans os) (fun j hj => by
        rw [h1 j (fun z => hj (List.mem_cons_of_mem _ z)), List.getElem?_set_ne (fun z => hj (by rw [z]; exact List.mem_cons_self))]) (by rw [h2, List.length_set])
  | [], _ :: _, _, _, _, _, _, _, eb, _ => by cases eb
  | _ :: _, [], _, _, _, _, _, _, eb, _ => by cases eb
theorem bNames_len : ∀ {is : List Nat} {ds : List D} {ρ ρ' : EnvD}, bNames is ds ρ = some ρ' → is.length = ds.length
  | [], [], _, _, _ => rfl
  | _ :: is, _ :: ds, _, _, h => by rw [List.length_cons, List.length_cons, bNames_len (is := is) (ds := ds) h]
  | [], _ :: _, _, _, h => by cases h
  | _ :: _, [], _, _, h => by cases h
theorem x_gtup {tg : Expr} {is : List Nat} {n : Nat} (hn : n = is.length) (h : PG X tg (gTup K n (gNames is))) : PG X tg (tG true K (bTup is) is) := PG.wk h fun v σ H Q ⟨ρ, w, d, ρ', e1, ok, sr, r, eb, k⟩ => by
  subst e1
  unfold bTup at eb
  split at eb
  · obtain ⟨a, vs, rfl, hs, rl⟩ : ∃ a vs, v = .ref a ∧ SqT K w.G a vs ∧ RepL K w.A w.G vs _ := by
      rcases r with r | ⟨_, ds, a, vs, e2, e3, hs, rl⟩
      · cases r with
        | tup hs rl => exact ⟨_, _, rfl, .inl hs.rd, rl⟩
      · cases e2
        exact ⟨a, vs, e3, hs, rl⟩
    refine ⟨_, _, rfl, sqT_mono ok.sub hs, by rw [rl.length, ← bNames_len eb, hn], ?_⟩
    exact gNames_ok ok is _ _ ρ ρ' σ sr rl eb k
  · cases eb
def wipeD (ρ : EnvD) : List Nat → EnvD
  | [] => ρ
  | v :: vs => (wipeD ρ vs).set v .un
theorem SR.wipe1 {w : Wd} {ρ : EnvD} {σ : St} (sr : SR K w ρ σ) (i : Nat) : SR K w (ρ.set i .un) (σ.set i none) := by
  have no : ∀ {j : Nat} {s : Slot}, s ≠ .un → (ρ.set i .un)[j]? = some s → i ≠ j := fun {j s} hs h hj => by
    subst hj
    have hi : i < ρ.length := by have := (List.getElem?_eq_some_iff.mp h).1; rwa [List.length_set] at this
    rw [List.getElem?_set_self hi] at h
    exact hs (Option.some.inj h).symm
  refine ⟨by rw [List.length_set, List.length_set]; exact sr.len, fun j x h => ?_, fun j ds h => ?_, fun j k ds es p h1 h2 h3 h4 => ?_⟩
  · have nj := no (fun z => by cases z) h
    rw [List.getElem?_set_ne nj] at h ⊢
    exact sr.val j x h
  · have nj := no (fun z => by cases z) h
    rw [List.getElem?_set_ne nj] at h ⊢
    exact sr.own j ds h
  · have nj := no (fun z => by cases z) h1
    have nk := no (fun z => by cases z) h2
    rw [List.getElem?_set_ne nj] at h1 h3
    rw [List.getElem?_set_ne nk] at h2 h4
    exact sr.dis j k ds es p h1 h2 h3 h4
theorem SR.wipe {w : Wd} {ρ : EnvD} {σ : St} (sr : SR K w ρ σ) : ∀ vs : List Nat, SR K w (wipeD ρ vs) (wipe σ vs)
  | [] => sr
  | v :: vs => (SR.wipe sr vs).wipe1 v
theorem wipe_get (τ : St) (vs : List Nat) (j : Nat) : (wipe τ vs)[j]? = if j ∈ vs then (if j < τ.length then some none else none) else τ[j]? := by
  induction vs with
  | nil => simp [wipe]
  | cons v vs ih =>
    unfold wipe
    by_cases hv : v = j
    · subst hv
      rw [if_pos List.mem_cons_self, List.getElem?_set, if_pos rfl, wipe_length]
    · rw [List.getElem?_set_ne hv, ih]
      by_cases hm : j ∈ vs
      · rw [if_pos hm, if_pos (List.mem_cons_of_mem _ hm)]
      · rw [if_neg hm, if_neg (by simp [hm, Ne.symm hv])]
theorem wipe_same {σ σ' : St} (hl : σ'.length = σ.length) (vs : List Nat) (h : ∀ j, j ∉ vs → σ'[j]? = σ[j]?) : wipe σ' vs = wipe σ vs := by
  apply List.ext_getElem?
  intro j
  rw [wipe_get, wipe_get, hl]
  by_cases hm : j ∈ vs
  · rw [if_pos hm, if_pos hm]
  · rw [if_neg hm, if_neg hm, h j hm]
theorem wipe_wipe (σ : St) (vs : List Nat) : wipe (wipe σ vs) vs = wipe σ vs := by
  refine wipe_same (wipe_length σ vs) vs fun j hj => ?_
  rw [wipe_get, if_neg hj]
abbrev E00 : Wish := fun _ _ _ => False
def lcGo (b : D → EnvD → Option EnvD) (c : FB) (f : FD) (ρ0 : EnvD) : List D → List D → Store → R (List D)
  | [], acc, M => .ok acc M
  | d :: ds, acc, M => match b d ρ0 with
    | none => .bad
    | some ρ1 => match c ρ1 M with
      | .ok true M1 => match f ρ1 M1 with
        | .ok y M2 => if acc.length < sizeLine then lcGo b c f ρ0 ds (acc ++ [y]) M2 else .bad
        | _ => .bad
      | .ok false M1 => lcGo b c f ρ0 ds acc M1
      | _ => .bad
theorem lcGo_exc {b : D → EnvD → Option EnvD} {c : FB} {f : FD} {ρ0 : EnvD} {k : Nat} {x : D} {M' : Store} : ∀ (ds acc : List D) (M : Store), lcGo b c f ρ0 ds acc M ≠ .exc k x M'
  | [], _, _ => fun h => by cases h
  | d :: ds, acc, M => fun h => by
    unfold lcGo at h
    split at h
    · cases h
    · split at h
      · split at h
        · split at h
          · exact lcGo_exc ds _ _ h
          · cases h
        · cases h
      · exact lcGo_exc ds _ _ h
      · cases h
def dLc (fi : FL) (b : D → EnvD → Option EnvD) (c : FB) (f : FD) (vs : List Nat) : FE := fun ρ M => (fi ρ M).bind fun items M => (lcGo b c f (wipeD ρ vs) items [] M).map Slot.own
def LcRest (K : PySem.W.Frag) (w0 : Wd) (D : Addr) (Q : VK) (r : R (List TP.D)) : Prop := match r with
  | .ok res M => ∀ w' vres, Step K w0 w' → w'.M = M → w'.H D = some (.lst vres) → w'.G D = none → D ∉ w'.A → RepL K w'.A w'.G vres res → Q (.ref D) w'.H
  | _ => False
theorem setOwn_ok {w : Wd} (h : w.Ok K) {p : Addr} {o o' : HO} (hp : w.H p = some o') (hG : w.G p = none) (hA : p ∉ w.A) : (⟨w.A, w.G, w.M, upd w.H p o⟩ : Wd).Ok K := by
  refine ⟨fun b u e => ?_, h.nd, h.len, h.out, fun k m e => ?_⟩
  · show upd w.H p o b = some u
    rw [upd_ne (ne_of_none e hG)]
    exact h.sub b u e
  · obtain ⟨a, ea, r⟩ := h.mos k m e
    have na : a ≠ p := fun z => hA (z ▸ List.mem_of_getElem? ea)
    refine ⟨a, ea, ?_⟩
    cases m with
    | lst ds => obtain ⟨vs, z, q⟩ := r; exact ⟨vs, by show upd w.H p o a = _; rw [upd_ne na]; exact z, q⟩
    | dK ds => obtain ⟨vs, z, q⟩ := r; exact ⟨vs, by show upd w.H p o a = _; rw [upd_ne na]; exact z, q⟩
    | dT ds => obtain ⟨vs, z, q⟩ := r; exact ⟨vs, by show upd w.H p o a = _; rw [upd_ne na]; exact z, q⟩
    | ins c fs => obtain ⟨io, vs, dx, z, q⟩ := r; exact ⟨io, vs, dx, by show upd w.H p o a = _; rw [upd_ne na]; exact z, q⟩
    | exc c d => exact exc_mono r (fun _ z => by show upd w.H p o a = _; rw [upd_ne na]; exact z) (List.prefix_refl _) (Same.refl _)
    | dN wd d => exact dn_mono r (fun _ z => by show upd w.H p o a = _; rw [upd_ne na]; exact z) (List.prefix_refl _) (Same.refl _)
    | fK d => exact fk_mono r (List.prefix_refl _) (Same.refl _)
    | fT d => exact ft_mono r (List.prefix_refl _) (Same.refl _)
theorem Step.setOwn {w0 w : Wd} (s : Step K w0 w) {p : Addr} {o o' : HO} (h0 : w0.H p = none) (hp : w.H p = some o') (hG : w.G p = none) (hA : p ∉ w.A) : Step K w0 ⟨w.A, w.G, w.M, upd w.H p o⟩ :=
  ⟨setOwn_ok s.ok hp hG hA, s.pre, s.fro, fun q u h1 h2 h3 => by
    obtain ⟨a, b, c⟩ := s.keep q u h1 h2 h3
    exact ⟨by show upd w.H p o q = some u; rw [upd_ne (ne_of_none h1 h0)]; exact a, b, c⟩⟩
theorem lc_le {fi : FL} {b : D → EnvD → Option EnvD} {is : List Nat} {c : FB} {f : FD} {vs : List Nat} (hv : ∀ i ∈ is, i ∈ vs) (σ : St) (H : Hp) (Q : VK) : tE K E (dLc fi b c f vs) σ H Q → tLc (tI md K E fi) (tG md K b is) (tT K E00 c) (tF K E00 f) vs σ H Q := fun ⟨ρ, w, e1, ok, sr, a⟩ =>
  ⟨ρ, w, e1, ok, sr, a.bind.imp fun items w1 s1 a1 J hJ Dl hD => by
    have s0 := s1.ok.fresh0 hD (.lst [])
    have hG1 : w1.G Dl = none := s1.ok.sub.free hD
    have hA1 := s1.ok.notA hD
    have a2 : LcRest K w1 Dl Q (lcGo b c f (wipeD ρ vs) items [] w1.M) := by
      have a2 := a1.map
      revert a2
      cases q : lcGo b c f (wipeD ρ vs) items [] w1.M with
      | bad => exact fun z => z
      | exc c d M => exact absurd q (lcGo_exc _ _ _)
      | ok res M => exact fun z w' vres st eM hH hG hA rl => z w' st eM _ ⟨Dl, vres, rfl, s1.free hD, hH, hG, hA, rl⟩
    refine ⟨fun i m H => m = items.length - i ∧ i ≤ items.length ∧ ∃ w acc vacc, w.H = H ∧ Step K w1 w ∧ w.H Dl = some (.lst vacc) ∧ w.G Dl = none ∧ Dl ∉ w.A ∧ RepL K w.A w.G vacc acc ∧ LcRest K w1 Dl Q (lcGo b c f (wipeD ρ vs) (items.drop i) acc w.M),
      ⟨items.length, by simp, Nat.zero_le _, _, [], [], rfl, s0, upd_same, hG1, hA1, .nil, by simpa using a2⟩, ?_⟩
    rintro i m H ⟨rfl, hi, w2, acc, vacc, rfl, s2, hH2, hG2, hA2, rl2, rest⟩
    by_cases hlt : i < items.length
    · have ed : items[i]? = some items[i] := List.getElem?_eq_getElem hlt
      rw [List.drop_eq_getElem_cons hlt] at rest
      obtain ⟨go, yl⟩ := (hJ w2 s2.le s2.ok i).1 _ ed
      refine .inr ⟨go, fun H' => i + 1 ≤ items.length ∧ ∃ w acc vacc, w.H = H' ∧ Step K w1 w ∧ w.H Dl = some (.lst vacc) ∧ w.G Dl = none ∧ Dl ∉ w.A ∧ RepL K w.A w.G vacc acc ∧ LcRest K w1 Dl Q (lcGo b c f (wipeD ρ vs) (items.drop (i + 1)) acc w.M),
        fun H' ⟨h1, h2⟩ => ⟨_, by omega, rfl, h1, h2⟩, fun x H' hy => ?_⟩
      obtain ⟨w3, s3, eM3, rfl, rx⟩ := yl x H' hy
      unfold lcGo at rest
      cases eb : b items[i] (wipeD ρ vs) with
      | none => rw [eb] at rest; exact rest.elim
      | some ρ1 =>
        rw [eb] at rest
        simp only at rest
        have sr3 : SR K w3 (wipeD ρ vs) (wipe σ vs) := (((sr.step s1).step s2).step s3).wipe vs
        refine ⟨wipeD ρ vs, w3, items[i], ρ1, rfl, s3.ok, sr3, rx, eb, fun σ' sr' _ h1 h2 => ⟨?_, ?_⟩⟩
        · have e2 := wipe_same h2 vs (fun j hj => h1 j (fun z => hj (hv j z)))
          rw [e2]
          exact wipe_wipe σ vs
        · refine ⟨ρ1, w3, rfl, s3.ok, sr', ?_⟩
          have s13 : Step K w1 w3 := s2.trans s3
          obtain ⟨hH3, hG3, hA3⟩ := s3.keepN Dl _ hH2 hG2 hA2
          rw [eM3]
          cases ec : c ρ1 w2.M with
          | bad => rw [ec] at rest; exact rest.elim
          | exc _ _ _ => rw [ec] at rest; exact rest.elim
          | ok t M1 =>
            rw [ec] at rest
            intro w4 s4 eM4
            obtain ⟨hH4, hG4, hA4⟩ := s4.keepN Dl _ hH3 hG3 hA3
            cases t with
            | false =>
              refine iteF ⟨hlt, w4, acc, vacc, rfl, s13.trans s4, hH4, hG4, hA4, (s3.trans s4).repL rl2, ?_⟩
              rw [eM4]
              exact rest
            | true =>
              refine iteT ⟨ρ1, w4, rfl, s4.ok, sr'.step s4, ?_⟩
              simp only at rest
              rw [eM4]
              cases ef : f ρ1 M1 with
              | bad => rw [ef] at rest; exact rest.elim
              | exc _ _ _ => rw [ef] at rest; exact rest.elim
              | ok y M2 =>
                rw [ef] at rest
                intro w5 s5 eM5 v rv
                obtain ⟨hH5, hG5, hA5⟩ := s5.keepN Dl _ hH4 hG4 hA4
                have rl5 : RepL K w5.A w5.G vacc acc := ((s3.trans s4).trans s5).repL rl2
                simp only at rest
                split at rest
                · rename_i hz
                  refine ⟨vacc, hH5, by rw [rl5.length]; exact hz, hlt, ⟨w5.A, w5.G, w5.M, upd w5.H Dl (.lst (vacc ++ [v]))⟩, acc ++ [y], vacc ++ [v], rfl, ((s13.trans s4).trans s5).setOwn hD hH5 hG5 hA5, upd_same, hG5, hA5, rl5.append (.one rv), ?_⟩
                  show LcRest K w1 Dl Q (lcGo b c f (wipeD ρ vs) (items.drop (i + 1)) (acc ++ [y]) w5.M)
                  rw [eM5]
                  exact rest
                · exact rest.elim
    · have ei : i = items.length := by omega
      subst ei
      rw [List.drop_length] at rest
      exact .inl ⟨(hJ w2 s2.le s2.ok _).2 (Nat.le_refl _), rest w2 vacc s2 rfl hH2 hG2 hA2 rl2⟩⟩
theorem x_lc {fi : FL} {b : D → EnvD → Option EnvD} {is : List Nat} {c : FB} {f : FD} {vs : List Nat} (hv : ∀ i ∈ is, i ∈ vs) (h : PE X e (tLc (tI md K E fi) (tG md K b is) (tT K E00 c) (tF K E00 f) vs)) : PE X e (tE K E (dLc fi b c f vs)) := PE.wk h (lc_le hv)
end
end TP
namespace TP
open PySem L2
inductive Out where
  | next (ρ : EnvD) (M : Store) | ret (s : Slot) (M : Store) | brk (ρ : EnvD) (M : Store) | cont (ρ : EnvD) (M : Store) | exc (c : Nat) (d : D) (M : Store) | bad
abbrev FS := EnvD → Store → Out
section
variable (K : PySem.W.Frag) (E : Wish)
def OF (w0 : Wd) (ρ : EnvD) (σ : St) : Prop := ∀ (i : Nat) (ds : List D) (p : Addr), ρ[i]? = some (.own ds) → σ[i]? = some (some (.ref p)) → w0.H p = none
def PostS (w0 ws : Wd) (D : Ends) : Out → Prop
  | .next ρ M => ∀ w σ, Step K w0 w → Le ws w → w.M = M → SR K w ρ σ → OF w0 ρ σ → D.nx σ w.H
  | .brk ρ M => ∀ w σ, Step K w0 w → Le ws w → w.M = M → SR K w ρ σ → OF w0 ρ σ → D.bk σ w.H
  | .cont ρ M => ∀ w σ, Step K w0 w → Le ws w → w.M = M → SR K w ρ σ → OF w0 ρ σ → D.ct σ w.H
  | .ret s M => ∀ w v, Step K w0 w → w.M = M → RepX K w0 w v s → D.rt v w.H
  | .exc c d M => ∀ w, Step K w0 w → Le ws w → w.M = M → E c d w
  | .bad => False
def tS (g : FS) : TS := fun D σ H => ∃ ρ w w0, w.H = H ∧ Step K w0 w ∧ SR K w ρ σ ∧ OF w0 ρ σ ∧ PostS K E w0 w D (g ρ w.M)
end
section
variable {K : PySem.W.Frag} {E : Wish} {X : Cx} {st : Stmt} {sts : List Stmt} {md : Bool}
theorem PostS.later {w0 ws w1 : Wd} {D : Ends} {o : Out} (h : PostS K E w0 ws D o) (l : Le ws w1) : PostS K E w0 w1 D o := by
  cases o with
  | next ρ M => exact fun w σ a b => h w σ a (l.trans b)
  | brk ρ M => exact fun w σ a b => h w σ a (l.trans b)
  | cont ρ M => exact fun w σ a b => h w σ a (l.trans b)
  | ret s M => exact h
  | exc c d M => exact fun w a b => h w a (l.trans b)
  | bad => exact h
theorem OF.sub {w0 : Wd} {ρ ρ' : EnvD} {σ σ' : St} (h : OF w0 ρ σ) (o : OwnSub ρ ρ' σ σ') : OF w0 ρ' σ' := fun i ds p h1 h2 => by
  obtain ⟨a, b⟩ := o i ds h1
  rw [b] at h2
  exact h i ds p a h2
def sNil : FS := fun ρ M => .next ρ M
def sSeq (g h : FS) : FS := fun ρ M => match g ρ M with
  | .next ρ M => h ρ M
  | o => o
theorem s_nil (h : PSs X [] tNext) : PSs X [] (tS K E sNil) := PSs.wk h fun D σ H ⟨ρ, w, w0, e1, s, sr, of, p⟩ => by
  subst e1
  exact p w σ s (Le.refl w) rfl sr of
theorem s_seq {g h : FS} (hh : PSs X sts (tSeq (tS K E g) (tS K E h))) : PSs X sts (tS K E (sSeq g h)) := PSs.wk hh fun D σ H ⟨ρ, w, w0, e1, s, sr, of, p⟩ => by
  refine ⟨ρ, w, w0, e1, s, sr, of, ?_⟩
  unfold sSeq at p
  cases q : g ρ w.M with
  | next ρ' M' =>
    rw [q] at p
    intro w1 σ1 s1 l1 e2 sr1 of1
    refine ⟨ρ', w1, w0, rfl, s1, sr1, of1, ?_⟩
    rw [e2]
    exact PostS.later p l1
  | ret x M' => rw [q] at p; exact p
  | brk x M' => rw [q] at p; exact p
  | cont x M' => rw [q] at p; exact p
  | exc c d M' => rw [q] at p; exact p
  | bad => rw [q] at p; exact p
def R.out {α : Type} (r : R α) (k : α → Store → Out) : Out := match r with
  | .ok a M => k a M
  | .exc c d M => .exc c d M
  | .bad => .bad
theorem out_after {α : Type} {w0 w : Wd} {D : Ends} {r : R α} {k : α → Store → Out} (s : Step K w0 w) (p : PostS K E w0 w D (r.out k)) : After K E w r fun a w' => PostS K E w0 w' D (k a w'.M) := by
  cases r with
  | bad => exact p
  | exc c d M => exact fun w' s' e => p w' (s.trans s') s'.le e
  | ok a M =>
    intro w' s' e
    have p' : PostS K E w0 w D (k a M) := p
    rw [e]
    exact p'.later s'.le
def sRet (f : FE) : FS := fun ρ M => (f ρ M).out fun x M => .ret x M
theorem s_ret {f : FE} (h : PS X st (tRet (tE K E f))) : PS X st (tS K E (sRet f)) := PS.wk h fun D σ H ⟨ρ, w, w0, e1, s, sr, of, p⟩ =>
  ⟨ρ, w, e1, s.ok, sr, (out_after s p).imp fun x w1 s1 p1 v rv => p1 w1 v (s.trans s1) rfl (rv.back s)⟩
def sRetV (i : Nat) : FS := fun ρ M => match ρ[i]? with
  | some (.val d) => .ret (.val d) M
  | some (.own ds) => .ret (.own ds) M
  | _ => .bad
theorem s_retV {i : Nat} (h : PS X st (tRet (tVar i))) : PS X st (tS K E (sRetV i)) := PS.wk h fun D σ H ⟨ρ, w, w0, e1, s, sr, of, p⟩ => by
  subst e1
  unfold sRetV at p
  split at p
  · rename_i d e2
    obtain ⟨v, h1, h2⟩ := sr.val i d e2
    exact ⟨v, h1, p w v s rfl h2⟩
  · rename_i ds e2
    obtain ⟨q, vs, h1, h2, h3, h4, h5⟩ := sr.own i ds e2
    exact ⟨_, h1, p w _ s rfl ⟨q, vs, rfl, of i ds q e2 h1, h2, h3, h4, h5⟩⟩
  · exact p.elim
theorem SR.setOwn {w w' : Wd} {ρ : EnvD} {σ : St} (sr : SR K w ρ σ) (st : Step K w w') (i : Nat) {v : V} {ds : List D} (r : RepX K w w' v (.own ds)) : SR K w' (ρ.set i (.own ds)) (σ.set i (some v)) := by
  obtain ⟨p, vs, rfl, h0, hH, hG, hA, rl⟩ := r
  have sr' := sr.step st
  have other : ∀ (j : Nat) (es : List D), i ≠ j → ρ[j]? = some (.own es) → σ[j]? ≠ some (some (.ref p)) := fun j es hj h1 h2 => by
    obtain ⟨q, us, a, b, _⟩ := sr.own j es h1
    rw [a] at h2
    cases h2
    rw [h0] at b
    cases b
  refine ⟨by rw [List.length_set, List.length_set]; exact sr.len, fun j x h => ?_, fun j es h => ?_, fun j k ds1 es q h1 h2 h3 h4 => ?_⟩
  · by_cases hj : i = j
    · subst hj
      have hi : i < ρ.length := by have := (List.getElem?_eq_some_iff.mp h).1; rwa [List.length_set] at this
      rw [List.getElem?_set_self hi] at h
      cases h
    · rw [List.getElem?_set_ne hj] at h ⊢
      exact sr'.val j x h
  · by_cases hj : i = j
    · subst hj
      have hi : i < ρ.length := by have := (List.getElem?_eq_some_iff.mp h).1; rwa [List.length_set] at this
      rw [List.getElem?_set_self hi] at h
      cases h
      exact ⟨p, vs, List.getElem?_set_self (by rw [← sr.len]; exact hi), hH, hG, hA, rl⟩
    · rw [List.getElem?_set_ne hj] at h ⊢
      exact sr'.own j es h
  · by_cases hj : i = j
    · by_cases hk : i = k
      · rw [← hj, ← hk]
      · subst hj
        have hi : i < ρ.length := by have := (List.getElem?_eq_some_iff.mp h1).1; rwa [List.length_set] at this
        rw [List.getElem?_set_self (by rw [← sr.len]; exact hi)] at h3
        cases h3
        rw [List.getElem?_set_ne hk] at h2 h4
        exact absurd h4 (other k es hk h2)
    · by_cases hk : i = k
      · subst hk
        have hi : i < ρ.length := by have := (List.getElem?_eq_some_iff.mp h2).1; rwa [List.length_set] at this
        rw [List.getElem?_set_self (by rw [← sr.len]; exact hi)] at h4
        cases h4
        rw [List.getElem?_set_ne hj] at h1 h3
        exact absurd h3 (other j ds1 hj h1)
      · rw [List.getElem?_set_ne hj] at h1 h3
        rw [List.getElem?_set_ne hk] at h2 h4
        exact sr'.dis j k ds1 es q h1 h2 h3 h4
theorem OF.setOwn {w0 w w' : Wd} {ρ : EnvD} {σ : St} (of : OF w0 ρ σ) (s : Step K w0 w) (i : Nat) {v : V} {ds : List D} (r : RepX K w w' v (.own ds)) : OF w0 (ρ.set i (.own ds)) (σ.set i (some v)) := fun j es p h1 h2 => by
  obtain ⟨q, vs, rfl, h0, _⟩ := r
  by_cases hj : i = j
  · subst hj
    have hi : i < σ.length := by have := (List.getElem?_eq_some_iff.mp h2).1; rwa [List.length_set] at this
    rw [List.getElem?_set_self hi] at h2
    cases h2
    exact s.free h0
  · rw [List.getElem?_set_ne hj] at h1 h2
    exact of j es p h1 h2
def sSet (i : Nat) (f : FE) : FS := fun ρ M => (f ρ M).out fun x M => match x with
  | .un => .bad
  | x => .next (ρ.set i x) M
theorem s_set {i : Nat} {f : FE} (h : PS X st (tAsg (tE K E f) (gName i))) : PS X st (tS K E (sSet i f)) := PS.wk h fun D σ H ⟨ρ, w, w0, e1, s, sr, of, p⟩ =>
  ⟨ρ, w, e1, s.ok, sr, (out_after s p).imp fun x w1 s1 p1 v rv => by
    cases x with
    | un => exact rv.elim
    | val d => exact p1 w1 _ (s.trans s1) (Le.refl _) rfl ((sr.step s1).set i rv) (of.sub (OwnSub.set ρ σ i (fun _ z => by cases z) _))
    | own ds => exact p1 w1 _ (s.trans s1) (Le.refl _) rfl (sr.setOwn s1 i rv) (of.setOwn s i rv)⟩
def sAsg (b : D → EnvD → Option EnvD) (f : FD) : FS := fun ρ M => (f ρ M).out fun x M => match b x ρ with
  | some ρ' => .next ρ' M
  | none => .bad
theorem s_asg {b : D → EnvD → Option EnvD} {is : List Nat} {f : FD} (h : PS X st (tAsg (tF K E f) (tG md K b is))) : PS X st (tS K E (sAsg b f)) := PS.wk h fun D σ H ⟨ρ, w, w0, e1, s, sr, of, p⟩ =>
  ⟨ρ, w, e1, s.ok, sr, (out_after s p).imp fun x w1 s1 p1 v rv => by
    cases eb : b x ρ with
    | none => rw [eb] at p1; exact p1.elim
    | some ρ' =>
      rw [eb] at p1
      exact ⟨ρ, w1, x, ρ', rfl, s1.ok, sr.step s1, .inl rv, eb, fun σ' sr' os _ _ => p1 w1 σ' (s.trans s1) (Le.refl _) rfl sr' (of.sub os)⟩⟩
def sPar (i j : Nat) (fs : FL) : FS := fun ρ M => (fs ρ M).out fun ds M => match ds with
  | [x, y] => .next ((ρ.set i (.val x)).set j (.val y)) M
  | _ => .bad
theorem s_par {i j : Nat} {fs : FL} (h : PS X st (tPar i j (tAF K E fs))) : PS X st (tS K E (sPar i j fs)) := PS.wk h fun D σ H ⟨ρ, w, w0, e1, s, sr, of, p⟩ =>
  ⟨ρ, w, e1, s.ok, sr, (out_after s p).imp fun ds w1 s1 p1 vs rvs => by
    split at p1
    · cases rvs with
      | cons r1 r2 =>
        cases r2 with
        | cons r2 r3 =>
          cases r3
          refine ⟨_, _, rfl, p1 w1 _ (s.trans s1) (Le.refl _) rfl (((sr.step s1).set i r1).set j r2) (of.sub ((OwnSub.set ρ σ i (fun _ z => by cases z) _).trans (OwnSub.set _ _ j (fun _ z => by cases z) _)))⟩
    · exact p1.elim⟩
def sIf (c : FB) (g h : FS) : FS := fun ρ M => (c ρ M).out fun b M => if b then g ρ M else h ρ M
theorem s_if {c : FB} {g h : FS} (hh : PS X st (tIfS (tT K E c) (tS K E g) (tS K E h))) : PS X st (tS K E (sIf c g h)) := PS.wk hh fun D σ H ⟨ρ, w, w0, e1, s, sr, of, p⟩ =>
  ⟨ρ, w, e1, s.ok, sr, (out_after s p).imp fun b w1 s1 p1 => by
    cases b with
    | true => exact iteT ⟨ρ, w1, w0, rfl, s.trans s1, sr.step s1, of, p1⟩
    | false => exact iteF ⟨ρ, w1, w0, rfl, s.trans s1, sr.step s1, of, p1⟩⟩
def forGo (b : D → EnvD → Option EnvD) (body : FS) : List D → EnvD → Store → Out
  | [], ρ, M => .next ρ M
  | d :: ds, ρ, M => match b d ρ with
    | none => .bad
    | some ρ1 => match body ρ1 M with
      | .next ρ2 M2 => forGo b body ds ρ2 M2
      | .cont ρ2 M2 => forGo b body ds ρ2 M2
      | .brk ρ2 M2 => .next ρ2 M2
      | o => o
def sFor (fi : FL) (b : D → EnvD → Option EnvD) (body : FS) : FS := fun ρ M => (fi ρ M).out fun items M => forGo b body items ρ M
theorem s_for {fi : FL} {b : D → EnvD → Option EnvD} {is : List Nat} {body : FS} (h : PS X st (tFor (tI md K E fi) (tG md K b is) (tS K E body))) : PS X st (tS K E (sFor fi b body)) := PS.wk h fun D σ H ⟨ρ, w, w0, e1, s, sr, of, p⟩ =>
  ⟨ρ, w, e1, s.ok, sr, (out_after s p).imp fun items w1 s1 p1 J hJ => by
    refine ⟨fun i m σ H => m = items.length - i ∧ i ≤ items.length ∧ ∃ ρ w, w.H = H ∧ Step K w0 w ∧ Le w1 w ∧ SR K w ρ σ ∧ OF w0 ρ σ ∧ PostS K E w0 w D (forGo b body (items.drop i) ρ w.M),
      ⟨items.length, by simp, Nat.zero_le _, ρ, w1, rfl, s.trans s1, Le.refl _, sr.step s1, of, by simpa using p1⟩, ?_⟩
    rintro i m σ2 H2 ⟨rfl, hi, ρ2, w2, rfl, s2, l2, sr2, of2, p2⟩
    by_cases hlt : i < items.length
    · have ed : items[i]? = some items[i] := List.getElem?_eq_getElem hlt
      rw [List.drop_eq_getElem_cons hlt] at p2
      obtain ⟨go, yl⟩ := (hJ w2 l2 s2.ok i).1 _ ed
      refine .inr ⟨go, fun σ' H' => i + 1 ≤ items.length ∧ ∃ ρ w, w.H = H' ∧ Step K w0 w ∧ Le w1 w ∧ SR K w ρ σ' ∧ OF w0 ρ σ' ∧ PostS K E w0 w D (forGo b body (items.drop (i + 1)) ρ w.M),
        fun σ' H' ⟨h1, h2⟩ => ⟨_, by omega, rfl, h1, h2⟩, fun x H' hy => ?_⟩
      obtain ⟨w3, s3, eM3, rfl, rx⟩ := yl x H' hy
      unfold forGo at p2
      cases eb : b items[i] ρ2 with
      | none => rw [eb] at p2; exact p2.elim
      | some ρ1 =>
        rw [eb] at p2
        simp only at p2
        refine ⟨ρ2, w3, items[i], ρ1, rfl, s3.ok, sr2.step s3, rx, eb, fun σ' sr' os _ _ => ?_⟩
        refine ⟨ρ1, w3, w0, rfl, s2.trans s3, sr', of2.sub os, ?_⟩
        rw [eM3]
        cases q : body ρ1 w2.M with
        | next ρ4 M4 =>
          rw [q] at p2
          intro w5 σ5 s5 l5 e5 sr5 of5
          refine ⟨hlt, ρ4, w5, rfl, s5, (l2.trans s3.le).trans l5, sr5, of5, ?_⟩
          rw [e5]
          exact PostS.later p2 (s3.le.trans l5)
        | cont ρ4 M4 =>
          rw [q] at p2
          intro w5 σ5 s5 l5 e5 sr5 of5
          refine ⟨hlt, ρ4, w5, rfl, s5, (l2.trans s3.le).trans l5, sr5, of5, ?_⟩
          rw [e5]
          exact PostS.later p2 (s3.le.trans l5)
        | brk ρ4 M4 =>
          rw [q] at p2
          intro w5 σ5 s5 l5 e5 sr5 of5
          exact p2 w5 σ5 s5 (s3.le.trans l5) e5 sr5 of5
        | ret x M4 => rw [q] at p2; exact p2
        | exc c d M4 => rw [q] at p2; exact fun w5 s5 l5 e5 => p2 w5 s5 (s3.le.trans l5) e5
        | bad => rw [q] at p2; exact p2
    · have ei : i = items.length := by omega
      subst ei
      rw [List.drop_length] at p2
      exact .inl ⟨(hJ w2 l2 s2.ok _).2 (Nat.le_refl _), p2 w2 σ2 s2 (Le.refl _) rfl sr2 of2⟩⟩
def whGo (c : FB) (body : FS) : Nat → EnvD → Store → Out
  | 0, _, _ => .bad
  | n + 1, ρ, M => match c ρ M with
    | .ok true M1 => match body ρ M1 with
      | .next ρ2 M2 => whGo c body n ρ2 M2
      | .cont ρ2 M2 => whGo c body n ρ2 M2
      | .brk ρ2 M2 => .next ρ2 M2
      | o => o
    | .ok false M1 => .next ρ M1
    | .exc k d M1 => .exc k d M1
    | .bad => .bad
def sWhile (n : Nat) (c : FB) (body : FS) : FS := fun ρ M => whGo c body n ρ M
theorem s_while {n : Nat} {c : FB} {body : FS} (h : PS X st (tWhile (tT K E c) (tS K E body))) : PS X st (tS K E (sWhile n c body)) := PS.wk h fun D σ H ⟨ρ, w, w0, e1, s, sr, of, p⟩ => by
  refine ⟨fun m σ H => ∃ ρ w, w.H = H ∧ Step K w0 w ∧ SR K w ρ σ ∧ OF w0 ρ σ ∧ PostS K E w0 w D (whGo c body m ρ w.M), ⟨n, ρ, w, e1, s, sr, of, p⟩, ?_⟩
  rintro m σ2 H2 ⟨ρ2, w2, rfl, s2, sr2, of2, p2⟩
  refine ⟨ρ2, w2, rfl, s2.ok, sr2, ?_⟩
  cases m with
  | zero => exact p2.elim
  | succ m =>
    unfold whGo at p2
    cases q : c ρ2 w2.M with
    | bad => rw [q] at p2; exact p2
    | exc k d M1 => rw [q] at p2; exact fun w' s' e => p2 w' (s2.trans s') s'.le e
    | ok b M1 =>
      rw [q] at p2
      intro w3 s3 e3
      cases b with
      | false => exact iteF (p2 w3 σ2 (s2.trans s3) s3.le e3 (sr2.step s3) of2)
      | true =>
        refine iteT ⟨fun σ' H' => ∃ ρ w, w.H = H' ∧ Step K w0 w ∧ SR K w ρ σ' ∧ OF w0 ρ σ' ∧ PostS K E w0 w D (whGo c body m ρ w.M), fun σ' H' z => ⟨m, Nat.lt_succ_self _, z⟩, ρ2, w3, w0, rfl, s2.trans s3, sr2.step s3, of2, ?_⟩
        rw [e3]
        simp only at p2
        cases q2 : body ρ2 M1 with
        | next ρ4 M4 =>
          rw [q2] at p2
          intro w5 σ5 s5 l5 e5 sr5 of5
          refine ⟨ρ4, w5, rfl, s5, sr5, of5, ?_⟩
          rw [e5]
          exact PostS.later p2 (s3.le.trans l5)
        | cont ρ4 M4 =>
          rw [q2] at p2
          intro w5 σ5 s5 l5 e5 sr5 of5
          refine ⟨ρ4, w5, rfl, s5, sr5, of5, ?_⟩
          rw [e5]
          exact PostS.later p2 (s3.le.trans l5)
        | brk ρ4 M4 =>
          rw [q2] at p2
          intro w5 σ5 s5 l5 e5 sr5 of5
          exact p2 w5 σ5 s5 (s3.le.trans l5) e5 sr5 of5
        | ret x M4 => rw [q2] at p2; exact p2
        | exc c d M4 => rw [q2] at p2; exact fun w5 s5 l5 e5 => p2 w5 s5 (s3.le.trans l5) e5
        | bad => rw [q2] at p2; exact p2
theorem SR.change {w0 w : Wd} {ρ : EnvD} {σ : St} (s : Step K w0 w) (sr : SR K w ρ σ) (of : OF w0 ρ σ) {i : Nat} {ds ds' : List D} {p : Addr} {vs vs' : List V} (hi : ρ[i]? = some (.own ds)) (hp : σ[i]? = some (some (.ref p))) (r : RepL K w.A w.G vs' ds') :
    Step K w0 ⟨w.A, w.G, w.M, upd w.H p (.lst vs')⟩ ∧ SR K ⟨w.A, w.G, w.M, upd w.H p (.lst vs')⟩ (ρ.set i (.own ds')) σ ∧ OF w0 (ρ.set i (.own ds')) σ := by
  obtain ⟨q, us, a, b, c, d, f⟩ := sr.own i ds hi
  rw [hp] at a
  cases a
  have hil : i < ρ.length := (List.getElem?_eq_some_iff.mp hi).1
  refine ⟨s.setOwn (of i ds p hi hp) b c d, ⟨by rw [List.length_set]; exact sr.len, fun j x h => ?_, fun j es h => ?_, fun j k es1 es2 q h1 h2 h3 h4 => ?_⟩, fun j es q h1 h2 => ?_⟩
  · have nj : i ≠ j := fun z => by subst z; rw [List.getElem?_set_self hil] at h; cases h
    rw [List.getElem?_set_ne nj] at h
    exact sr.val j x h
  · by_cases hj : i = j
    · subst hj
      rw [List.getElem?_set_self hil] at h
      cases h
      exact ⟨p, vs', hp, upd_same, c, d, r⟩
    · rw [List.getElem?_set_ne hj] at h
      obtain ⟨q, us2, a2, b2, c2, d2, f2⟩ := sr.own j es h
      refine ⟨q, us2, a2, ?_, c2, d2, f2⟩
      show upd w.H p (.lst vs') q = _
      rw [upd_ne (fun z : q = p => hj (by rw [z] at a2; exact sr.dis i j ds es p hi h hp a2))]
      exact b2
  · have f : ∀ {j : Nat} {es : List D}, (ρ.set i (.own ds'))[j]? = some (.own es) → ∃ es', ρ[j]? = some (.own es') := fun {j es} h => by
      by_cases hj : i = j
      · subst hj; exact ⟨ds, hi⟩
      · rw [List.getElem?_set_ne hj] at h; exact ⟨es, h⟩
    obtain ⟨_, z1⟩ := f h1
    obtain ⟨_, z2⟩ := f h2
    exact sr.dis j k _ _ q z1 z2 h3 h4
  · by_cases hj : i = j
    · subst hj; exact of _ ds q hi h2
    · rw [List.getElem?_set_ne hj] at h1; exact of j es q h1 h2
def sApp (i : Nat) (f : FD) : FS := fun ρ M => match ρ[i]? with
  | some (.own ds) => (f ρ M).out fun d M => if ds.length < sizeLine then .next (ρ.set i (.own (ds ++ [d]))) M else .bad
  | _ => .bad
theorem s_app {i : Nat} {f : FD} (h : PS X st (tDrop (tBM K "list" rAppend (tVar i) (tCons (tF K E f) tNil)))) : PS X st (tS K E (sApp i f)) := PS.wk h fun D σ H ⟨ρ, w, w0, e1, s, sr, of, p⟩ => by
  subst e1
  unfold sApp at p
  split at p
  · rename_i ds e2
    obtain ⟨q, vs, h1, h2, h3, h4, h5⟩ := sr.own i ds e2
    refine ⟨_, h1, .inl ⟨rfl, vs, .inl (.inl h2)⟩, ρ, w, rfl, s.ok, sr, (out_after s p).imp fun x w1 s1 p1 v rv => ?_⟩
    split at p1
    · rename_i hz
      obtain ⟨b1, c1, d1⟩ := s1.keepN q _ h2 h3 h4
      have r1 := s1.repL h5
      refine ⟨q, vs, v, rfl, rfl, b1, by rw [h5.length]; exact hz, ?_⟩
      obtain ⟨a, b, c⟩ := SR.change (vs := vs) (s.trans s1) (sr.step s1) of e2 h1 (r1.append (.one rv))
      exact p1 _ σ a (Le.refl _) rfl b c
    · exact p1.elim
  · exact p.elim
def sExt (i : Nat) (f : FD) : FS := fun ρ M => match ρ[i]? with
  | some (.own ds) => (f ρ M).out fun d M => match lstOf M d with
    | some es => if ds.length + es.length ≤ sizeLine then .next (ρ.set i (.own (ds ++ es))) M else .bad
    | none => .bad
  | _ => .bad
theorem s_ext {i : Nat} {f : FD} (h : PS X st (tDrop (tBM K "list" rExtend (tVar i) (tCons (tF K E f) tNil)))) : PS X st (tS K E (sExt i f)) := PS.wk h fun D σ H ⟨ρ, w, w0, e1, s, sr, of, p⟩ => by
  subst e1
  unfold sExt at p
  split at p
  · rename_i ds e2
    obtain ⟨q, vs, h1, h2, h3, h4, h5⟩ := sr.own i ds e2
    refine ⟨_, h1, .inl ⟨rfl, vs, .inl (.inl h2)⟩, ρ, w, rfl, s.ok, sr, (out_after s p).imp fun x w1 s1 p1 v rv => ?_⟩
    cases el : lstOf w1.M x with
    | none => rw [el] at p1; exact p1.elim
    | some es =>
      rw [el] at p1
      simp only at p1
      split at p1
      · rename_i hz
        obtain ⟨b1, c1, d1⟩ := s1.keepN q _ h2 h3 h4
        have r1 := s1.repL h5
        obtain ⟨q2, us, rfl, hu, ru⟩ := lst_at s1.ok (.inl rv) el
        refine ⟨q, q2, vs, us, rfl, rfl, b1, hu, by rw [h5.length, ru.length]; exact hz, ?_⟩
        obtain ⟨a, b, c⟩ := SR.change (vs := vs) (s.trans s1) (sr.step s1) of e2 h1 (r1.append ru)
        exact p1 _ σ a (Le.refl _) rfl b c
      · exact p1.elim
  · exact p.elim
def sFz (i : Nat) (g : FS) : FS := fun ρ M => match ρ[i]? with
  | some (.own ds) => g (ρ.set i (.val (.lst ds))) M
  | _ => g ρ M
theorem fz_ok {i : Nat} {g : FS} {D : Ends} {σ : St} {H : Hp} (h : tS K E (sFz i g) D σ H) : tS K E g D σ H := by
  obtain ⟨ρ, w, w0, e1, s, sr, of, p⟩ := h
  unfold sFz at p
  split at p
  · rename_i ds e2
    obtain ⟨q, vs, h1, h2, h3, h4, h5⟩ := sr.own i ds e2
    have hil : i < ρ.length := (List.getElem?_eq_some_iff.mp e2).1
    have fG : Same w.G (upd w.G q (.lst vs)) := upd_fro h3
    have l : Le w ⟨w.A, upd w.G q (.lst vs), w.M, w.H⟩ := ⟨List.prefix_refl _, fG⟩
    refine ⟨ρ.set i (.val (.lst ds)), ⟨w.A, upd w.G q (.lst vs), w.M, w.H⟩, w0, e1, ⟨s.ok.freeze h2 h3 h4, s.pre, s.fro.trans fG, fun b o z1 z2 z3 => ?_⟩, ⟨by rw [List.length_set]; exact sr.len, fun j x h => ?_, fun j es h => ?_, fun j k es1 es2 b z1 z2 z3 z4 => ?_⟩, fun j es b z1 z2 => ?_, PostS.later p l⟩
    · obtain ⟨a, b', c⟩ := s.keep b o z1 z2 z3
      refine ⟨a, b'.imp (fun b' => ?_) id, c⟩
      show upd w.G q (.lst vs) b = none
      rw [upd_ne (ne_of_none z1 (of i ds q e2 h1))]
      exact b'
    · by_cases hj : i = j
      · subst hj
        rw [List.getElem?_set_self hil] at h
        cases h
        exact ⟨_, h1, .lst upd_same (l.repL h5)⟩
      · rw [List.getElem?_set_ne hj] at h
        obtain ⟨v, a, b⟩ := sr.val j x h
        exact ⟨v, a, l.rep b⟩
    · have nj : i ≠ j := fun z => by subst z; rw [List.getElem?_set_self hil] at h; cases h
      rw [List.getElem?_set_ne nj] at h
      obtain ⟨q2, us, a, b, c, d, f⟩ := sr.own j es h
      refine ⟨q2, us, a, b, ?_, d, l.repL f⟩
      show upd w.G q (.lst vs) q2 = none
      rw [upd_ne (fun z : q2 = q => nj (by rw [z] at a; exact sr.dis i j ds es q e2 h h1 a))]
      exact c
    · have nj : i ≠ j := fun z => by subst z; rw [List.getElem?_set_self hil] at z1; cases z1
      have nk : i ≠ k := fun z => by subst z; rw [List.getElem?_set_self hil] at z2; cases z2
      rw [List.getElem?_set_ne nj] at z1
      rw [List.getElem?_set_ne nk] at z2
      exact sr.dis j k _ _ b z1 z2 z3 z4
    · have nj : i ≠ j := fun z => by subst z; rw [List.getElem?_set_self hil] at z1; cases z1
      rw [List.getElem?_set_ne nj] at z1
      exact of j es b z1 z2
  · exact ⟨ρ, w, w0, e1, s, sr, of, p⟩
theorem s_fz {i : Nat} {g : FS} (h : PS X st (tS K E g)) : PS X st (tS K E (sFz i g)) := PS.wk h fun _ _ _ z => fz_ok z
end
end TP
namespace TP
open PySem L2
section
variable {K : PySem.W.Frag} {E : Wish} {X : Cx} {e : Expr}
theorem ans {w : Wd} {Q : VK} {d : D} {v : V} (ok : w.Ok K) (k : ∀ v w', Step K w w' → w'.M = w.M → RepX K w w' v (.val d) → Q v w'.H) (r : ∀ A G, Rep K A G v d) : Q v w.H := k v w (Step.refl ok) rfl (r _ _)
def mulOk (i j : Int) : Bool := decide (-(2 ^ 64) < i ∧ i < 2 ^ 64) || decide (-(2 ^ 64) < j ∧ j < 2 ^ 64) || decide (i.natAbs.log2 + j.natAbs.log2 < 1000000)
def addD (M : Store) (x y : D) : Option Slot := match x, y with
  | .int i, .int j => some (.val (.int (i + j)))
  | .str a, .str b => if a.length + b.length ≤ sizeLine then some (.val (.str (a ++ b))) else none
  | .tup xs, .tup ys => if xs.length + ys.length ≤ sizeLine then some (.val (.tup (xs ++ ys))) else none
  | x, y => match lstOf M x, lstOf M y with
    | some xs, some ys => if xs.length + ys.length ≤ sizeLine then some (.own (xs ++ ys)) else none
    | _, _ => none
def rCatX (K : PySem.W.Frag) : R2 := fun x y H Q => ∃ a b xs ys, x = .ref a ∧ y = .ref b ∧ SqT K H a xs ∧ SqT K H b ys ∧ xs.length + ys.length ≤ sizeLine ∧
  (xs = [] → Q (.ref b) H) ∧ (xs ≠ [] → ys = [] → Q (.ref a) H) ∧ (xs ≠ [] → ys ≠ [] → NewT H (xs ++ ys) Q)
open PySem.Spec PyProof.Rows in
theorem op_catX : OpR X (binaryOp .Add) (rCatX X.K) := by
  intro pins s σ H x y v u Q I rx ry h
  obtain ⟨a, b, xs, ys, e1, e2, ha, hb, hz, q0, q1, q2⟩ := h
  by_cases hx : xs = []
  · exact op_catA pins s σ H x y v u Q I rx ry ⟨a, b, xs, ys, e1, e2, ha, hb, hz, q0, fun z => absurd hx z, fun z => absurd hx z⟩
  · subst e1 e2
    cases rx
    cases ry
    obtain ⟨its, r1, p1, _⟩ := I.tuple ha
    obtain ⟨its2, r2, p2, _⟩ := I.tuple hb
    refine HT.cat_tup p1 p2 (fun z => hx (r1.nil_iff.mp z)) (fun z => ⟨.ref a, H, I, rfl, q1 hx (r2.nil_iff.mp z)⟩) (fun z => ?_) (by rw [← r1.length, ← r2.length]; exact hz)
    exact (q2 hx fun w => z (r2.nil_iff.mpr w)).ep (t' := s.toks) I (r1.append r2) (by rw [List.length_append]; exact hz) (fun b ob q => Heap.get?_push_of_some _ q) (Nat.le_refl _) (Heap.get?_push_size _ rfl)
def rAddA (K : PySem.W.Frag) : R2 := fun x y H Q => rI0 (fun i j => .int (i + j)) x y H Q ∨ (∃ i j, x = .str i ∧ y = .str j ∧ i.length + j.length ≤ sizeLine ∧ Q (.str (i ++ j)) H) ∨ rCatX K x y H Q ∨ rCat x y H Q
theorem op_addA : OpR X (binaryOp .Add) (rAddA X.K) := op_add.or (op_add_str.or (op_catX.or op_cat))
theorem p_add : Prim2 K (rAddA K) addD := by
  intro w vx vy x y s Q ok rx ry h k
  unfold addD at h
  split at h
  · cases h
    cases int_at rx
    cases int_at ry
    exact .inl ⟨_, _, rfl, rfl, ans ok k fun _ _ => .int _⟩
  · split at h
    · cases h
      cases str_at rx
      cases str_at ry
      exact .inr (.inl ⟨_, _, rfl, rfl, by assumption, ans ok k fun _ _ => .str _⟩)
    · cases h
  · split at h
    · cases h
      obtain ⟨p, vs, rfl, hs, rl⟩ := tup_at ok rx
      obtain ⟨p2, vs2, rfl, hs2, rl2⟩ := tup_at ok ry
      refine .inr (.inr (.inl ⟨p, p2, vs, vs2, rfl, rfl, hs, hs2, by rw [rl.length, rl2.length]; assumption, fun e => ?_, fun _ e => ?_, fun _ _ => ?_⟩))
      · subst e
        cases rl
        rcases ry with ry | ⟨_, _, _, _, e, _⟩
        · exact k _ w (Step.refl ok) rfl ry
        · cases e
      · subst e
        cases rl2
        rw [List.append_nil] at k
        rcases rx with rx | ⟨_, _, _, _, e, _⟩
        · exact k _ w (Step.refl ok) rfl rx
        · cases e
      · exact newT ok (rl.append rl2) fun w' st eM v rv => k v w' st eM rv
    · cases h
  · split at h
    · rename_i e1 e2
      split at h
      · cases h
        obtain ⟨p, vs, rfl, hs, rl⟩ := lst_at ok rx e1
        obtain ⟨p2, vs2, rfl, hs2, rl2⟩ := lst_at ok ry e2
        refine .inr (.inr (.inr ⟨p, p2, vs, vs2, rfl, rfl, hs, hs2, by rw [rl.length, rl2.length]; assumption, fun q hq => ?_⟩))
        exact k _ _ (ok.fresh0 hq _) rfl (own_new (Step.refl ok) hq (rl.append rl2))
      · cases h
    · cases h
def subD (_ : Store) (x y : D) : Option Slot := match x, y with
  | .int i, .int j => some (.val (.int (i - j)))
  | _, _ => none
theorem p_sub : Prim2 K (rI0 fun i j => .int (i - j)) subD := by
  intro w vx vy x y s Q ok rx ry h k
  unfold subD at h
  split at h
  · cases h
    cases int_at rx
    cases int_at ry
    exact ⟨_, _, rfl, rfl, ans ok k fun _ _ => .int _⟩
  · cases h
def mulD (M : Store) (x y : D) : Option Slot := match x, y with
  | .int i, .int j => if mulOk i j then some (.val (.int (i * j))) else none
  | x, .int k => match lstOf M x with
    | some xs => if -(2 ^ 63) ≤ k ∧ k < 2 ^ 63 ∧ xs.length * k.toNat ≤ sizeLine then some (.own (List.replicate k.toNat xs).flatten) else none
    | none => none
  | _, _ => none
def rMulA : R2 := fun x y H Q => rI CMul (fun i j => .int (i * j)) x y H Q ∨ rI CMulW (fun i j => .int (i * j)) x y H Q ∨ rRep x y H Q
theorem op_mulA : OpR X (binaryOp .Mult) rMulA := op_mul.or (op_mulW.or op_rep)
theorem RepL.rep {A : List Addr} {G : Hp} {vs : List V} {ds : List D} (h : RepL K A G vs ds) : ∀ n : Nat, RepL K A G (List.replicate n vs).flatten (List.replicate n ds).flatten
  | 0 => .nil
  | n + 1 => by
    rw [List.replicate_succ, List.replicate_succ, List.flatten_cons, List.flatten_cons]
    exact h.append (RepL.rep h n)
theorem p_mul : Prim2 K rMulA mulD := by
  intro w vx vy x y s Q ok rx ry h k
  unfold mulD at h
  split at h
  · split at h
    · rename_i i j hm
      cases h
      cases int_at rx
      cases int_at ry
      unfold mulOk at hm
      rw [Bool.or_eq_true, Bool.or_eq_true] at hm
      rcases hm with (hm | hm) | hm
      · exact .inl ⟨_, _, rfl, rfl, .inl (of_decide_eq_true hm), ans ok k fun _ _ => .int _⟩
      · exact .inl ⟨_, _, rfl, rfl, .inr (of_decide_eq_true hm), ans ok k fun _ _ => .int _⟩
      · exact .inr (.inl ⟨_, _, rfl, rfl, (show i.natAbs.log2 + j.natAbs.log2 < 1000000 from of_decide_eq_true hm), ans ok k fun _ _ => .int _⟩)
    · cases h
  · split at h
    · rename_i e1
      split at h
      · rename_i hz
        cases h
        obtain ⟨p, vs, rfl, hs, rl⟩ := lst_at ok rx e1
        cases int_at ry
        refine .inr (.inr ⟨p, _, vs, rfl, rfl, hs, hz.1, hz.2.1, by rw [rl.length]; exact hz.2.2, fun q hq => ?_⟩)
        exact k _ _ (ok.fresh0 hq _) rfl (own_new (Step.refl ok) hq (rl.rep _))
      · cases h
    · cases h
  · cases h
def fdivD (_ : Store) (x y : D) : Option Slot := match x, y with
  | .int i, .int j => if 0 < j ∧ j < 1073741824 then some (.val (.int (i / j))) else if 0 < j ∧ j.natAbs.log2 < 9000 then some (.val (.int (i / j))) else if j ≠ 0 ∧ j.natAbs < 1073741824 then some (.val (.int (i.fdiv j))) else if j ≠ 0 ∧ j.natAbs.log2 < 9000 then some (.val (.int (i.fdiv j))) else none
  | _, _ => none
def CDivG (_ j : Int) : Prop := j ≠ 0 ∧ j.natAbs.log2 < 9000
open PySem.Spec PyProof.Rows in
theorem op_fdivG : OpR X (binaryOp .FloorDiv) (rI CDivG fun i j => .int (i.fdiv j)) := opI fun _ _ _ _ _ _ _ hc q => floordiv_int hc.1 q (.inl (PyProof.noPylong_of_log2 hc.2))
def rFdivA : R2 := fun x y H Q => rI CDivW (fun i j => .int (i / j)) x y H Q ∨ rI CDivN (fun i j => .int (i.fdiv j)) x y H Q ∨ rI CDivG (fun i j => .int (i.fdiv j)) x y H Q
theorem op_fdivA : OpR X (binaryOp .FloorDiv) rFdivA := op_fdivW.or (op_fdivN.or op_fdivG)
theorem p_fdiv : Prim2 K rFdivA fdivD := by
  intro w vx vy x y s Q ok rx ry h k
  unfold fdivD at h
  split at h
  · cases int_at rx
    cases int_at ry
    split at h
    · rename_i hc
      cases h
      exact .inl ⟨_, _, rfl, rfl, ⟨hc.1, Nat.lt_of_lt_of_le (PySem.Flt.log2_lt_of (k := 30) (by decide) (by omega)) (by decide)⟩, ans ok k fun _ _ => .int _⟩
    · split at h
      · rename_i hc
        cases h
        exact .inl ⟨_, _, rfl, rfl, hc, ans ok k fun _ _ => .int _⟩
      · split at h
        · rename_i hc
          cases h
          exact .inr (.inl ⟨_, _, rfl, rfl, hc, ans ok k fun _ _ => .int _⟩)
        · split at h
          · rename_i hc
            cases h
            exact .inr (.inr ⟨_, _, rfl, rfl, hc, ans ok k fun _ _ => .int _⟩)
          · cases h
  · cases h
def modD (_ : Store) (x y : D) : Option Slot := match x, y with
  | .int i, .int j => if 0 < j then some (.val (.int (i % j))) else if j ≠ 0 then some (.val (.int (i.fmod j))) else none
  | _, _ => none
def rModA : R2 := fun x y H Q => rI (fun _ j => 0 < j) (fun i j => .int (i % j)) x y H Q ∨ rI (fun _ j => j ≠ 0) (fun i j => .int (i.fmod j)) x y H Q
theorem op_modA : OpR X (binaryOp .Mod) rModA := op_mod.or op_modN
theorem p_mod : Prim2 K rModA modD := by
  intro w vx vy x y s Q ok rx ry h k
  unfold modD at h
  split at h
  · cases int_at rx
    cases int_at ry
    split at h
    · rename_i hc
      cases h
      exact .inl ⟨_, _, rfl, rfl, hc, ans ok k fun _ _ => .int _⟩
    · split at h
      · rename_i hc
        cases h
        exact .inr ⟨_, _, rfl, rfl, hc, ans ok k fun _ _ => .int _⟩
      · cases h
  · cases h
def powD (_ : Store) (x y : D) : Option Slot := match x, y with
  | .int i, .int j => if 0 ≤ j ∧ j ≤ 1000000 ∧ i.natAbs < 2 ^ 64 then some (.val (.int (i ^ j.toNat))) else none
  | _, _ => none
theorem p_pow : Prim2 K (rI CPow fun i j => .int (i ^ j.toNat)) powD := by
  intro w vx vy x y s Q ok rx ry h k
  unfold powD at h
  split at h
  · cases int_at rx
    cases int_at ry
    split at h
    · rename_i hc
      cases h
      exact ⟨_, _, rfl, rfl, hc, ans ok k fun _ _ => .int _⟩
    · cases h
  · cases h
def negD (_ : Store) (x : D) : Option Slot := match x with
  | .int i => some (.val (.int (-i)))
  | _ => none
theorem p_neg : Prim1 K (rU fun i => .int (-i)) negD := by
  intro w vx x s Q ok rx h k
  unfold negD at h
  split at h
  · cases int_at rx
    cases h
    exact ⟨_, rfl, ans ok k fun _ _ => .int _⟩
  · cases h
def cmpD (p : Int → Int → Bool) (_ : Store) (x y : D) : Option Slot := match x, y with
  | .int i, .int j => some (.val (.bl (p i j)))
  | _, _ => none
theorem p_cmp (p : Int → Int → Bool) : Prim2 K (rI0 fun i j => .bl (p i j)) (cmpD p) := by
  intro w vx vy x y s Q ok rx ry h k
  unfold cmpD at h
  split at h
  · cases int_at rx
    cases int_at ry
    cases h
    exact ⟨_, _, rfl, rfl, ans ok k fun _ _ => .bl _⟩
  · cases h
mutual
def eqvD : D → D → Bool
  | .non, .non => true
  | .bl a, .bl b => a == b
  | .bl a, .int j => (if a then 1 else 0) == j
  | .int i, .bl b => i == (if b then 1 else 0)
  | .int i, .int j => i == j
  | .str x, .str y => x == y
  | .lst xs, .lst ys => eqvL xs ys
  | .tup xs, .tup ys => eqvL xs ys
  | _, _ => false
def eqvL : List D → List D → Bool
  | [], [] => true
  | x :: xs, y :: ys => eqvD x y && eqvL xs ys
  | _, _ => false
end
mutual
def goodD : D → Bool
  | .non => true
  | .bl _ => true
  | .int _ => true
  | .str x => x.cps.all (· < 0x110000)
  | .lst xs => goodL xs
  | .tup xs => goodL xs
  | .fro _ => false
  | .kt _ => false
  | .fn _ => false
  | .ref _ => false
def goodL : List D → Bool
  | [] => true
  | x :: xs => goodD x && goodL xs
end
mutual
def dpD : D → Nat
  | .lst xs => dpL xs + 1
  | .tup xs => dpL xs + 1
  | _ => 0
def dpL : List D → Nat
  | [] => 0
  | x :: xs => max (dpD x) (dpL xs)
end
mutual
def toPy : D → PyData
  | .non => .none
  | .bl b => .bool b
  | .int i => .int i
  | .str x => .str x
  | .lst xs => .list (toPyL xs)
  | .tup xs => .tuple (toPyL xs)
  | .fro _ => .none
  | .kt _ => .none
  | .fn _ => .none
  | .ref _ => .none
def toPyL : List D → List PyData
  | [] => []
  | x :: xs => toPy x :: toPyL xs
end
mutual
theorem eqv_py : ∀ x y : D, goodD x = true → goodD y = true → PyData.eqv (toPy x) (toPy y) = eqvD x y
  | .non, y, _, hy => by cases y <;> first | (simp [goodD] at hy; done) | simp [toPy, PyData.eqv, eqvD]
  | .bl _, y, _, hy => by cases y <;> first | (simp [goodD] at hy; done) | simp [toPy, PyData.eqv, eqvD]
  | .int _, y, _, hy => by cases y <;> first | (simp [goodD] at hy; done) | simp [toPy, PyData.eqv, eqvD]
  | .str _, y, _, hy => by cases y <;> first | (simp [goodD] at hy; done) | simp [toPy, PyData.eqv, eqvD]
  | .lst xs, y, hx, hy => by
    cases y with
    | lst ys =>
      simp only [toPy, PyData.eqv, eqvD]
      exact eqvL_py xs ys (by simpa [goodD] using hx) (by simpa [goodD] using hy)
    | _ => first | (simp [goodD] at hy; done) | simp [toPy, PyData.eqv, eqvD]
  | .tup xs, y, hx, hy => by
    cases y with
    | tup ys =>
      simp only [toPy, PyData.eqv, eqvD]
      exact eqvL_py xs ys (by simpa [goodD] using hx) (by simpa [goodD] using hy)
    | _ => first | (simp [goodD] at hy; done) | simp [toPy, PyData.eqv, eqvD]
  | .fro _, _, hx, _ => by simp [goodD] at hx
  | .kt _, _, hx, _ => by simp [goodD] at hx
  | .fn _, _, hx, _ => by simp [goodD] at hx
  | .ref _, _, hx, _ => by simp [goodD] at hx
theorem eqvL_py : ∀ xs ys : List D, goodL xs = true → goodL ys = true → PyData.eqvAll (toPyL xs) (toPyL ys) = eqvL xs ys
  | [], [], _, _ => by simp [toPyL, PyData.eqvAll, eqvL]
  | [], _ :: _, _, _ => by simp [toPyL, PyData.eqvAll, eqvL]
  | _ :: _, [], _, _ => by simp [toPyL, PyData.eqvAll, eqvL]
  | x :: xs, y :: ys, hx, hy => by
    simp only [goodL, Bool.and_eq_true] at hx hy
    simp only [toPyL, PyData.eqvAll, eqvL, eqv_py x y hx.1 hy.1, eqvL_py xs ys hx.2 hy.2]
end
mutual
theorem lay_py : ∀ x : D, goodD x = true → (toPy x).canLay0 = true
  | .non, _ => by simp [toPy, PyData.canLay0]
  | .bl _, _ => by simp [toPy, PyData.canLay0]
  | .int _, _ => by simp [toPy, PyData.canLay0]
  | .str x, h => by simpa [toPy, PyData.canLay0, PyData.strOk, goodD] using h
  | .lst xs, h => by simp only [toPy, PyData.canLay0]; exact layL_py xs (by simpa [goodD] using h)
  | .tup xs, h => by simp only [toPy, PyData.canLay0]; exact layL_py xs (by simpa [goodD] using h)
  | .fro _, h => by simp [goodD] at h
  | .kt _, h => by simp [goodD] at h
  | .fn _, h => by simp [goodD] at h
  | .ref _, h => by simp [goodD] at h
theorem layL_py : ∀ xs : List D, goodL xs = true → PyData.canLayAll0 (toPyL xs) = true
  | [], _ => by simp [toPyL, PyData.canLayAll0]
  | x :: xs, h => by
    simp only [goodL, Bool.and_eq_true] at h
    simp only [toPyL, PyData.canLayAll0, lay_py x h.1, layL_py xs h.2, Bool.and_self]
end
mutual
theorem dp_py : ∀ x : D, goodD x = true → (toPy x).depth = dpD x
  | .non, _ => by simp [toPy, PyData.depth, dpD]
  | .bl _, _ => by simp [toPy, PyData.depth, dpD]
  | .int _, _ => by simp [toPy, PyData.depth, dpD]
  | .str x, h => by simp [toPy, PyData.depth, dpD]
  | .lst xs, h => by simp only [toPy, PyData.depth, dpD]; rw [dpL_py xs (by simpa [goodD] using h)]
  | .tup xs, h => by simp only [toPy, PyData.depth, dpD]; rw [dpL_py xs (by simpa [goodD] using h)]
  | .fro _, h => by simp [goodD] at h
  | .kt _, h => by simp [goodD] at h
  | .fn _, h => by simp [goodD] at h
  | .ref _, h => by simp [goodD] at h
theorem dpL_py : ∀ xs : List D, goodL xs = true → PyData.depthAll (toPyL xs) = dpL xs
  | [], _ => by simp [toPyL, PyData.depthAll, dpL]
  | x :: xs, h => by
    simp only [goodL, Bool.and_eq_true] at h
    simp only [toPyL, PyData.depthAll, dpL, dp_py x h.1, dpL_py xs h.2]
end
mutual
theorem Rep.dp {A : List Addr} {G H : Hp} (sub : Same G H) : ∀ (d : D) (v : V), Rep K A G v d → goodD d = true → Dp K H v (toPy d)
  | .non, _, h, _ => by cases h; simp only [toPy]; exact .non
  | .bl b, _, h, _ => by cases h; simp only [toPy]; exact .bl b
  | .int i, _, h, _ => by cases h; simp only [toPy]; exact .int i
  | .str x, _, h, _ => by cases h; simp only [toPy]; exact .str x
  | .tup ds, _, h, g => by
    cases h with
    | tup hs hr =>
      simp only [toPy]
      exact .tup (.inl ((hs.mono sub).rd)) (RepL.dp sub ds _ hr (by simpa [goodD] using g))
  | .lst ds, _, h, g => by
    cases h with
    | lst hs hr =>
      simp only [toPy]
      exact .lst (.inl (.inl (sub _ _ hs))) (RepL.dp sub ds _ hr (by simpa [goodD] using g))
  | .fro ds, _, h, g => by simp [goodD] at g
  | .kt ds, _, h, g => by simp [goodD] at g
  | .fn c, _, h, g => by simp [goodD] at g
  | .ref k, _, h, g => by simp [goodD] at g
theorem RepL.dp {A : List Addr} {G H : Hp} (sub : Same G H) : ∀ (ds : List D) (vs : List V), RepL K A G vs ds → goodL ds = true → DpAll K H vs (toPyL ds)
  | [], _, h, _ => by cases h; simp only [toPyL]; exact .nil
  | d :: ds, _, h, g => by
    simp only [goodL, Bool.and_eq_true] at g
    cases h with
    | cons h1 h2 =>
      simp only [toPyL]
      exact .cons (Rep.dp sub d _ h1 g.1) (RepL.dp sub ds _ h2 g.2)
end
mutual
def mapR (f : Nat → D) : D → D
  | .tup xs => .tup (mapRL f xs)
  | .lst xs => .lst (mapRL f xs)
  | .ref k => f k
  | .non => .non
  | .bl b => .bl b
  | .int i => .int i
  | .str x => .str x
  | .fro xs => .fro xs
  | .kt xs => .kt xs
  | .fn c => .fn c
def mapRL (f : Nat → D) : List D → List D
  | [] => []
  | x :: xs => mapR f x :: mapRL f xs
end
def dd : Nat → Store → D → D
  | 0, _, x => x
  | n + 1, M, x => mapR (fun k => match M[k]? with
    | some (.lst ds) => .lst (ds.map (dd n M))
    | _ => .ref k) x
def derD (M : Store) (x : D) : D := dd 3 M x
mutual
theorem mapR_good {f : Nat → D} : ∀ x : D, goodD x = true → mapR f x = x
  | .non, _ => by simp only [mapR]
  | .bl _, _ => by simp only [mapR]
  | .int _, _ => by simp only [mapR]
  | .str _, _ => by simp only [mapR]
  | .lst xs, h => by simp only [mapR]; rw [mapRL_good xs (by simpa [goodD] using h)]
  | .tup xs, h => by simp only [mapR]; rw [mapRL_good xs (by simpa [goodD] using h)]
  | .fro _, h => by simp [goodD] at h
  | .kt _, h => by simp [goodD] at h
  | .fn _, h => by simp [goodD] at h
  | .ref _, h => by simp [goodD] at h
theorem mapRL_good {f : Nat → D} : ∀ xs : List D, goodL xs = true → mapRL f xs = xs
  | [], _ => by simp only [mapRL]
  | x :: xs, h => by
    simp only [goodL, Bool.and_eq_true] at h
    simp only [mapRL, mapR_good x h.1, mapRL_good xs h.2]
end
theorem der_good (M : Store) {x : D} (h : goodD x = true) : derD M x = x := by
  unfold derD dd
  exact mapR_good x h
mutual
theorem Rep.mapR {A : List Addr} {G H : Hp} (sub : Same G H) {f : Nat → D} (hf : ∀ k v, Rep K A G v (.ref k) → goodD (f k) = true → Dp K H v (toPy (f k))) : ∀ (d : D) (v : V), Rep K A G v d → goodD (TP.mapR f d) = true → Dp K H v (toPy (TP.mapR f d))
  | .non, _, h, _ => by cases h; simp only [TP.mapR, toPy]; exact .non
  | .bl b, _, h, _ => by cases h; simp only [TP.mapR, toPy]; exact .bl b
  | .int i, _, h, _ => by cases h; simp only [TP.mapR, toPy]; exact .int i
  | .str x, _, h, _ => by cases h; simp only [TP.mapR, toPy]; exact .str x
  | .tup ds, _, h, g => by
    cases h with
    | tup hs hr =>
      simp only [TP.mapR, toPy]
      simp only [TP.mapR, goodD] at g
      exact .tup (.inl ((hs.mono sub).rd)) (RepL.mapR sub hf ds _ hr g)
  | .lst ds, _, h, g => by
    cases h with
    | lst hs hr =>
      simp only [TP.mapR, toPy]
      simp only [TP.mapR, goodD] at g
      exact .lst (.inl (.inl (sub _ _ hs))) (RepL.mapR sub hf ds _ hr g)
  | .fro ds, _, h, g => by simp [TP.mapR, goodD] at g
  | .kt ds, _, h, g => by simp [TP.mapR, goodD] at g
  | .fn c, _, h, g => by simp [TP.mapR, goodD] at g
  | .ref k, v, h, g => by
    simp only [TP.mapR] at g ⊢
    exact hf k v h g
theorem RepL.mapR {A : List Addr} {G H : Hp} (sub : Same G H) {f : Nat → D} (hf : ∀ k v, Rep K A G v (.ref k) → goodD (f k) = true → Dp K H v (toPy (f k))) : ∀ (ds : List D) (vs : List V), RepL K A G vs ds → goodL (mapRL f ds) = true → DpAll K H vs (toPyL (mapRL f ds))
  | [], _, h, _ => by cases h; simp only [mapRL, toPyL]; exact .nil
  | d :: ds, _, h, g => by
    simp only [mapRL, goodL, Bool.and_eq_true] at g
    cases h with
    | cons h1 h2 =>
      simp only [mapRL, toPyL]
      exact .cons (Rep.mapR sub hf d _ h1 g.1) (RepL.mapR sub hf ds _ h2 g.2)
end
theorem RepL.each {w : Wd} {g : D → D} (hg : ∀ d v, Rep K w.A w.G v d → goodD (g d) = true → Dp K w.H v (toPy (g d))) : ∀ (ds : List D) (vs : List V), RepL K w.A w.G vs ds → goodL (ds.map g) = true → DpAll K w.H vs (toPyL (ds.map g))
  | [], _, h, _ => by cases h; exact .nil
  | d :: ds, _, h, z => by
    rw [List.map_cons] at z ⊢
    simp only [goodL, Bool.and_eq_true] at z
    cases h with
    | cons h1 h2 =>
      simp only [toPyL]
      exact .cons (hg d _ h1 z.1) (RepL.each hg ds _ h2 z.2)
theorem Rep.dd {w : Wd} (ok : w.Ok K) : ∀ (n : Nat) (d : D) (v : V), Rep K w.A w.G v d → goodD (TP.dd n w.M d) = true → Dp K w.H v (toPy (TP.dd n w.M d))
  | 0, d, v, r, g => by
    unfold TP.dd at g ⊢
    exact Rep.dp ok.sub d v r g
  | n + 1, d, v, r, g => by
    unfold TP.dd at g ⊢
    refine Rep.mapR ok.sub (fun k v r g => ?_) d v r g
    cases r with
    | @ref a k ek =>
      split at g
      · rename_i ds e2
        obtain ⟨a', e3, vs, h1, h2⟩ := ok.mos k _ e2
        rw [ek] at e3; cases e3
        simp only [toPy]
        simp only [goodD] at g
        exact .lst (.inl (.inl h1)) (RepL.each (fun d v r g => Rep.dd ok n d v r g) ds _ h2 g)
      · simp [goodD] at g
theorem RepB.dp {w : Wd} (ok : w.Ok K) {v : V} {x : D} (r : RepB K w v x) (g : goodD (derD w.M x) = true) : Dp K w.H v (toPy (derD w.M x)) := by
  rcases r with r | ⟨p, vs, ds, rfl, rfl, h1, _, _, h4⟩
  · exact Rep.dd ok 3 x v r g
  · unfold derD TP.dd at g ⊢
    simp only [TP.mapR, toPy]
    simp only [TP.mapR, goodD] at g
    refine .lst (.inl (.inl h1)) (RepL.mapR ok.sub (fun k v r g => ?_) ds _ h4 g)
    have r3 := Rep.dd ok 3 (.ref k) v r
    unfold TP.dd at r3
    simp only [TP.mapR] at r3
    exact r3 g
def strP : D → D → Option Bool
  | .str i, .str j => some (decide (i = j))
  | _, _ => none
def rEqW (K : PySem.W.Frag) : R2 := fun x y H Q => (∃ i j, x = .str i ∧ y = .str j ∧ Q (.bl (decide (i = j))) H) ∨ ∃ d e, Dp K H x d ∧ Dp K H y e ∧ d.canLay0 = true ∧ e.canLay0 = true ∧ min d.depth e.depth ≤ 190 ∧ Q (.bl (PyData.eqv d e)) H
def rNeW (K : PySem.W.Frag) : R2 := fun x y H Q => (∃ i j, x = .str i ∧ y = .str j ∧ Q (.bl (!decide (i = j))) H) ∨ ∃ d e, Dp K H x d ∧ Dp K H y e ∧ d.canLay0 = true ∧ e.canLay0 = true ∧ min d.depth e.depth ≤ 190 ∧ Q (.bl (!PyData.eqv d e)) H
theorem op_eqW (hu : X.A.units + 200 < cLine) : OpR X (compareOp .Eq) (rEqW X.K) := by
  intro pins s σ H x y v u Q I rx ry h
  rcases h with ⟨i, j, rfl, rfl, q⟩ | h
  · refine op_eq pins s σ H (.str i) (.str j) v u Q I rx ry ⟨rfl, ?_⟩
    rw [show decide (V.str i = V.str j) = decide (i = j) by rw [Bool.eq_iff_iff]; simp]
    exact q
  obtain ⟨d, e, hd, he, sd, se, hm, q⟩ := h
  obtain ⟨as, r1⟩ := Dp.reads I d x v hd rx
  obtain ⟨bs, r2⟩ := Dp.reads I e y u he ry
  exact SeqAt.compareEq_reads r1 r2 sd se (by omega) ⟨.bl _, H, I, rfl, q⟩
theorem op_neW (hu : X.A.units + 200 < cLine) : OpR X (compareOp .NotEq) (rNeW X.K) := by
  intro pins s σ H x y v u Q I rx ry h
  rcases h with ⟨i, j, rfl, rfl, q⟩ | h
  · refine op_ne pins s σ H (.str i) (.str j) v u Q I rx ry ⟨rfl, ?_⟩
    rw [show decide (V.str i = V.str j) = decide (i = j) by rw [Bool.eq_iff_iff]; simp]
    exact q
  obtain ⟨d, e, hd, he, sd, se, hm, q⟩ := h
  obtain ⟨as, r1⟩ := Dp.reads I d x v hd rx
  obtain ⟨bs, r2⟩ := Dp.reads I e y u he ry
  exact SeqAt.compareNe_reads r1 r2 sd se (by omega) ⟨.bl _, H, I, rfl, q⟩
def eqD (M : Store) (x y : D) : Option Slot := match strP x y with
  | some b => some (.val (.bl b))
  | none => if goodD (derD M x) && goodD (derD M y) && decide (min (dpD (derD M x)) (dpD (derD M y)) ≤ 190) then some (.val (.bl (eqvD (derD M x) (derD M y)))) else none
def neD (M : Store) (x y : D) : Option Slot := match strP x y with
  | some b => some (.val (.bl !b))
  | none => if goodD (derD M x) && goodD (derD M y) && decide (min (dpD (derD M x)) (dpD (derD M y)) ≤ 190) then some (.val (.bl (!eqvD (derD M x) (derD M y)))) else none
theorem strP_at {x y : D} {b : Bool} (h : strP x y = some b) : ∃ i j, x = .str i ∧ y = .str j ∧ b = decide (i = j) := by
  unfold strP at h
  split at h
  · cases h; exact ⟨_, _, rfl, rfl, rfl⟩
  · cases h
theorem p_eq : Prim2 K (rEqW K) eqD := by
  intro w vx vy x y s Q ok rx ry h k
  unfold eqD at h
  split at h
  · rename_i b hb
    obtain ⟨i, j, rfl, rfl, rfl⟩ := strP_at hb
    cases h
    cases str_at rx
    cases str_at ry
    exact .inl ⟨i, j, rfl, rfl, ans ok k fun _ _ => .bl _⟩
  split at h
  · rename_i hc
    simp only [Bool.and_eq_true, decide_eq_true_eq] at hc
    obtain ⟨⟨h1, h2⟩, h3⟩ := hc
    cases h
    refine .inr ⟨_, _, rx.dp ok h1, ry.dp ok h2, lay_py _ h1, lay_py _ h2, by rw [dp_py _ h1, dp_py _ h2]; exact h3, ?_⟩
    rw [eqv_py _ _ h1 h2]
    exact ans ok k fun _ _ => .bl _
  · cases h
theorem p_ne : Prim2 K (rNeW K) neD := by
  intro w vx vy x y s Q ok rx ry h k
  unfold neD at h
  split at h
  · rename_i b hb
    obtain ⟨i, j, rfl, rfl, rfl⟩ := strP_at hb
    cases h
    cases str_at rx
    cases str_at ry
    exact .inl ⟨i, j, rfl, rfl, ans ok k fun _ _ => .bl _⟩
  split at h
  · rename_i hc
    simp only [Bool.and_eq_true, decide_eq_true_eq] at hc
    obtain ⟨⟨h1, h2⟩, h3⟩ := hc
    cases h
    refine .inr ⟨_, _, rx.dp ok h1, ry.dp ok h2, lay_py _ h1, lay_py _ h2, by rw [dp_py _ h1, dp_py _ h2]; exact h3, ?_⟩
    rw [eqv_py _ _ h1 h2]
    exact ans ok k fun _ _ => .bl _
  · cases h
def isD (_ : Store) (x y : D) : Option Slot := match x, y with
  | .non, .non => some (.val (.bl true))
  | _, .non => some (.val (.bl false))
  | .bl a, .bl b => some (.val (.bl (decide (a = b))))
  | _, _ => none
def isntD (_ : Store) (x y : D) : Option Slot := match x, y with
  | .non, .non => some (.val (.bl false))
  | _, .non => some (.val (.bl true))
  | .bl a, .bl b => some (.val (.bl (!decide (a = b))))
  | _, _ => none
def rIsA : R2 := fun x y H Q => (y = .non ∧ Q (.bl (decide (x = .non))) H) ∨ rIsB x y H Q
def rIsntA : R2 := fun x y H Q => (y = .non ∧ Q (.bl (!decide (x = .non))) H) ∨ rNotB x y H Q
theorem op_isA : OpR X (compareOp .Is) rIsA := op_isN.or op_isBl
theorem op_isntA : OpR X (compareOp .IsNot) rIsntA := op_notN.or op_notBl
theorem non_iff {w : Wd} {v : V} {x : D} (r : RepB K w v x) (h : x ≠ .non) : v ≠ .non := fun e => by
  subst e
  rcases r with r | ⟨p, _, _, e, _⟩
  · cases r; exact h rfl
  · cases e
theorem p_is : Prim2 K rIsA isD := by
  intro w vx vy x y s Q ok rx ry h k
  unfold isD at h
  split at h
  · cases h
    cases non_at rx
    cases non_at ry
    exact .inl ⟨rfl, ans ok k fun _ _ => .bl _⟩
  · rename_i hx
    cases h
    cases non_at ry
    refine .inl ⟨rfl, ?_⟩
    rw [decide_eq_false (non_iff rx (fun e => hx e))]
    exact ans ok k fun _ _ => .bl _
  · cases h
    cases bl_at rx
    cases bl_at ry
    exact .inr ⟨_, _, rfl, rfl, ans ok k fun _ _ => .bl _⟩
  · cases h
theorem p_isnt : Prim2 K rIsntA isntD := by
  intro w vx vy x y s Q ok rx ry h k
  unfold isntD at h
  split at h
  · cases h
    cases non_at rx
    cases non_at ry
    exact .inl ⟨rfl, ans ok k fun _ _ => .bl _⟩
  · rename_i hx
    cases h
    cases non_at ry
    refine .inl ⟨rfl, ?_⟩
    rw [decide_eq_false (non_iff rx (fun e => hx e))]
    exact ans ok k fun _ _ => .bl _
  · cases h
    cases bl_at rx
    cases bl_at ry
    exact .inr ⟨_, _, rfl, rfl, ans ok k fun _ _ => .bl _⟩
  · cases h
end
end TP
namespace TP
open PySem PySem.Spec PyProof.Rows L2
section
variable {K : PySem.W.Frag} {E : Wish} {X : Cx} {e : Expr}
def idxD (M : Store) (x y : D) : Option Slot := match x, y with
  | .tup ds, .int i => (atI ds i).map Slot.val
  | .kt ds, .int i => (atI ds i).map Slot.val
  | .str z, .int i => if z.length ≤ sizeLine then (atI z.cps.toList i).map fun c => .val (.str ⟨#[c]⟩) else none
  | x, .int i => match seqOf M x with
    | some ds => (atI ds i).map Slot.val
    | none => none
  | _, _ => none
theorem RepL.atI {A : List Addr} {G : Hp} {vs : List V} {ds : List D} {i : Int} {d : D} (h : RepL K A G vs ds) (e : atI ds i = some d) : ∃ v, L2.atI vs i = some v ∧ Rep K A G v d := by
  unfold L2.atI at e ⊢
  rw [h.length]
  cases q : ixN ds.length i with
  | none => rw [q] at e; cases e
  | some j => rw [q] at e; exact h.get e
theorem p_idx : Prim2 K (rIx K) idxD := by
  intro w vx vy x y s Q ok rx ry h k
  unfold idxD at h
  split at h
  · rename_i ds i
    cases q : L2.atI ds i with
    | none => rw [q] at h; cases h
    | some d =>
      rw [q] at h
      cases h
      obtain ⟨p, vs, rfl, hs, rl⟩ := tup_at ok rx
      cases int_at ry
      obtain ⟨v, hv, rv⟩ := rl.atI q
      exact .inr (.inl ⟨p, vs, i, v, rfl, rfl, hs, hv, k v w (Step.refl ok) rfl rv⟩)
  · rename_i ds i
    cases q : L2.atI ds i with
    | none => rw [q] at h; cases h
    | some d =>
      rw [q] at h
      cases h
      obtain ⟨p, vs, rfl, hs, rl⟩ := kt_at ok rx
      cases int_at ry
      obtain ⟨v, hv, rv⟩ := rl.atI q
      exact .inr (.inl ⟨p, vs, i, v, rfl, rfl, hs, hv, k v w (Step.refl ok) rfl rv⟩)
  · split at h
    · rename_i z i hz
      cases q : L2.atI z.cps.toList i with
      | none => rw [q] at h; cases h
      | some c =>
        rw [q] at h
        cases h
        cases str_at rx
        cases int_at ry
        exact .inr (.inr ⟨z, i, c, rfl, rfl, hz, q, ans ok k fun _ _ => .str _⟩)
    · cases h
  · rename_i i _ _ _
    split at h
    · rename_i ds e1
      cases q : L2.atI ds i with
      | none => rw [q] at h; cases h
      | some d =>
        rw [q] at h
        cases h
        obtain ⟨p, vs, rfl, hs, rl⟩ := seq_at ok rx e1
        cases int_at ry
        obtain ⟨v, hv, rv⟩ := rl.atI q
        exact .inl ⟨p, vs, i, v, rfl, rfl, hs, hv, k v w (Step.refl ok) rfl rv⟩
    · cases h
  · cases h
theorem x_ix {fa fb : FD} (h : PE X e (tOp (rIx K) (tR K E fa) (tR K E fb))) : PE X e (tE K E (dOp2 idxD fa fb)) := x_op2 h p_idx
def cutD (xs : List D) (lo hi : Option Int) : List D := (xs.drop (HT.sIx xs.length 0 lo)).take (HT.sIx xs.length xs.length hi - HT.sIx xs.length 0 lo)
theorem RepL.cut {A : List Addr} {G : Hp} {vs : List V} {ds : List D} (h : RepL K A G vs ds) (lo hi : Option Int) : RepL K A G (cutV vs lo hi) (cutD ds lo hi) := by
  unfold cutV cutD
  rw [h.length]
  exact (h.drop _).take _
def slD (M : Store) (x : D) (lo hi : Option Int) : Option Slot := match x with
  | .tup ds => some (.val (.tup (cutD ds lo hi)))
  | .str z => if z.length ≤ sizeLine then some (.val (.str (cutS z lo hi))) else none
  | x => match seqOf M x with
    | some ds => some (.own (cutD ds lo hi))
    | none => none
def rSlX (K : PySem.W.Frag) : V → Option Int → Option Int → Hp → VK → Prop := fun x lo hi H Q => ∃ a xs, x = .ref a ∧ SqT K H a xs ∧
  (HT.sIx xs.length 0 lo = 0 ∧ HT.sIx xs.length xs.length hi = xs.length → Q (.ref a) H) ∧ (¬ (HT.sIx xs.length 0 lo = 0 ∧ HT.sIx xs.length xs.length hi = xs.length) → NewT H (cutV xs lo hi) Q)
open PySem.Spec PyProof.Rows in
theorem sl_tupX : SlR X (rSlX X.K) := by
  intro pins s σ H x v vl vu lo hi sl Q I rx hs pl pu h
  obtain ⟨a, xs, rfl, hx, q1, q2⟩ := h
  by_cases hw : HT.sIx xs.length 0 lo = 0 ∧ HT.sIx xs.length xs.length hi = xs.length
  · exact sl_tupA pins s σ H (.ref a) v vl vu lo hi sl Q I rx hs pl pu ⟨a, xs, rfl, hx, q1, fun z => absurd hw z⟩
  · cases rx
    obtain ⟨its, r, ht, hz⟩ := I.tuple hx
    have hlen : its.toArray.size = xs.length := by rw [List.size_toArray]; exact r.length.symm
    refine ⟨"tuple", _, PyProof.Rows.slot_tuple_getitem.lookup, ht.typeIs, ?_⟩
    refine HT.getItem_tuple_cut ht hs pl pu (by rw [hlen]; exact hw) ?_ (by rw [hlen]; exact hz)
    rw [hlen]
    exact (q2 hw).ep (t' := s.toks) I ((r.drop (HT.sIx xs.length 0 lo)).take (HT.sIx xs.length xs.length hi - HT.sIx xs.length 0 lo)) (Nat.le_trans (cutV_length xs lo hi) hz) (fun b ob q => Heap.get?_push_of_some _ q) (Nat.le_refl _) (Heap.get?_push_size _ rfl)
def rSlA3 (K : PySem.W.Frag) : V → Option Int → Option Int → Hp → VK → Prop := fun x lo hi H Q => rSlX K x lo hi H Q ∨ rSlS x lo hi H Q ∨ rSlL K x lo hi H Q
theorem sl_A3 : SlR X (rSlA3 X.K) := sl_tupX.or (sl_str.or sl_list)
theorem p_sl : PrimS K (rSlA3 K) slD := by
  intro w vx x lo hi s Q ok rx h k
  unfold slD at h
  split at h
  · rename_i ds
    cases h
    obtain ⟨p, vs, rfl, hs, rl⟩ := tup_at ok rx
    refine .inl ⟨p, vs, rfl, hs, fun hw => ?_, fun _ => ?_⟩
    · have e : cutD ds lo hi = ds := by
        unfold cutD
        rw [← rl.length, hw.1, hw.2, List.drop_zero, Nat.sub_zero, rl.length, List.take_length]
      rw [e] at k
      rcases rx with rx | ⟨_, _, _, _, e, _⟩
      · exact k _ w (Step.refl ok) rfl rx
      · cases e
    · exact newT ok (rl.cut lo hi) fun w' st eM v rv => k v w' st eM rv
  · split at h
    · rename_i hz
      cases h
      cases str_at rx
      exact .inr (.inl ⟨_, rfl, hz, ans ok k fun _ _ => .str _⟩)
    · cases h
  · split at h
    · rename_i e1
      cases h
      obtain ⟨p, vs, rfl, hs, rl⟩ := seq_at ok rx e1
      refine .inr (.inr ⟨p, vs, rfl, hs, fun q hq => ?_⟩)
      exact k _ _ (ok.fresh0 hq _) rfl (own_new (Step.refl ok) hq (rl.cut lo hi))
    · cases h
def flatD : D → Bool
  | .non => true
  | .bl _ => true
  | .int _ => true
  | .str _ => true
  | _ => false
def elemsD (M : Store) : D → Option (List D)
  | .tup ds => some ds
  | .kt ds => some ds
  | x => seqOf M x
theorem elems_at {w : Wd} (ok : w.Ok K) {v : V} {x : D} {ds : List D} (r : RepB K w v x) (h : elemsD w.M x = some ds) : ∃ p vs, v = .ref p ∧ (SqL K w.H p vs ∨ SqT K w.H p vs) ∧ RepL K w.A w.G vs ds := by
  by_cases hf : ∃ es, x = .tup es
  · obtain ⟨es, rfl⟩ := hf
    cases h
    obtain ⟨p, vs, e, h1, h2⟩ := tup_at ok r
    exact ⟨p, vs, e, .inr h1, h2⟩
  by_cases hk : ∃ es, x = .kt es
  · obtain ⟨es, rfl⟩ := hk
    cases h
    obtain ⟨p, vs, e, h1, h2⟩ := kt_at ok r
    exact ⟨p, vs, e, .inr h1, h2⟩
  · have h' : seqOf w.M x = some ds := by
      cases x <;> first | exact h | exact absurd ⟨_, rfl⟩ hf | exact absurd ⟨_, rfl⟩ hk
    obtain ⟨p, vs, e, h1, h2⟩ := seq_at ok r h'
    exact ⟨p, vs, e, .inl h1, h2⟩
def inStr (i j : Str) : Bool := !(Builtin.Str.occurrences j i 0 j.length 1).isEmpty
def inD (M : Store) (x y : D) : Option Slot := match x, y with
  | .str i, .str j => some (.val (.bl (inStr i j)))
  | x, y => match elemsD M y with
    | some ds => if flatD x && ds.all flatD then some (.val (.bl (ds.any fun d => eqvD d x))) else none
    | none => none
def notInD (M : Store) (x y : D) : Option Slot := match x, y with
  | .str i, .str j => some (.val (.bl (!inStr i j)))
  | x, y => match elemsD M y with
    | some ds => if flatD x && ds.all flatD then some (.val (.bl (!ds.any fun d => eqvD d x))) else none
    | none => none
def rInA (K : PySem.W.Frag) : R2 := fun x y H Q => (∃ i j, x = .str i ∧ y = .str j ∧ Q (.bl (!(Builtin.Str.occurrences j i 0 j.length 1).isEmpty)) H) ∨ rIn K false x y H Q
def rNotInA (K : PySem.W.Frag) : R2 := fun x y H Q => (∃ i j, x = .str i ∧ y = .str j ∧ Q (.bl (!(!(Builtin.Str.occurrences j i 0 j.length 1).isEmpty))) H) ∨ rIn K true x y H Q
theorem op_inA : OpR X (compareOp .In) (rInA X.K) := op_in_str.or op_in_seq
theorem op_notInA : OpR X (compareOp .NotIn) (rNotInA X.K) := op_notin_str.or op_notIn_seq
theorem flat_at {A : List Addr} {G : Hp} {v : V} {d : D} (r : Rep K A G v d) (h : flatD d = true) : flatV v = true ∧ ∀ {v' : V} {d' : D}, Rep K A G v' d' → flatD d' = true → eqV v v' = eqvD d d' := by
  cases r with
  | non => exact ⟨rfl, fun r' h' => by cases r' <;> first | (cases h'; done) | simp [eqV, eqvD]⟩
  | bl b => exact ⟨rfl, fun r' h' => by cases r' <;> first | (cases h'; done) | simp [eqV, eqvD]⟩
  | int i => exact ⟨rfl, fun r' h' => by cases r' <;> first | (cases h'; done) | simp [eqV, eqvD]⟩
  | str z => exact ⟨rfl, fun r' h' => by cases r' <;> first | (cases h'; done) | simp [eqV, eqvD]⟩
  | _ => cases h
theorem flats_at {A : List Addr} {G : Hp} {v : V} {d : D} (r : Rep K A G v d) (h : flatD d = true) : ∀ {vs : List V} {ds : List D}, RepL K A G vs ds → ds.all flatD = true → vs.all flatV = true ∧ inV v vs = ds.any fun z => eqvD z d
  | [], [], _, _ => ⟨rfl, rfl⟩
  | v1 :: vs, d1 :: ds, .cons r1 rl, hs => by
    simp only [List.all_cons, Bool.and_eq_true] at hs
    obtain ⟨a, b⟩ := flats_at r h rl hs.2
    obtain ⟨c, f⟩ := flat_at r1 hs.1
    refine ⟨by simp only [List.all_cons, c, a, Bool.and_self], ?_⟩
    unfold inV at b ⊢
    rw [List.any_cons, List.any_cons, b, f r h]
theorem flatB {w : Wd} {v : V} {x : D} (r : RepB K w v x) (h : flatD x = true) : Rep K w.A w.G v x := by
  rcases r with r | ⟨_, _, _, _, rfl, _⟩
  · exact r
  · cases h
theorem p_in : Prim2 K (rInA K) inD := by
  intro w vx vy x y s Q ok rx ry h k
  unfold inD at h
  split at h
  · cases h
    cases str_at rx
    cases str_at ry
    exact .inl ⟨_, _, rfl, rfl, ans ok k fun _ _ => .bl _⟩
  · split at h
    · rename_i ds e1
      split at h
      · rename_i hc
        simp only [Bool.and_eq_true] at hc
        cases h
        obtain ⟨p, vs, rfl, hs, rl⟩ := elems_at ok ry e1
        have r := flatB rx hc.1
        obtain ⟨a, b⟩ := flats_at r hc.1 rl hc.2
        refine .inr ⟨p, vs, rfl, hs, (flat_at r hc.1).1, a, ?_⟩
        rw [b]
        exact ans ok k fun _ _ => .bl _
      · cases h
    · cases h
theorem p_notIn : Prim2 K (rNotInA K) notInD := by
  intro w vx vy x y s Q ok rx ry h k
  unfold notInD at h
  split at h
  · cases h
    cases str_at rx
    cases str_at ry
    exact .inl ⟨_, _, rfl, rfl, ans ok k fun _ _ => .bl _⟩
  · split at h
    · rename_i ds e1
      split at h
      · rename_i hc
        simp only [Bool.and_eq_true] at hc
        cases h
        obtain ⟨p, vs, rfl, hs, rl⟩ := elems_at ok ry e1
        have r := flatB rx hc.1
        obtain ⟨a, b⟩ := flats_at r hc.1 rl hc.2
        refine .inr ⟨p, vs, rfl, hs, (flat_at r hc.1).1, a, ?_⟩
        rw [b]
        exact ans ok k fun _ _ => .bl _
      · cases h
    · cases h
def lenD (M : Store) (ds : List D) : Option Slot := match ds with
  | [.str z] => if z.length ≤ sizeLine then some (.val (.int z.length)) else none
  | [x] => match elemsD M x with
    | some es => some (.val (.int es.length))
    | none => none
  | _ => none
def rLenA (K : PySem.W.Frag) : List V → Hp → VK → Prop := fun xs H Q => (∃ p ys, xs = [.ref p] ∧ (SqL K H p ys ∨ SqT K H p ys) ∧ Q (.int ys.length) H) ∨ ∃ z, xs = [.str z] ∧ z.length ≤ sizeLine ∧ Q (.int z.length) H
theorem call_lenA : CallR X (.builtin "len") (rLenA X.K) := call_len_seq.or call_len_str
theorem p_len : PrimN K (rLenA K) lenD := by
  intro w vs ds s Q ok rl h k
  unfold lenD at h
  split at h
  · split at h
    · rename_i hz
      cases h
      obtain ⟨v, rfl, rv⟩ := rl.one
      cases str_at rv
      exact .inr ⟨_, rfl, hz, ans ok k fun _ _ => .int _⟩
    · cases h
  · split at h
    · rename_i es e1
      cases h
      obtain ⟨v, rfl, rv⟩ := rl.one
      obtain ⟨p, us, rfl, hs, r⟩ := elems_at ok rv e1
      refine .inl ⟨p, us, rfl, hs, ?_⟩
      rw [r.length]
      exact ans ok k fun _ _ => .int _
    · cases h
  · cases h
def min2D (_ : Store) (ds : List D) : Option Slot := match ds with
  | [.int i, .int j] => some (.val (.int (if j < i then j else i)))
  | _ => none
def max2D (_ : Store) (ds : List D) : Option Slot := match ds with
  | [.int i, .int j] => some (.val (.int (if j > i then j else i)))
  | _ => none
theorem p_min2 : PrimN K (fun xs H Q => ∃ i j, xs = [.int i, .int j] ∧ Q (.int (if j < i then j else i)) H) min2D := by
  intro w vs ds s Q ok rl h k
  unfold min2D at h
  split at h
  · cases h
    obtain ⟨v, v', rfl, rv, rv'⟩ := rl.two
    cases int_at rv
    cases int_at rv'
    exact ⟨_, _, rfl, ans ok k fun _ _ => .int _⟩
  · cases h
theorem p_max2 : PrimN K (fun xs H Q => ∃ i j, xs = [.int i, .int j] ∧ Q (.int (if j > i then j else i)) H) max2D := by
  intro w vs ds s Q ok rl h k
  unfold max2D at h
  split at h
  · cases h
    obtain ⟨v, v', rfl, rv, rv'⟩ := rl.two
    cases int_at rv
    cases int_at rv'
    exact ⟨_, _, rfl, ans ok k fun _ _ => .int _⟩
  · cases h
def intD (_ : Store) (ds : List D) : Option Slot := match ds with
  | [.int i] => some (.val (.int i))
  | [.bl b] => some (.val (.int (if b then 1 else 0)))
  | _ => none
theorem p_int : PrimN K (fun xs H Q => (∃ i, xs = [.int i] ∧ Q (.int i) H) ∨ ∃ k, xs = [.bl k] ∧ Q (.int (if k then 1 else 0)) H) intD := by
  intro w vs ds s Q ok rl h k
  unfold intD at h
  split at h
  · cases h
    obtain ⟨v, rfl, rv⟩ := rl.one
    cases int_at rv
    exact .inl ⟨_, rfl, ans ok k fun _ _ => .int _⟩
  · cases h
    obtain ⟨v, rfl, rv⟩ := rl.one
    cases bl_at rv
    exact .inr ⟨_, rfl, ans ok k fun _ _ => .int _⟩
  · cases h
def listD (M : Store) (ds : List D) : Option Slot := match ds with
  | [x] => (elemsD M x).map Slot.own
  | _ => none
theorem p_list : PrimN K (fun xs H Q => ∃ p ys, xs = [.ref p] ∧ (SqL K H p ys ∨ SqT K H p ys) ∧ ∀ l, H l = none → Q (.ref l) (upd H l (.lst ys))) listD := by
  intro w vs ds s Q ok rl h k
  unfold listD at h
  split at h
  · rename_i x
    cases q : elemsD w.M x with
    | none => rw [q] at h; cases h
    | some es =>
      rw [q] at h
      cases h
      obtain ⟨v, rfl, rv⟩ := rl.one
      obtain ⟨p, us, rfl, hs, r⟩ := elems_at ok rv q
      exact ⟨p, us, rfl, hs, fun l hl => k _ _ (ok.fresh0 hl _) rfl (own_new (Step.refl ok) hl r)⟩
  · cases h
def tupleD (M : Store) (ds : List D) : Option Slot := match ds with
  | [.tup es] => some (.val (.tup es))
  | [x] => (seqOf M x).map fun es => .val (.tup es)
  | _ => none
def rTupX (K : PySem.W.Frag) : List V → Hp → VK → Prop := fun xs H Q => ∃ p ys, xs = [.ref p] ∧ ((SqL K H p ys ∧ NewT H ys Q) ∨ (SqT K H p ys ∧ Q (.ref p) H))
open PySem.Spec PyProof.Rows in
theorem call_tupleX : CallR X (.type "tuple") (rTupX X.K) := by
  intro pins s σ H xs us Q I r h
  obtain ⟨p, ys, rfl, h⟩ := h
  rcases h with ⟨hq, q⟩ | h
  · obtain ⟨u, rfl, rx⟩ := vals1 r
    cases rx
    obtain ⟨its, r', pl, hz⟩ := I.list hq
    have hlen := r'.length
    refine call_tuple_list pl.isList (fun h' kp => ?_) (by simp only [List.size_toArray] <;> omega)
    have I1 : Inv X pins σ H { s with heap := h' } := I.kept (t' := s.toks) kp
    exact q.ep (s := { s with heap := h' }) (t' := s.toks) I1 r' hz (fun b o e => Heap.get?_push_of_some _ e) (Nat.le_refl _) (Heap.get?_push_size _ rfl)
  · exact call_tuple_of pins s σ H _ us Q I r ⟨p, ys, rfl, .inr h⟩
theorem p_tuple : PrimN K (rTupX K) tupleD := by
  intro w vs ds s Q ok rl h k
  unfold tupleD at h
  split at h
  · cases h
    obtain ⟨v, rfl, rv⟩ := rl.one
    obtain ⟨p, us, rfl, hs, r⟩ := tup_at ok rv
    rcases rv with rv | ⟨_, _, _, _, e, _⟩
    · exact ⟨p, us, rfl, .inr ⟨hs, k _ w (Step.refl ok) rfl rv⟩⟩
    · cases e
  · rename_i x _
    cases q : seqOf w.M x with
    | none => rw [q] at h; cases h
    | some es =>
      rw [q] at h
      cases h
      obtain ⟨v, rfl, rv⟩ := rl.one
      obtain ⟨p, us, rfl, hs, r⟩ := seq_at ok rv q
      exact ⟨p, us, rfl, .inl ⟨hs, newT ok r fun w' st eM v rv => k v w' st eM rv⟩⟩
  · cases h
def blsOf : List D → Option (List Bool)
  | [] => some []
  | .bl b :: ds => (blsOf ds).map (b :: ·)
  | _ => none
theorem bls_at {A : List Addr} {G : Hp} : ∀ {ds : List D} {vs : List V} {bs : List Bool}, RepL K A G vs ds → blsOf ds = some bs → vs = bs.map V.bl
  | [], _, _, r, h => by cases r; cases h; rfl
  | .bl b :: ds, _, bs, r, h => by
    cases r with
    | cons r1 r2 =>
      simp only [blsOf] at h
      cases q : blsOf ds with
      | none => rw [q] at h; cases h
      | some cs =>
        rw [q] at h
        cases h
        cases r1
        rw [bls_at r2 q]
        rfl
  | .non :: _, _, _, _, h => by cases h
  | .int _ :: _, _, _, _, h => by cases h
  | .str _ :: _, _, _, _, h => by cases h
  | .tup _ :: _, _, _, _, h => by cases h
  | .lst _ :: _, _, _, _, h => by cases h
  | .fro _ :: _, _, _, _, h => by cases h
  | .kt _ :: _, _, _, _, h => by cases h
  | .ref _ :: _, _, _, _, h => by cases h
def allD (M : Store) (ds : List D) : Option Slot := match ds with
  | [x] => match seqOf M x with
    | some es => (blsOf es).map fun bs => .val (.bl (bs.all id))
    | none => none
  | _ => none
theorem p_all : PrimN K (rAll K) allD := by
  intro w vs ds s Q ok rl h k
  unfold allD at h
  split at h
  · split at h
    · rename_i es e1
      cases q : blsOf es with
      | none => rw [q] at h; cases h
      | some bs =>
        rw [q] at h
        cases h
        obtain ⟨v, rfl, rv⟩ := rl.one
        obtain ⟨p, us, rfl, hs, r⟩ := seq_at ok rv e1
        cases bls_at r q
        exact ⟨p, bs, rfl, hs, ans ok k fun _ _ => .bl _⟩
    · cases h
  · cases h
def clsD (M : Store) : D → Option String
  | .non => some "NoneType"
  | .bl _ => some "bool"
  | .int _ => some "int"
  | .str _ => some "str"
  | .tup _ => some "tuple"
  | .lst _ => some "list"
  | .fro _ => none
  | .kt _ => some "tuple"
  | .fn _ => none
  | .ref k => match M[k]? with
    | some (.lst _) => some "list"
    | some (.dK _) => some "dict"
    | some (.dT _) => some "dict"
    | _ => none
theorem cls_at {w : Wd} (ok : w.Ok K) {v : V} {x : D} {T : String} (r : RepB K w v x) (h : clsD w.M x = some T) : TyX K w.H v (.type T) := by
  cases x with
  | non => cases non_at r; cases h; exact .base .non
  | bl b => cases bl_at r; cases h; exact .base (.bl b)
  | int b => cases int_at r; cases h; exact .base (.int b)
  | str b => cases str_at r; cases h; exact .base (.str b)
  | tup ds =>
    cases h
    obtain ⟨p, vs, rfl, hs, rl⟩ := tup_at ok r
    rcases hs with (hs | ⟨o, hs⟩) | ⟨o, its, n, hk, hc, _⟩
    · exact .base (.tup hs)
    · exact .fTuple hs
    · exact .kTuple hk hc
  | lst ds =>
    cases h
    obtain ⟨p, vs, rfl, hs, rl⟩ := lst_at (ds := ds) ok r rfl
    exact .base (.lst hs)
  | fro ds => cases h
  | fn c => cases h
  | kt ds =>
    cases h
    obtain ⟨p, vs, rfl, hs, rl⟩ := kt_at ok r
    rcases hs with (hs | ⟨o, hs⟩) | ⟨o, its, n, hk, hc, _⟩
    · exact .base (.tup hs)
    · exact .fTuple hs
    · exact .kTuple hk hc
  | ref k =>
    simp only [clsD] at h
    rcases r with r | ⟨p, vs, es', rfl, e, _⟩
    · cases r with
      | @ref a k ek =>
        split at h
        · rename_i ds e2
          obtain ⟨a', e3, vs, h1, h2⟩ := ok.mos k _ e2
          rw [ek] at e3; cases e3
          cases h
          exact .base (.lst h1)
        · rename_i ds e2
          obtain ⟨a', e3, vs, h1, h2⟩ := ok.mos k _ e2
          rw [ek] at e3; cases e3
          cases h
          exact .base (.dK h1)
        · rename_i ds e2
          obtain ⟨a', e3, vs, h1, h2⟩ := ok.mos k _ e2
          rw [ek] at e3; cases e3
          cases h
          exact .base (.dT h1)
        · cases h
    · cases e
def subTy (a b : String) : Bool := a == b || (a == "bool" && b == "int")
def kitTys : List String := ["NoneType", "bool", "int", "str", "tuple", "list", "dict"]
theorem kit_all : ∀ a ∈ kitTys, ∀ b ∈ ["bool", "int", "str", "tuple", "list", "dict"], kitB a b = some (subTy a b) := by decide +kernel
theorem cls_in {M : Store} {x : D} {T : String} (h : clsD M x = some T) : T ∈ kitTys := by
  cases x <;> simp only [clsD] at h <;> first | (cases h; done) | (cases h; decide) | skip
  split at h <;> first | (cases h; done) | (cases h; decide)
def isiD (T : String) (M : Store) (x : D) : Option Slot := (clsD M x).map fun c => .val (.bl (subTy c T))
def tIsi (T : String) (K : PySem.W.Frag) (t : TE) : TE := tCB (rIsi K) (tCons t (tCons (tC (.ty T)) tNil))
theorem x_isi {T : String} (hT : T ∈ ["bool", "int", "str", "tuple", "list", "dict"]) {f : FD} (h : PE X e (tIsi T K (tR K E f))) : PE X e (tE K E (dOp1 (isiD T) f)) := PE.wk h fun σ H Q ⟨ρ, w, e1, ok, sr, a⟩ =>
  ⟨ρ, w, e1, ok, sr, a.bind.imp fun x w1 s1 a1 v rv => by
    obtain ⟨s, es, k⟩ := fin_of s1 a1
    unfold isiD at es
    cases q : clsD w1.M x with
    | none => rw [q] at es; cases es
    | some c =>
      rw [q] at es
      cases es
      exact ⟨v, .ty T, .type c, .type T, subTy c T, rfl, .ty T, cls_at s1.ok rv q, kit_ty (kit_all c (cls_in q) T hT), ans s1.ok k fun _ _ => .bl _⟩⟩
def dRef (f : FE) : FE := fun ρ M => (f ρ M).bind fun x M => match x with
  | .own ds => .ok (.val (.ref M.length)) (M ++ [.lst ds])
  | _ => .bad
theorem Wd.Ok.push {w : Wd} (h : w.Ok K) {p : Addr} {o : MO} (hG : w.G p = none) (hA : p ∉ w.A) (hm : MoR K w p o) : (⟨w.A ++ [p], w.G, w.M ++ [o], w.H⟩ : Wd).Ok K := by
  have up : ∀ {a : Addr} {m : MO}, MoR K w a m → MoR K ⟨w.A ++ [p], w.G, w.M ++ [o], w.H⟩ a m := fun {a m} r => by
    have rr : ∀ v d, Rep K w.A w.G v d → Rep K (w.A ++ [p]) w.G v d := fun v d => Rep.mono (List.prefix_append _ _) (Same.refl _) d v
    cases m with
    | lst ds => obtain ⟨vs, z, q⟩ := r; exact ⟨vs, z, RepL.mono (List.prefix_append _ _) (Same.refl _) _ _ q⟩
    | dK ds => obtain ⟨vs, z, q⟩ := r; exact ⟨vs, z, q.imp rr⟩
    | dT ds => obtain ⟨vs, z, q⟩ := r; exact ⟨vs, z, q.imp rr⟩
    | ins c fs => obtain ⟨io, vs, dx, z, q⟩ := r; exact ⟨io, vs, dx, z, q.imp rr⟩
    | exc c d => exact exc_mono r (fun _ z => z) (List.prefix_append _ _) (Same.refl _)
    | dN wd d => exact dn_mono r (fun _ z => z) (List.prefix_append _ _) (Same.refl _)
    | fK d => exact fk_mono r (List.prefix_append _ _) (Same.refl _)
    | fT d => exact ft_mono r (List.prefix_append _ _) (Same.refl _)
  refine ⟨h.sub, ?_, by simp [h.len], fun a ha u e => ?_, fun k m e => ?_⟩
  · rw [List.nodup_append]
    exact ⟨h.nd, by simp, fun a ha b hb => by simp at hb; subst hb; exact fun z => hA (z ▸ ha)⟩
  · rcases List.mem_append.mp ha with ha | ha
    · exact h.out a ha u e
    · simp at ha; subst ha; have e' : w.G a = some u := e; rw [hG] at e'; cases e'
  · have e : (w.M ++ [o])[k]? = some m := e
    by_cases hk : k < w.M.length
    · rw [List.getElem?_append_left hk] at e
      obtain ⟨a, ea, r⟩ := h.mos k m e
      exact ⟨a, pre_get (List.prefix_append _ _) ea, up r⟩
    · rw [List.getElem?_append_right (by omega)] at e
      have hk2 : k - w.M.length = 0 := by
        have := (List.getElem?_eq_some_iff.mp e).1
        simp at this
        omega
      rw [hk2] at e
      cases e
      refine ⟨p, ?_, up hm⟩
      show (w.A ++ [p])[k]? = some p
      have hl := h.len
      rw [List.getElem?_append_right (by omega), show k - w.A.length = 0 by omega]
      rfl
theorem x_ref {f : FE} (h : PE X e (tE K E f)) : PE X e (tE K E (dRef f)) := PE.wk h fun σ H Q ⟨ρ, w, e1, ok, sr, a⟩ =>
  ⟨ρ, w, e1, ok, sr, by
    unfold dRef at a
    cases q : f ρ w.M with
    | bad => rw [q] at a; exact a
    | exc c d M => rw [q] at a; exact a
    | ok x M =>
      rw [q] at a
      cases x with
      | un => exact a.elim
      | val d => exact a.elim
      | own ds =>
        intro w1 s1 eM v rv
        obtain ⟨p, vs, rfl, h0, hH, hG, hA, rl⟩ := rv
        have ok2 := s1.ok.push hG hA (show MoR K w1 p (.lst ds) from ⟨vs, hH, rl⟩)
        have a' : ∀ w', Step K w w' → w'.M = M ++ [.lst ds] → ∀ v, RepX K w w' v (.val (.ref M.length)) → Q v w'.H := a
        refine a' ⟨w1.A ++ [p], w1.G, w1.M ++ [.lst ds], w1.H⟩ ⟨ok2, s1.pre.trans (List.prefix_append _ _), s1.fro, fun b o z1 z2 z3 => ?_⟩ (by rw [eM]) _ (.ref ?_)
        · obtain ⟨c1, c2, c3⟩ := s1.keep b o z1 z2 z3
          exact ⟨c1, c2, fun hm => (List.mem_append.mp hm).elim c3 fun z => by simp at z; subst z; rw [h0] at z1; cases z1⟩
        · show (w1.A ++ [p])[M.length]? = some p
          have hl := s1.ok.len
          rw [eM] at hl
          rw [← hl, List.getElem?_append_right (Nat.le_refl _), Nat.sub_self]
          rfl⟩
theorem Wd.Ok.put {w : Wd} (h : w.Ok K) {k : Nat} {p : Addr} {o : MO} {ho : HO} (hk : w.A[k]? = some p) (hm : MoR K ⟨w.A, w.G, w.M.set k o, upd w.H p ho⟩ p o) (hn : ∃ o', w.H p = some o' ∧ ¬ Lk o') : Step K w ⟨w.A, w.G, w.M.set k o, upd w.H p ho⟩ := by
  have hp : p ∈ w.A := List.mem_of_getElem? hk
  have hG : w.G p = none := by
    cases q : w.G p with
    | none => rfl
    | some u =>
      obtain ⟨o', e1, e2⟩ := hn
      have e3 := h.sub _ _ q
      rw [e1] at e3
      cases e3
      exact absurd (h.out p hp _ q) e2
  have hkl : k < w.M.length := by rw [← h.len]; exact (List.getElem?_eq_some_iff.mp hk).1
  refine ⟨⟨fun b u e => ?_, h.nd, by simp [h.len], h.out, fun j m e => ?_⟩, List.prefix_refl _, Same.refl _, fun q u z1 z2 z3 => ⟨?_, .inl z2, z3⟩⟩
  · show upd w.H p ho b = some u
    rw [upd_ne (ne_of_none e hG)]
    exact h.sub b u e
  · have e : (w.M.set k o)[j]? = some m := e
    by_cases hj : k = j
    · subst hj
      rw [List.getElem?_set_self hkl] at e
      cases e
      exact ⟨p, hk, hm⟩
    · rw [List.getElem?_set_ne hj] at e
      obtain ⟨a, ea, r⟩ := h.mos j m e
      have na : a ≠ p := fun z => hj ((List.getElem?_inj (List.getElem?_eq_some_iff.mp hk).1 h.nd).mp (by rw [hk]; rw [← z]; exact ea.symm))
      refine ⟨a, ea, ?_⟩
      cases m with
      | lst ds => obtain ⟨vs, z, q⟩ := r; exact ⟨vs, by show upd w.H p ho a = _; rw [upd_ne na]; exact z, q⟩
      | dK ds => obtain ⟨vs, z, q⟩ := r; exact ⟨vs, by show upd w.H p ho a = _; rw [upd_ne na]; exact z, q⟩
      | dT ds => obtain ⟨vs, z, q⟩ := r; exact ⟨vs, by show upd w.H p ho a = _; rw [upd_ne na]; exact z, q⟩
      | ins c fs => obtain ⟨io, vs, dx, z, q⟩ := r; exact ⟨io, vs, dx, by show upd w.H p ho a = _; rw [upd_ne na]; exact z, q⟩
      | exc c d => exact exc_mono r (fun _ z => by show upd w.H p ho a = _; rw [upd_ne na]; exact z) (List.prefix_refl _) (Same.refl _)
      | dN wd d => exact dn_mono r (fun _ z => by show upd w.H p ho a = _; rw [upd_ne na]; exact z) (List.prefix_refl _) (Same.refl _)
      | fK d => exact fk_mono r (List.prefix_refl _) (Same.refl _)
      | fT d => exact ft_mono r (List.prefix_refl _) (Same.refl _)
  · show upd w.H p ho q = some u
    rw [upd_ne (fun z : q = p => z3 (z ▸ hp))]
    exact z1
def sPutR (f fo fi : FD) : FS := fun ρ M => (f ρ M).out fun x M => (fo ρ M).out fun o M => (fi ρ M).out fun i M => match o, i with
  | .ref k, .int j => match M[k]? with
    | some (.lst ds) => match ixN ds.length j with
      | some n => .next ρ (M.set k (.lst (ds.set n x)))
      | none => .bad
    | _ => .bad
  | _, _ => .bad
theorem ref_at {w : Wd} {v : V} {k : Nat} (r : RepB K w v (.ref k)) : ∃ a, v = .ref a ∧ w.A[k]? = some a := by
  rcases r with r | ⟨p, vs, es', rfl, e, _⟩
  · cases r with
    | ref e => exact ⟨_, rfl, e⟩
  · cases e
theorem s_putR {st : Stmt} {f fo fi : FD} (h : PS X st (tAsg (tF K E f) (gSub (tR K E fo) (tR K E fi) rSetL))) : PS X st (tS K E (sPutR f fo fi)) := PS.wk h fun D σ H ⟨ρ, w, w0, e1, s, sr, of, p⟩ =>
  ⟨ρ, w, e1, s.ok, sr, (out_after s p).imp fun x w1 s1 p1 v rv => ⟨ρ, w1, rfl, s1.ok, sr.step s1, (out_after (s.trans s1) p1).imp fun o w2 s2 p2 vo ro => ⟨ρ, w2, rfl, s2.ok, (sr.step s1).step s2, (out_after ((s.trans s1).trans s2) p2).imp fun i w3 s3 p3 vi ri => by
    split at p3
    · rename_i k j
      split at p3
      · rename_i ds e2
        split at p3
        · rename_i n en
          obtain ⟨a, rfl, ea⟩ := ref_at (ro.step s3)
          cases int_at ri
          obtain ⟨a', ea', vs, hH, rl⟩ := s3.ok.mos k _ e2
          rw [ea] at ea'
          cases ea'
          refine ⟨a, vs, j, n, rfl, rfl, hH, by rw [rl.length]; exact en, ?_⟩
          have rv3 := (s2.trans s3).rep rv
          have st3 := s3.ok.put (o := .lst (ds.set n x)) (ho := .lst (vs.set n v)) ea ⟨_, upd_same, rl.set rv3 n⟩ ⟨_, hH, fun l => l⟩
          have sall := ((s.trans s1).trans s2).trans s3
          exact p3 _ σ (sall.trans st3) st3.le rfl ((((sr.step s1).step s2).step s3).step st3) of
        · exact p3.elim
      · exact p3.elim
    · exact p3.elim⟩⟩⟩
def startD (n : Nat) (ds : List D) : EnvD := ds.map Slot.val ++ List.replicate (n - ds.length) .un
theorem SR.start {w : Wd} {N : List Str} {vs : List V} {ds : List D} (rl : RepL K w.A w.G vs ds) : SR K w (startD N.length ds) (L2.start N vs) := by
  have no : ∀ (i : Nat) (es : List D), (startD N.length ds)[i]? ≠ some (.own es) := fun i es h => by
    unfold startD at h
    by_cases hi : i < (ds.map Slot.val).length
    · rw [List.getElem?_append_left hi, List.getElem?_map] at h
      cases q : ds[i]? with
      | none => rw [q] at h; cases h
      | some d => rw [q] at h; cases h
    · rw [List.getElem?_append_right (by omega), List.getElem?_replicate] at h
      split at h <;> cases h
  refine ⟨by unfold startD L2.start; simp [rl.length], fun i d h => ?_, fun i es h => absurd h (no i es), fun i j es es' p h => absurd h (no i es)⟩
  unfold startD at h
  by_cases hi : i < (ds.map Slot.val).length
  · rw [List.getElem?_append_left hi, List.getElem?_map] at h
    cases q : ds[i]? with
    | none => rw [q] at h; cases h
    | some d' =>
      rw [q] at h
      cases h
      obtain ⟨v, ev, rv⟩ := rl.get q
      refine ⟨v, ?_, rv⟩
      unfold L2.start
      rw [List.length_map] at hi
      rw [List.getElem?_append_left (by simpa [rl.length] using hi), List.getElem?_map, ev]
      rfl
  · rw [List.getElem?_append_right (by omega), List.getElem?_replicate] at h
    split at h <;> cases h
theorem OF.start (w : Wd) (n : Nat) (ds : List D) (σ : L2.St) : OF w (startD n ds) σ := fun i es p h => by
  exfalso
  unfold startD at h
  by_cases hi : i < (ds.map Slot.val).length
  · rw [List.getElem?_append_left hi, List.getElem?_map] at h
    cases q : ds[i]? with
    | none => rw [q] at h; cases h
    | some d => rw [q] at h; cases h
  · rw [List.getElem?_append_right (by omega), List.getElem?_replicate] at h
    split at h <;> cases h
def runF (n : Nat) (g : FS) : Fn := fun ds M => match g (startD n ds) M with
  | .next _ M => .ok (.val .non) M
  | .ret s M => .ok s M
  | .exc c d M => .exc c d M
  | _ => .bad
abbrev W0 : XK → Wish := fun _ => E00
end
end TP
namespace TP
open PySem L2
section
variable {K : PySem.W.Frag} {E : Wish} {X : Cx} {e : Expr} {st : Stmt} {md : Bool}
def dChain (g g' : Store → D → D → Option Slot) (fa fb fc : FD) : FE := fun ρ M => (fa ρ M).bind fun x M => (fb ρ M).bind fun y M => match g M x y with
  | some (.val (.bl true)) => (fc ρ M).bind fun z M => R.of (g' M y z) M
  | some (.val (.bl false)) => .ok (.val (.bl false)) M
  | _ => .bad
theorem x_chain {r r' : R2} {g g' : Store → D → D → Option Slot} {fa fb fc : FD} (h : PE X e (tChain r r' (tR K E fa) (tR K E fb) (tR K E fc))) (p : Prim2 K r g) (p' : Prim2 K r' g') : PE X e (tE K E (dChain g g' fa fb fc)) := PE.wk h fun σ H Q ⟨ρ, w, e1, ok, sr, a⟩ =>
  ⟨ρ, w, e1, ok, sr, a.bind.imp fun x w1 s1 a1 vx rx => ⟨ρ, w1, rfl, s1.ok, sr.step s1, a1.bind.imp fun y w2 s2 a2 vy ry => by
    split at a2
    · rename_i eg
      refine p w2 vx vy x y _ _ s2.ok (rx.step s2) ry eg fun v w3 s3 e3 rv => ?_
      cases rv
      have s13 := (s1.trans s2).trans s3
      refine ⟨true, rfl, iteT ⟨ρ, w3, rfl, s3.ok, ((sr.step s1).step s2).step s3, ?_⟩⟩
      rw [e3]
      have a3 := a2.later s3
      exact a3.bind.imp fun z w4 s4 a4 vz rz => by
        obtain ⟨s, es, k⟩ := fin_of (s13.trans s4) a4
        exact p' w4 vy vz y z s Q s4.ok ((ry.step s3).step s4) rz es k
    · rename_i eg
      refine p w2 vx vy x y _ _ s2.ok (rx.step s2) ry eg fun v w3 s3 e3 rv => ?_
      cases rv
      exact ⟨false, rfl, iteF (a2 w3 s3 e3 _ (.bl _))⟩
    · exact a2.elim⟩⟩
theorem s_setLc {i : Nat} {fi : FL} {b : D → EnvD → Option EnvD} {is : List Nat} {c : FB} {f : FD} {vs : List Nat} (hv : ∀ i ∈ is, i ∈ vs) (h : PS X st (tAsg (tLc (tI md K E fi) (tG md K b is) (tT K E00 c) (tF K E00 f) vs) (gName i))) : PS X st (tS K E (sSet i (dLc fi b c f vs))) :=
  s_set (PS.wk h fun D σ H z => lc_le hv σ H _ z)
def enumL (ds : List D) : List D := (List.range ds.length).map fun i => .tup [.int (i : Nat), ds.getD i .non]
theorem it_enum {w : Wd} {a : Addr} {vs : List V} {ds : List D} (hs : SqL K w.G a vs) (rl : RepL K w.A w.G vs ds) : IterOk true K w (Ite K a) (enumL ds) := fun w2 le ok2 i => by
  have h2 : SqL K w2.H a vs := ok2.sub.seq (le.2.seq hs)
  have r2 := le.repL rl
  refine ⟨fun d ed => ?_, fun hl => ⟨vs, h2, by rw [rl.length]; simpa [enumL] using hl⟩⟩
  unfold enumL at ed
  rw [List.getElem?_map] at ed
  by_cases hi : i < ds.length
  · rw [List.getElem?_range hi] at ed
    cases ed
    obtain ⟨v, ev, rv⟩ := r2.get (List.getElem?_eq_getElem hi)
    refine ⟨⟨vs, v, h2, ev⟩, fun x H' y => ?_⟩
    obtain ⟨T, x', rfl, hT, rfl, y⟩ := y
    have := y vs h2
    rw [ev] at this
    cases this
    have st := ok2.fresh hT (.tup [.int (i : Nat), v])
    refine ⟨_, st, rfl, rfl, .inr ⟨rfl, _, _, _, rfl, rfl, .inl (.inl upd_same), .cons (.int _) (.one ?_)⟩⟩
    rw [List.getD_eq_getElem?_getD, List.getElem?_eq_getElem hi]
    exact st.rep rv
  · rw [List.getElem?_eq_none (by simpa using hi)] at ed
    cases ed
end
theorem bt_len : bootBuiltins "len" = some (.builtin "len") := by decide +kernel
theorem bt_min : bootBuiltins "min" = some (.builtin "min") := by decide +kernel
theorem bt_max : bootBuiltins "max" = some (.builtin "max") := by decide +kernel
theorem bt_all : bootBuiltins "all" = some (.builtin "all") := by decide +kernel
theorem bt_isinstance : bootBuiltins "isinstance" = some (.builtin "isinstance") := by decide +kernel
theorem bt_int : bootBuiltins "int" = some (.type "int") := by decide +kernel
theorem bt_str : bootBuiltins "str" = some (.type "str") := by decide +kernel
theorem bt_bool : bootBuiltins "bool" = some (.type "bool") := by decide +kernel
theorem bt_list : bootBuiltins "list" = some (.type "list") := by decide +kernel
theorem bt_tuple : bootBuiltins "tuple" = some (.type "tuple") := by decide +kernel
theorem bt_dict : bootBuiltins "dict" = some (.type "dict") := by decide +kernel
end TP
namespace TP
open PySem L2
section
variable {K : PySem.W.Frag} {E : Wish} {X : Cx} {e : Expr}
theorem un_of {A : Around} {k : Nat} (hr : Room k A) : A.units + 200 < cLine := by have := hr.un; omega
def dYes : FB := fun _ M => .ok true M
theorem x_yes : PTs X [] (tT K E dYes) := ⟨fun pins s σ H Q I h => by
  obtain ⟨ρ, w, e1, ok, sr, a⟩ := h
  subst e1
  exact pts_nil.run pins s σ w.H Q I (a w (Step.refl ok) rfl)⟩
theorem x_test2 {r : R2} {g : Store → D → D → Option Slot} {fa fb : FD} (h : PT X e (tTest (tOp r (tR K E fa) (tR K E fb)))) (p : Prim2 K r g) : PT X e (tT K E (dBo (dOp2 g fa fb))) :=
  x_test h fun σ H Q ⟨ρ, w, e1, ok, sr, a⟩ =>
    ⟨ρ, w, e1, ok, sr, a.bind.imp fun x w1 s1 a1 vx rx => ⟨ρ, w1, rfl, s1.ok, sr.step s1, a1.bind.imp fun y w2 s2 a2 vy ry => by
      obtain ⟨s, es, k⟩ := fin_of (s1.trans s2) a2
      exact p w2 vx vy x y s Q s2.ok (rx.step s2) ry es k⟩⟩
end
end TP
namespace TP
open PySem L2
def valIs (K : PySem.W.Frag) : Nat → Value → D → Bool
  | _, .none, .non => true
  | _, .bool b, .bl c => b == c
  | _, .int i _, .int j => decide (i = j)
  | _, .str x _, .str y => decide (x = y)
  | _, .ref a, .fn c => decide (clsAt K c = a)
  | n + 1, .ref a, .kt ds => match K.lookup a with
    | some o => match o.cls, o.data with
      | .type c, .seq its _ => c == "tuple" && decide (its.size ≤ 1000) && valsIs its.toList ds (valIs K n)
      | _, _ => false
    | none => false
  | _, _, _ => false
where valsIs : List Value → List D → (Value → D → Bool) → Bool
  | [], [], _ => true
  | v :: vs, d :: ds, f => f v d && valsIs vs ds f
  | _, _, _ => false
section
variable {K : PySem.W.Frag} {A : List Addr} {G : Hp}
theorem valsIs_rep {f : Value → D → Bool} (hf : ∀ v d, f v d = true → ∃ x, RelV x v ∧ Rep K A G x d) : ∀ {vs : List Value} {ds : List D}, valIs.valsIs vs ds f = true → ∃ xs, Vals xs vs ∧ RepL K A G xs ds
  | [], [], _ => ⟨[], .nil, .nil⟩
  | v :: vs, d :: ds, h => by
    unfold valIs.valsIs at h
    rw [Bool.and_eq_true] at h
    obtain ⟨x, h1, h2⟩ := hf v d h.1
    obtain ⟨xs, h3, h4⟩ := valsIs_rep hf h.2
    exact ⟨x :: xs, .cons h1 h3, .cons h2 h4⟩
  | [], _ :: _, h => by cases h
  | _ :: _, [], h => by cases h
theorem valIs_rep : ∀ (n : Nat) (v : Value) (d : D), valIs K n v d = true → ∃ x, RelV x v ∧ Rep K A G x d := by
  intro n
  induction n with
  | zero =>
    intro v d h
    unfold valIs at h
    split at h
    · exact ⟨.non, rfl, .non⟩
    · rw [beq_iff_eq] at h; subst h; exact ⟨.bl _, rfl, .bl _⟩
    · have := of_decide_eq_true h; subst this; exact ⟨.int _, ⟨_, rfl⟩, .int _⟩
    · have := of_decide_eq_true h; subst this; exact ⟨.str _, ⟨_, rfl⟩, .str _⟩
    · have := of_decide_eq_true h; subst this; exact ⟨.ref _, rfl, .fn _⟩
    · exfalso; omega
    · cases h
  | succ n ih =>
    intro v d h
    unfold valIs at h
    split at h
    · exact ⟨.non, rfl, .non⟩
    · rw [beq_iff_eq] at h; subst h; exact ⟨.bl _, rfl, .bl _⟩
    · have := of_decide_eq_true h; subst this; exact ⟨.int _, ⟨_, rfl⟩, .int _⟩
    · have := of_decide_eq_true h; subst this; exact ⟨.str _, ⟨_, rfl⟩, .str _⟩
    · have := of_decide_eq_true h; subst this; exact ⟨.ref _, rfl, .fn _⟩
    · rename_i m a ds q
      cases q
      split at h
      · rename_i o ho
        split at h
        · rename_i c its k hc hd
          simp only [Bool.and_eq_true, decide_eq_true_eq, beq_iff_eq] at h
          obtain ⟨⟨e1, e2⟩, e3⟩ := h
          subst e1
          obtain ⟨xs, h3, h4⟩ := valsIs_rep ih e3
          exact ⟨.ref a, rfl, .kt (.inr ⟨o, its, k, ho, hc, hd, Nat.le_trans e2 (by decide), h3⟩) h4⟩
        · cases h
      · cases h
    · cases h
theorem repL_ints : ∀ ns : List Int, RepL K A G (ns.map V.int) (ns.map D.int)
  | [] => .nil
  | n :: ns => .cons (.int n) (repL_ints ns)
theorem law_sp {H : Hp} {a : Addr} {ns : List Int} {m : Fn} {EX : XK} (hS : SqL K H a (ns.map V.int)) (h : ∃ M, m [.fro (ns.map D.int)] [] = .ok (.val (.bl true)) M) : spD K W0 1 m [.ref a] H (fun v _ => v = .bl true) EX := by
  obtain ⟨M, h⟩ := h
  refine ⟨rfl, [.fro (ns.map D.int)], ⟨[], H, [], H⟩, rfl, ⟨Same.refl _, List.nodup_nil, rfl, (fun a ha => by simp at ha), (fun k o e => by simp at e)⟩, .one (.fro hS (repL_ints ns)), ?_⟩
  show After K E00 _ (m [.fro (ns.map D.int)] []) _
  rw [h]
  intro w' _ _ v rv
  cases rv
  rfl
end
end TP
namespace TP
open PySem L2
section
variable {K : PySem.W.Frag} {E : Wish} {X : Cx} {e : Expr} {st : Stmt}
def keyD : D → Option Key
  | .int i => some (.inl i)
  | .str x => some (.inr x)
  | _ => none
def keysD : List D → Option (List Key)
  | [] => some []
  | d :: ds => match keyD d, keysD ds with
    | some k, some ks => some (k :: ks)
    | _, _ => none
section
variable {κ : Type} [DecidableEq κ]
def lookD (kvs : List (κ × D)) (k : κ) : Option D := (kvs.find? fun kv => decide (kv.1 = k)).map (·.2)
def putD (kvs : List (κ × D)) (k : κ) (v : D) : List (κ × D) :=
  if (kvs.any fun kv => decide (kv.1 = k)) = true then kvs.map (fun kv => if kv.1 = k then (kv.1, v) else kv) else kvs ++ [(k, v)]
theorem RepKV.val {R : V → D → Prop} : ∀ {vs : List (κ × V)} {ds : List (κ × D)} (k : κ), RepKV R vs ds → (∀ d, lookD ds k = some d → ∃ v, valV vs k = some v ∧ R v d) ∧ (lookD ds k = none → valV vs k = none)
  | _, _, k, .nil => ⟨fun d h => by simp [lookD] at h, fun _ => rfl⟩
  | (k', v') :: vs, (_, d') :: ds, k, .cons r t => by
    obtain ⟨h1, h2⟩ := RepKV.val k t
    unfold lookD valV at *
    by_cases hk : k' = k
    · refine ⟨fun d h => ?_, fun h => ?_⟩
      · rw [List.find?_cons_of_pos (by simpa using hk)] at h ⊢
        cases h
        exact ⟨v', rfl, r⟩
      · rw [List.find?_cons_of_pos (by simpa using hk)] at h
        cases h
    · rw [List.find?_cons_of_neg (by simpa using hk), List.find?_cons_of_neg (by simpa using hk)]
      exact ⟨h1, h2⟩
theorem RepKV.any {R : V → D → Prop} (p : κ → Bool) : ∀ {vs : List (κ × V)} {ds : List (κ × D)}, RepKV R vs ds → (vs.any fun kv => p kv.1) = ds.any fun kv => p kv.1
  | _, _, .nil => rfl
  | (k', v') :: vs, (_, d') :: ds, .cons r t => by rw [List.any_cons, List.any_cons, RepKV.any p t]
theorem RepKV.mapV {R : V → D → Prop} {v : V} {d : D} (r : R v d) (k : κ) : ∀ {vs : List (κ × V)} {ds : List (κ × D)}, RepKV R vs ds → RepKV R (vs.map fun kv => if kv.1 = k then (kv.1, v) else kv) (ds.map fun kv => if kv.1 = k then (kv.1, d) else kv)
  | _, _, .nil => .nil
  | (k', v') :: vs, (_, d') :: ds, .cons r' t => by
    rw [List.map_cons, List.map_cons]
    by_cases hk : k' = k
    · simp only [hk, if_true]
      exact .cons r (RepKV.mapV r k t)
    · simp only [hk, if_false]
      exact .cons r' (RepKV.mapV r k t)
theorem RepKV.append {R : V → D → Prop} : ∀ {vs us : List (κ × V)} {ds es : List (κ × D)}, RepKV R vs ds → RepKV R us es → RepKV R (vs ++ us) (ds ++ es)
  | _, _, _, _, .nil, s => s
  | _, _, _, _, .cons r t, s => .cons r (RepKV.append t s)
theorem RepKV.put {R : V → D → Prop} {v : V} {d : D} (r : R v d) (k : κ) {vs : List (κ × V)} {ds : List (κ × D)} (h : RepKV R vs ds) : RepKV R (putK vs k v) (putD ds k d) := by
  unfold putK putD
  rw [h.any fun x => decide (x = k)]
  split
  · exact h.mapV r k
  · exact h.append (.cons r .nil)
theorem RepKV.len {R : V → D → Prop} : ∀ {vs : List (κ × V)} {ds : List (κ × D)}, RepKV R vs ds → vs.length = ds.length
  | _, _, .nil => rfl
  | _ :: _, _ :: _, .cons _ t => by rw [List.length_cons, List.length_cons, RepKV.len t]
end
theorem key_at {A : List Addr} {G : Hp} {v : V} {d : D} {k : Key} (r : Rep K A G v d) (h : keyD d = some k) : v = kV k := by
  cases r <;> first | (cases h; rfl) | cases h
theorem keys_at {A : List Addr} {G : Hp} : ∀ {vs : List V} {ds : List D} {ks : List Key}, RepL K A G vs ds → keysD ds = some ks → vs = ks.map kV
  | [], [], _, _, h => by cases h; rfl
  | v :: vs, d :: ds, ks, .cons r t, h => by
    unfold keysD at h
    split at h
    · rename_i k ks' h1 h2
      cases h
      rw [key_at r h1, keys_at t h2]
      rfl
    · cases h
theorem keyB {w : Wd} {v : V} {d : D} {k : Key} (r : RepB K w v d) (h : keyD d = some k) : v = kV k := by
  rcases r with r | ⟨_, _, _, _, rfl, _⟩
  · exact key_at r h
  · cases h
def dGetO (M : Store) (x y : D) : Option (Option D) := match x with
  | .ref k => match M[k]? with
    | some (.dK kvs) => (keyD y).map (lookD kvs)
    | some (.dT kvs) => match y with
      | .tup ds => bif klD ds then (keysD ds).map (lookD kvs) else none
      | _ => none
    | some (.fK kvs) => (keyD y).map (lookD kvs)
    | some (.fT kvs) => match y with
      | .tup ds => bif klD ds then (keysD ds).map (lookD kvs) else none
      | _ => none
    | _ => none
  | _ => none
theorem dget_at {w : Wd} (ok : w.Ok K) {vx vy : V} {x y : D} {o : Option D} (rx : RepB K w vx x) (ry : RepB K w vy y) (h : dGetO w.M x y = some o) :
    ∃ a ov, vx = .ref a ∧ DGet w.H a vy ov ∧ (∀ d, o = some d → ∃ v, ov = some v ∧ Rep K w.A w.G v d) ∧ (o = none → ov = none) := by
  unfold dGetO at h
  split at h
  · rename_i k
    obtain ⟨a, rfl, ea⟩ := ref_at rx
    split at h
    · rename_i kvs e2
      obtain ⟨a', ea', vs, hH, rk⟩ := ok.mos k _ e2
      rw [ea] at ea'; cases ea'
      cases q : keyD y with
      | none => rw [q] at h; cases h
      | some key =>
        rw [q] at h
        cases h
        obtain ⟨h1, h2⟩ := rk.val key
        refine ⟨a, valV vs key, rfl, ?_, h1, h2⟩
        rw [keyB ry q]
        exact .inl ⟨vs, key, .inl hH, rfl, rfl⟩
    · rename_i kvs e2
      obtain ⟨a', ea', vs, hH, rk⟩ := ok.mos k _ e2
      rw [ea] at ea'; cases ea'
      split at h
      · rename_i ds
        have hk : klD ds = true := by
          cases e : klD ds with
          | false => rw [e] at h; cases h
          | true => rfl
        rw [hk, cond_true] at h
        cases q : keysD ds with
        | none => rw [q] at h; cases h
        | some ks =>
          rw [q] at h
          cases h
          obtain ⟨h1, h2⟩ := rk.val ks
          obtain ⟨b, us, rfl, hb, rl⟩ := tupH_at ok hk ry
          refine ⟨a, valV vs ks, rfl, .inr ⟨vs, ks, b, .inl hH, rfl, ?_, rfl⟩, h1, h2⟩
          rw [← keys_at rl q]
          exact hb
      · cases h
    · rename_i kvs e2
      obtain ⟨a', ea', od, vs, hG, rk⟩ := ok.mos k _ e2
      have hH := ok.sub _ _ hG
      rw [ea] at ea'; cases ea'
      cases q : keyD y with
      | none => rw [q] at h; cases h
      | some key =>
        rw [q] at h
        cases h
        obtain ⟨h1, h2⟩ := rk.val key
        refine ⟨a, valV vs key, rfl, ?_, h1, h2⟩
        rw [keyB ry q]
        exact .inl ⟨vs, key, .inr ⟨od, hH⟩, rfl, rfl⟩
    · rename_i kvs e2
      obtain ⟨a', ea', od, vs, hG, rk⟩ := ok.mos k _ e2
      have hH := ok.sub _ _ hG
      rw [ea] at ea'; cases ea'
      split at h
      · rename_i ds
        have hk : klD ds = true := by
          cases e : klD ds with
          | false => rw [e] at h; cases h
          | true => rfl
        rw [hk, cond_true] at h
        cases q : keysD ds with
        | none => rw [q] at h; cases h
        | some ks =>
          rw [q] at h
          cases h
          obtain ⟨h1, h2⟩ := rk.val ks
          obtain ⟨b, us, rfl, hb, rl⟩ := tupH_at ok hk ry
          refine ⟨a, valV vs ks, rfl, .inr ⟨vs, ks, b, .inr ⟨od, hH⟩, rfl, ?_, rfl⟩, h1, h2⟩
          rw [← keys_at rl q]
          exact hb
      · cases h
    · cases h
  · cases h
def dgetD (M : Store) (x y : D) : Option Slot := match dGetO M x y with
  | some (some d) => some (.val d)
  | _ => none
theorem p_dget : Prim2 K (fun x y H Q => ∃ a v, x = .ref a ∧ DGet H a y (some v) ∧ Q v H) dgetD := by
  intro w vx vy x y s Q ok rx ry h k
  unfold dgetD at h
  split at h
  · rename_i d e1
    cases h
    obtain ⟨a, ov, rfl, g, h1, _⟩ := dget_at ok rx ry e1
    obtain ⟨v, rfl, rv⟩ := h1 d rfl
    exact ⟨a, v, rfl, g, k v w (Step.refl ok) rfl rv⟩
  · cases h
theorem x_dget {fa fb : FD} (h : PE X e (tDGet (tR K E fa) (tR K E fb))) : PE X e (tE K E (dOp2 dgetD fa fb)) := x_op2 (r := fun x y H Q => ∃ a v, x = .ref a ∧ DGet H a y (some v) ∧ Q v H) h p_dget
def isDD (M : Store) (x : D) : Bool := match x with
  | .ref k => match M[k]? with
    | some (.dK _) => true
    | some (.dT _) => true
    | _ => false
  | _ => false
theorem isD_at' {w : Wd} (ok : w.Ok K) {v : V} {x : D} (r : RepB K w v x) (h : isDD w.M x = true) : ∃ a, v = .ref a ∧ IsD w.H a := by
  unfold isDD at h
  split at h
  · rename_i k
    obtain ⟨a, rfl, ea⟩ := ref_at r
    refine ⟨a, rfl, ?_⟩
    split at h
    · rename_i kvs e2
      obtain ⟨a', ea', vs, hH, rk⟩ := ok.mos k _ e2
      rw [ea] at ea'; cases ea'
      exact .inl ⟨vs, .inl hH⟩
    · rename_i kvs e2
      obtain ⟨a', ea', vs, hH, rk⟩ := ok.mos k _ e2
      rw [ea] at ea'; cases ea'
      exact .inr ⟨vs, .inl hH⟩
    · cases h
  · cases h
def dGet2 (fo fk fd : FD) : FD := fun ρ M => (fo ρ M).bind fun x M => if isDD M x then (fk ρ M).bind fun y M => (fd ρ M).bind fun z M => match dGetO M x y with
  | some o => .ok (o.getD z) M
  | none => .bad else .bad
theorem x_dget2 {fo fk fd : FD} (h : PE X e (tDGet2 (tR K E fo) (tR K E fk) (tF K E fd))) : PE X e (tF K E (dGet2 fo fk fd)) := PE.wk h fun σ H Q ⟨ρ, w, e1, ok, sr, a⟩ =>
  ⟨ρ, w, e1, ok, sr, a.bind.imp fun x w1 s1 a1 vx rx => by
    split at a1
    · rename_i hd
      obtain ⟨p, rfl, ip⟩ := isD_at' s1.ok rx hd
      refine ⟨p, rfl, ip, ρ, w1, rfl, s1.ok, sr.step s1, a1.bind.imp fun y w2 s2 a2 vy ry => ⟨ρ, w2, rfl, s2.ok, (sr.step s1).step s2, a2.bind.imp fun z w3 s3 a3 vz rz => ?_⟩⟩
      split at a3
      · rename_i o eo
        obtain ⟨p', ov, e2, g, h1, h2⟩ := dget_at s3.ok ((rx.step s2).step s3) (ry.step s3) eo
        cases e2
        refine ⟨ov, g, ?_⟩
        cases o with
        | none => rw [h2 rfl]; exact a3 w3 (Step.refl s3.ok) rfl _ rz
        | some d => obtain ⟨v, e3, rv⟩ := h1 d rfl; rw [e3]; exact a3 w3 (Step.refl s3.ok) rfl _ rv
      · exact a3.elim
    · exact a1.elim⟩
def dGet1 (fo fk : FD) : FD := fun ρ M => (fo ρ M).bind fun x M => if isDD M x then (fk ρ M).bind fun y M => match dGetO M x y with
  | some o => .ok (o.getD .non) M
  | none => .bad else .bad
theorem x_dget1 {fo fk : FD} (h : PE X e (tDGet1 (tR K E fo) (tR K E fk))) : PE X e (tF K E (dGet1 fo fk)) := PE.wk h fun σ H Q ⟨ρ, w, e1, ok, sr, a⟩ =>
  ⟨ρ, w, e1, ok, sr, a.bind.imp fun x w1 s1 a1 vx rx => by
    split at a1
    · rename_i hd
      obtain ⟨p, rfl, ip⟩ := isD_at' s1.ok rx hd
      refine ⟨p, rfl, ip, ρ, w1, rfl, s1.ok, sr.step s1, a1.bind.imp fun y w2 s2 a2 vy ry => ?_⟩
      split at a2
      · rename_i o eo
        obtain ⟨p', ov, e2, g, h1, h2⟩ := dget_at s2.ok (rx.step s2) ry eo
        cases e2
        refine ⟨ov, g, ?_⟩
        cases o with
        | none => rw [h2 rfl]; exact a2 w2 (Step.refl s2.ok) rfl _ .non
        | some d => obtain ⟨v, e3, rv⟩ := h1 d rfl; rw [e3]; exact a2 w2 (Step.refl s2.ok) rfl _ rv
      · exact a2.elim
    · exact a1.elim⟩
def dPutM (M : Store) (x y z : D) : Option Store := match x with
  | .ref k => match M[k]? with
    | some (.dK kvs) => match keyD y with
      | some key => if kvs.length < sizeLine then some (M.set k (.dK (putD kvs key z))) else none
      | none => none
    | some (.dT kvs) => match y with
      | .tup ds => match (bif klD ds then keysD ds else none) with
        | some ks => if kvs.length < sizeLine then some (M.set k (.dT (putD kvs ks z))) else none
        | none => none
      | _ => none
    | _ => none
  | _ => none
def sPutD (f fo fi : FD) : FS := fun ρ M => (f ρ M).out fun z M => (fo ρ M).out fun x M => (fi ρ M).out fun y M => match dPutM M x y z with
  | some M' => .next ρ M'
  | none => .bad
theorem dput_at {w : Wd} (ok : w.Ok K) {vx vy vz : V} {x y z : D} {M' : Store} (rx : RepB K w vx x) (ry : RepB K w vy y) (rz : Rep K w.A w.G vz z) (h : dPutM w.M x y z = some M') :
    ∃ a w', vx = .ref a ∧ DPut w.H a vy vz w'.H ∧ Step K w w' ∧ w'.M = M' := by
  unfold dPutM at h
  split at h
  · rename_i k
    obtain ⟨a, rfl, ea⟩ := ref_at rx
    split at h
    · rename_i kvs e2
      obtain ⟨a', ea', vs, hH, rk⟩ := ok.mos k _ e2
      rw [ea] at ea'; cases ea'
      split at h
      · rename_i key q
        split at h
        · rename_i hz
          cases h
          refine ⟨a, ⟨w.A, w.G, w.M.set k (.dK (putD kvs key z)), upd w.H a (.dK (putK vs key vz))⟩, rfl, .inl ⟨vs, key, hH, keyB ry q, by rw [rk.len]; exact hz, rfl⟩, ok.put ea ⟨_, upd_same, rk.put rz key⟩ ⟨_, hH, fun l => l⟩, rfl⟩
        · cases h
      · cases h
    · rename_i kvs e2
      obtain ⟨a', ea', vs, hH, rk⟩ := ok.mos k _ e2
      rw [ea] at ea'; cases ea'
      split at h
      · rename_i ds
        split at h
        · rename_i ks q
          have hk : klD ds = true := by
            cases e : klD ds with
            | false => rw [e] at q; cases q
            | true => rfl
          rw [hk, cond_true] at q
          split at h
          · rename_i hz
            cases h
            obtain ⟨b, us, rfl, hb, rl⟩ := tupH_at ok hk ry
            refine ⟨a, ⟨w.A, w.G, w.M.set k (.dT (putD kvs ks z)), upd w.H a (.dT (putK vs ks vz))⟩, rfl, .inr ⟨vs, ks, b, hH, rfl, by rw [← keys_at rl q]; exact hb, by rw [rk.len]; exact hz, rfl⟩, ok.put ea ⟨_, upd_same, rk.put rz ks⟩ ⟨_, hH, fun l => l⟩, rfl⟩
          · cases h
        · cases h
      · cases h
    · cases h
  · cases h
theorem s_putD {f fo fi : FD} (h : PS X st (sDPut (tR K E fo) (tR K E fi) (tF K E f))) : PS X st (tS K E (sPutD f fo fi)) := PS.wk h fun D σ H ⟨ρ, w, w0, e1, s, sr, of, p⟩ =>
  ⟨ρ, w, e1, s.ok, sr, (out_after s p).imp fun z w1 s1 p1 vz rz => ⟨ρ, w1, rfl, s1.ok, sr.step s1, (out_after (s.trans s1) p1).imp fun x w2 s2 p2 vx rx => ⟨ρ, w2, rfl, s2.ok, (sr.step s1).step s2, (out_after ((s.trans s1).trans s2) p2).imp fun y w3 s3 p3 vy ry => by
    split at p3
    · rename_i M' em
      obtain ⟨a, w4, rfl, dp, s4, e4⟩ := dput_at s3.ok (rx.step s3) ry ((s2.trans s3).rep rz) em
      refine ⟨a, w4.H, rfl, dp, ?_⟩
      exact p3 w4 σ ((((s.trans s1).trans s2).trans s3).trans s4) s4.le e4 ((((sr.step s1).step s2).step s3).step s4) of
    · exact p3.elim⟩⟩⟩
theorem new_obj {w : Wd} (ok : w.Ok K) {d : Addr} (hd : w.H d = none) {o : HO} {m : MO} (hm : MoR K ⟨w.A, w.G, w.M, upd w.H d o⟩ d m) : Step K w ⟨w.A ++ [d], w.G, w.M ++ [m], upd w.H d o⟩ ∧ (w.A ++ [d])[w.M.length]? = some d := by
  have s0 := ok.fresh0 hd o
  have hG : w.G d = none := ok.sub.free hd
  have ok2 := s0.ok.push (o := m) hG (ok.notA hd) hm
  refine ⟨⟨ok2, List.prefix_append _ _, Same.refl _, fun b o' z1 z2 z3 => ?_⟩, ?_⟩
  · refine ⟨?_, .inl z2, fun hm => (List.mem_append.mp hm).elim z3 fun z => by simp at z; subst z; rw [hd] at z1; cases z1⟩
    show upd w.H d o b = some o'
    rw [upd_ne (ne_of_none z1 hd)]
    exact z1
  · rw [← ok.len, List.getElem?_append_right (Nat.le_refl _), Nat.sub_self]
    rfl
def tPrs (ks : List Str) (fs : List TE) : List (TE × TE) := ks.zipWith (fun k f => (tC (.str k), f)) fs
def dVals : List FD → FL
  | [] => dNil
  | f :: fs => dCons f (dVals fs)
def mergeD (ks : List Str) (ds : List D) : List (Key × D) := (ks.zip ds).foldl (fun acc kv => putD acc (Sum.inr kv.1) kv.2) []
def dDisp (ks : List Str) (fs : List FD) : FD := fun ρ M => (dVals fs ρ M).bind fun ds M => if ds.length = ks.length ∧ ks.length ≤ 15 then .ok (.ref M.length) (M ++ [.dK (mergeD ks ds)]) else .bad
theorem pairs_ok {σ : L2.St} {ρ : EnvD} : ∀ (ks : List Str) (fs : List FD) (w w0 : Wd) (Q : List (V × V) → Hp → Prop), ks.length = fs.length → Step K w0 w → SR K w ρ σ →
    After K E w (dVals fs ρ w.M) (fun ds w' => ∀ vs, RepL K w'.A w'.G vs ds → Q (ks.zipWith (fun k v => (V.str k, v)) vs) w'.H) → tPairs (tPrs ks (fs.map (tF K E))) σ w.H Q
  | [], [], w, w0, Q, _, s, sr, a => by
    have a' : ∀ w', Step K w w' → w'.M = w.M → ∀ vs, RepL K w'.A w'.G vs [] → Q ([].zipWith (fun k v => (V.str k, v)) vs) w'.H := a
    exact a' w (Step.refl s.ok) rfl [] .nil
  | k :: ks, f :: fs, w, w0, Q, hl, s, sr, a => by
    refine ⟨ρ, w, rfl, s.ok, sr, ?_⟩
    have a1 : After K E w (dCons f (dVals fs) ρ w.M) _ := a
    refine a1.bind.imp fun d w1 s1 a2 v rv => ?_
    refine pairs_ok ks fs w1 w0 _ (by simpa using hl) (s.trans s1) (sr.step s1) (a2.bind.imp fun ds w2 s2 a3 vs rvs => ?_)
    exact a3 w2 (Step.refl s2.ok) rfl (v :: vs) (.cons (s2.rep rv) rvs)
  | [], _ :: _, _, _, _, hl, _, _, _ => by cases hl
  | _ :: _, [], _, _, _, hl, _, _, _ => by cases hl
theorem merge_rep {R : V → D → Prop} : ∀ (ks : List Str) (vs : List V) (ds : List D) (av : List (Key × V)) (ad : List (Key × D)), (∀ (i : Nat) (v : V), vs[i]? = some v → ∃ d, ds[i]? = some d ∧ R v d) → vs.length = ds.length → RepKV R av ad →
    RepKV R (mergeK av ((ks.zip vs).map fun kv => ((Sum.inr kv.1 : Key), kv.2))) ((ks.zip ds).foldl (fun acc kv => putD acc (Sum.inr kv.1) kv.2) ad)
  | [], _, _, _, _, _, _, h => by simpa [mergeK] using h
  | k :: ks, [], [], av, ad, _, _, h => by simpa [mergeK] using h
  | k :: ks, v :: vs, d :: ds, av, ad, hr, hl, h => by
    obtain ⟨d', e, r⟩ := hr 0 v rfl
    cases e
    have := merge_rep ks vs ds (putK av (Sum.inr k) v) (putD ad (Sum.inr k) d) (fun i x hx => by
      obtain ⟨y, h1, h2⟩ := hr (i + 1) x (by simpa using hx)
      exact ⟨y, by simpa using h1, h2⟩) (by simpa using hl) (h.put r (Sum.inr k))
    simpa [mergeK] using this
  | k :: ks, [], _ :: _, _, _, _, hl, _ => by cases hl
  | k :: ks, _ :: _, [], _, _, _, hl, _ => by cases hl
theorem zip_pairs : ∀ (ks : List Str) (vs : List V), ks.zipWith (fun k v => (V.str k, v)) vs = ((ks.zip vs).map fun kv => ((Sum.inr kv.1 : Key), kv.2)).map fun kv => (kV kv.1, kv.2)
  | [], _ => rfl
  | _ :: _, [] => rfl
  | k :: ks, v :: vs => by rw [List.zipWith_cons_cons, zip_pairs ks vs]; rfl
theorem x_disp {ks : List Str} {fs : List FD} (hl : ks.length = fs.length) (h : PE X e (tDisp (tPrs ks (fs.map (tF K E))))) : PE X e (tF K E (dDisp ks fs)) := PE.wk h fun σ H Q ⟨ρ, w, e1, ok, sr, a⟩ => by
  subst e1
  intro p hp
  have s0 := ok.fresh0 hp (.dK [])
  have hG : w.G p = none := ok.sub.free hp
  have hA := ok.notA hp
  refine pairs_ok ks fs ⟨w.A, w.G, w.M, upd w.H p (.dK [])⟩ w _ hl s0 (sr.step s0) ?_
  have a1 := (show After K E w ((dVals fs ρ w.M).bind _) _ from a).bind
  cases q : dVals fs ρ w.M with
  | bad => rw [q] at a1; exact a1
  | exc c d M => rw [q] at a1; exact fun w' s' e => a1 w' (s0.trans s') e
  | ok ds M =>
    rw [q] at a1
    intro w1 s1 eM vs rvs
    have s01 := s0.trans s1
    obtain ⟨k1, k2, k3⟩ := s1.keepN p (.dK []) upd_same hG hA
    have a2 := (show After K E w (dDisp ks fs ρ w.M) _ from a)
    have ed : dDisp ks fs ρ w.M = if ds.length = ks.length ∧ ks.length ≤ 15 then .ok (.ref M.length) (M ++ [.dK (mergeD ks ds)]) else .bad := by unfold dDisp; rw [q]; rfl
    rw [ed] at a2
    split at a2
    · rename_i hc
      refine ⟨k1, (ks.zip vs).map fun kv => ((Sum.inr kv.1 : Key), kv.2), zip_pairs ks vs, by simp; omega, ?_⟩
      have hrep : RepKV (Rep K w1.A w1.G) (mergeK [] ((ks.zip vs).map fun kv => ((Sum.inr kv.1 : Key), kv.2))) (mergeD ks ds) :=
        merge_rep ks vs ds [] [] (fun i v hv => rvs.get' hv) rvs.length .nil
      have okA := setOwn_ok (o := .dK (mergeK [] ((ks.zip vs).map fun kv => ((Sum.inr kv.1 : Key), kv.2)))) s1.ok k1 k2 k3
      have ok2 := okA.push (o := .dK (mergeD ks ds)) k2 k3 ⟨_, upd_same, hrep⟩
      have a3 : ∀ w', Step K w w' → w'.M = M ++ [.dK (mergeD ks ds)] → ∀ v, Rep K w'.A w'.G v (.ref M.length) → Q v w'.H := a2
      refine a3 ⟨w1.A ++ [p], w1.G, w1.M ++ [.dK (mergeD ks ds)], upd w1.H p (.dK (mergeK [] ((ks.zip vs).map fun kv => ((Sum.inr kv.1 : Key), kv.2))))⟩ ⟨ok2, s01.pre.trans (List.prefix_append _ _), s01.fro, fun b o z1 z2 z3 => ?_⟩ (by rw [eM]) _ (.ref ?_)
      · obtain ⟨c1, c2, c3⟩ := s01.keep b o z1 z2 z3
        refine ⟨?_, c2, fun hm => (List.mem_append.mp hm).elim c3 fun z => by simp at z; subst z; rw [hp] at z1; cases z1⟩
        show upd w1.H p _ b = some o
        rw [upd_ne (ne_of_none z1 hp)]
        exact c1
      · show (w1.A ++ [p])[M.length]? = some p
        have hl := s1.ok.len
        rw [eM] at hl
        rw [← hl, List.getElem?_append_right (Nat.le_refl _), Nat.sub_self]
        rfl
    · exact a2.elim
def tabFind (tab : List (Str × D)) (z : Str) : Option D := (tab.find? fun kv => decide (kv.1 = z)).map (·.2)
def dTab (tab : List (Str × D)) (f : FD) : FD := fun ρ M => (f ρ M).bind fun y M => match y with
  | .str z => R.of (tabFind tab z) M
  | _ => .bad
structure TabOk (K : PySem.W.Frag) (w : World) (q : Addr) (tab : List (Str × D)) : Prop where
  at_ : ∀ z d, tabFind tab z = some d → ∃ v, KDct K w q z v ∧ ∀ A G, Rep K A G v d
theorem x_tab {q : Addr} {tab : List (Str × D)} {f : FD} (T : TabOk X.K X.w q tab) (hK : X.K = K) (h : PE X e (tOp (rIxD X.K X.w) (tC (.ref q)) (tR K E f))) : PE X e (tF K E (dTab tab f)) := PE.wk h fun σ H Q ⟨ρ, w, e1, ok, sr, a⟩ => by
  subst e1
  refine ⟨ρ, w, rfl, ok, sr, a.bind.imp fun y w1 s1 a1 vy ry => ?_⟩
  split at a1
  · rename_i z
    obtain ⟨d, ed, k⟩ := a1.of (Step.refl s1.ok) rfl
    obtain ⟨v, kd, rv⟩ := T.at_ z d ed
    exact ⟨q, z, v, rfl, str_at ry, kd, k v (hK ▸ rv _ _)⟩
  · exact a1.elim
def tabIs (K : PySem.W.Frag) (q : Addr) (tab : List (Str × D)) : Bool := tab.all fun kv => match PySem.W.nsIn K q kv.1 with
  | some (some u) => valIs K 9 u kv.2
  | _ => false
theorem tab_ok {w : World} {q : Addr} {tab : List (Str × D)} {es : Array DictEntry} {n : Nat} (hl : K.lookup q = some ⟨.type "dict", none, .dict es n, #[]⟩) (hk : PySem.W.KeysLit w.params es.toList) (ht : tabIs K q tab = true) : TabOk K w q tab := by
  refine ⟨fun z d h => ?_⟩
  unfold tabFind at h
  cases q1 : tab.find? fun kv => decide (kv.1 = z) with
  | none => rw [q1] at h; cases h
  | some kv =>
    rw [q1] at h
    cases h
    have hm := List.mem_of_find?_eq_some q1
    have hz : kv.1 = z := by have := List.find?_some q1; simpa using this
    have h1 := List.all_eq_true.mp ht kv hm
    subst hz
    split at h1
    · rename_i u hu
      obtain ⟨x, rx, _⟩ := valIs_rep (K := K) (A := []) (G := fun _ => none) 9 u kv.2 h1
      refine ⟨x, ⟨es, n, u, hl, hk, hu, rx⟩, fun A G => ?_⟩
      obtain ⟨x', rx', rp⟩ := valIs_rep (K := K) (A := A) (G := G) 9 u kv.2 h1
      rw [rx.inj rx']
      exact rp
    · cases h1
end
end TP
namespace TP
open PySem L2
@[simp] theorem R.bind_ok {α β : Type} (a : α) (M : Store) (f : α → Store → R β) : (R.ok a M).bind f = f a M := rfl
@[simp] theorem R.map_ok {α β : Type} (a : α) (M : Store) (f : α → β) : (R.ok a M).map f = .ok (f a) M := rfl
@[simp] theorem R.out_ok {α : Type} (a : α) (M : Store) (f : α → Store → Out) : (R.ok a M).out f = f a M := rfl
@[simp] theorem R.of_some {α : Type} (a : α) (M : Store) : R.of (some a) M = .ok a M := rfl
@[simp] theorem szL : sizeLine = 16777216 := sizeLine_eq
@[simp] theorem Slot.d_val (d : D) : (Slot.val d).d = d := rfl
@[simp] theorem Slot.d_own (ds : List D) : (Slot.own ds).d = .lst ds := rfl
@[simp] theorem sNil_eq (ρ : EnvD) (M : Store) : sNil ρ M = .next ρ M := rfl
@[simp] theorem dC_eq (d : D) (ρ : EnvD) (M : Store) : dC d ρ M = .ok d M := rfl
@[simp] theorem dNil_eq (ρ : EnvD) (M : Store) : dNil ρ M = .ok [] M := rfl
@[simp] theorem dYes_eq (ρ : EnvD) (M : Store) : dYes ρ M = .ok true M := rfl
section
variable (ρ : EnvD) (M : Store)
@[simp] theorem dVar_eq (i : Nat) : dVar i ρ M = match ρ[i]? with
  | some (.val d) => .ok d M
  | _ => .bad := rfl
@[simp] theorem dVarB_eq (i : Nat) : dVarB i ρ M = match ρ[i]? with
  | some (.val d) => .ok d M
  | some (.own ds) => .ok (.lst ds) M
  | _ => .bad := rfl
@[simp] theorem dEF_eq (f : FE) : dEF f ρ M = (f ρ M).map Slot.d := rfl
@[simp] theorem dFE_eq (f : FD) : dFE f ρ M = (f ρ M).map Slot.val := rfl
@[simp] theorem dOp1_eq (g : Store → D → Option Slot) (f : FD) : dOp1 g f ρ M = (f ρ M).bind fun x M => R.of (g M x) M := rfl
@[simp] theorem dOp2_eq (g : Store → D → D → Option Slot) (fa fb : FD) : dOp2 g fa fb ρ M = (fa ρ M).bind fun x M => (fb ρ M).bind fun y M => R.of (g M x y) M := rfl
@[simp] theorem dPr_eq (g : Store → List D → Option Slot) (fs : FL) : dPr g fs ρ M = (fs ρ M).bind fun ds M => R.of (g M ds) M := rfl
@[simp] theorem dCons_eq (f : FD) (fs : FL) : dCons f fs ρ M = (f ρ M).bind fun d M => (fs ρ M).bind fun ds M => .ok (d :: ds) M := rfl
@[simp] theorem dTup_eq (fs : FL) : dTup fs ρ M = (fs ρ M).bind fun ds M => if ds.length ≤ sizeLine then .ok (.tup ds) M else .bad := rfl
@[simp] theorem dLst_eq (fs : FL) : dLst fs ρ M = (fs ρ M).bind fun ds M => if ds.length ≤ sizeLine then .ok (.own ds) M else .bad := rfl
@[simp] theorem dTru_eq (f : FD) : dTru f ρ M = (f ρ M).bind fun x M => R.of (truD M x) M := rfl
@[simp] theorem dBo_eq (f : FE) : dBo f ρ M = (f ρ M).bind fun x M => R.of (boD x.d) M := rfl
@[simp] theorem dNot_eq (f : FB) : dNot f ρ M = (f ρ M).map fun b => !b := rfl
@[simp] theorem dAnd_eq (f g : FB) : dAnd f g ρ M = (f ρ M).bind fun b M => if b then g ρ M else .ok false M := rfl
@[simp] theorem dOr_eq (f g : FB) : dOr f g ρ M = (f ρ M).bind fun b M => if b then .ok true M else g ρ M := rfl
@[simp] theorem dIf_eq (c : FB) (f g : FE) : dIf c f g ρ M = (c ρ M).bind fun b M => if b then f ρ M else g ρ M := rfl
@[simp] theorem dAndV_eq (f g : FE) : dAndV f g ρ M = (f ρ M).bind fun x M => match x with
  | .val (.bl true) => g ρ M
  | .val (.bl false) => .ok (.val (.bl false)) M
  | _ => .bad := rfl
@[simp] theorem dNotV_eq (f : FE) : dNotV f ρ M = (f ρ M).bind fun x M => match x with
  | .val (.bl b) => .ok (.val (.bl (!b))) M
  | _ => .bad := rfl
@[simp] theorem dNo_eq : dNo ρ M = .ok none M := rfl
@[simp] theorem dSo_eq (f : FD) : dSo f ρ M = (f ρ M).bind fun x M => match x with
  | .int i => .ok (some i) M
  | _ => .bad := rfl
@[simp] theorem dSl_eq (g : Store → D → Option Int → Option Int → Option Slot) (f : FD) (lo hi : FO) : dSl g f lo hi ρ M = (f ρ M).bind fun x M => (lo ρ M).bind fun l M => (hi ρ M).bind fun u M => R.of (g M x l u) M := rfl
@[simp] theorem dCall_eq (n : Nat) (m : Fn) (fs : FL) : dCall n m fs ρ M = (fs ρ M).bind fun ds M => if ds.length = n then m ds M else .bad := rfl
@[simp] theorem dIt_eq (f : FD) : dIt f ρ M = (f ρ M).bind fun x M => R.of (itemsD x) M := rfl
@[simp] theorem dRng1_eq (fs : FL) : dRng1 fs ρ M = (fs ρ M).bind fun ds M => R.of (rng1D ds) M := rfl
@[simp] theorem dLc_eq (fi : FL) (b : D → EnvD → Option EnvD) (c : FB) (f : FD) (vs : List Nat) : dLc fi b c f vs ρ M = (fi ρ M).bind fun items M => (lcGo b c f (wipeD ρ vs) items [] M).map Slot.own := rfl
@[simp] theorem dChain_eq (g g' : Store → D → D → Option Slot) (fa fb fc : FD) : dChain g g' fa fb fc ρ M = (fa ρ M).bind fun x M => (fb ρ M).bind fun y M => match g M x y with
  | some (.val (.bl true)) => (fc ρ M).bind fun z M => R.of (g' M y z) M
  | some (.val (.bl false)) => .ok (.val (.bl false)) M
  | _ => .bad := rfl
@[simp] theorem dRef_eq (f : FE) : dRef f ρ M = (f ρ M).bind fun x M => match x with
  | .own ds => .ok (.val (.ref M.length)) (M ++ [.lst ds])
  | _ => .bad := rfl
@[simp] theorem bName_eq (i : Nat) (d : D) : bName i d ρ = some (ρ.set i (.val d)) := rfl
@[simp] theorem sSeq_eq (g h : FS) : sSeq g h ρ M = match g ρ M with
  | .next ρ M => h ρ M
  | o => o := rfl
@[simp] theorem sRet_eq (f : FE) : sRet f ρ M = (f ρ M).out fun x M => .ret x M := rfl
@[simp] theorem sRetV_eq (i : Nat) : sRetV i ρ M = match ρ[i]? with
  | some (.val d) => .ret (.val d) M
  | some (.own ds) => .ret (.own ds) M
  | _ => .bad := rfl
@[simp] theorem sSet_eq (i : Nat) (f : FE) : sSet i f ρ M = (f ρ M).out fun x M => match x with
  | .un => .bad
  | x => .next (ρ.set i x) M := rfl
@[simp] theorem sAsg_eq (b : D → EnvD → Option EnvD) (f : FD) : sAsg b f ρ M = (f ρ M).out fun x M => match b x ρ with
  | some ρ' => .next ρ' M
  | none => .bad := rfl
@[simp] theorem sPar_eq (i j : Nat) (fs : FL) : sPar i j fs ρ M = (fs ρ M).out fun ds M => match ds with
  | [x, y] => .next ((ρ.set i (.val x)).set j (.val y)) M
  | _ => .bad := rfl
@[simp] theorem sIf_eq (c : FB) (g h : FS) : sIf c g h ρ M = (c ρ M).out fun b M => if b then g ρ M else h ρ M := rfl
@[simp] theorem sFor_eq (fi : FL) (b : D → EnvD → Option EnvD) (body : FS) : sFor fi b body ρ M = (fi ρ M).out fun items M => forGo b body items ρ M := rfl
@[simp] theorem sApp_eq (i : Nat) (f : FD) : sApp i f ρ M = match ρ[i]? with
  | some (.own ds) => (f ρ M).out fun d M => if ds.length < sizeLine then .next (ρ.set i (.own (ds ++ [d]))) M else .bad
  | _ => .bad := rfl
@[simp] theorem sExt_eq (i : Nat) (f : FD) : sExt i f ρ M = match ρ[i]? with
  | some (.own ds) => (f ρ M).out fun d M => match lstOf M d with
    | some es => if ds.length + es.length ≤ sizeLine then .next (ρ.set i (.own (ds ++ es))) M else .bad
    | none => .bad
  | _ => .bad := rfl
@[simp] theorem sFz_eq (i : Nat) (g : FS) : sFz i g ρ M = match ρ[i]? with
  | some (.own ds) => g (ρ.set i (.val (.lst ds))) M
  | _ => g ρ M := rfl
@[simp] theorem sPutR_eq (f fo fi : FD) : sPutR f fo fi ρ M = (f ρ M).out fun x M => (fo ρ M).out fun o M => (fi ρ M).out fun i M => match o, i with
  | .ref k, .int j => match M[k]? with
    | some (.lst ds) => match ixN ds.length j with
      | some n => .next ρ (M.set k (.lst (ds.set n x)))
      | none => .bad
    | _ => .bad
  | _, _ => .bad := rfl
end
section
variable (M : Store)
@[simp] theorem addD_int (i j : Int) : addD M (.int i) (.int j) = some (.val (.int (i + j))) := rfl
@[simp] theorem subD_int (i j : Int) : subD M (.int i) (.int j) = some (.val (.int (i - j))) := rfl
@[simp] theorem mulD_int (i j : Int) : mulD M (.int i) (.int j) = if mulOk i j then some (.val (.int (i * j))) else none := rfl
@[simp] theorem fdivD_int (i j : Int) : fdivD M (.int i) (.int j) = if 0 < j ∧ j < 1073741824 then some (.val (.int (i / j))) else if 0 < j ∧ j.natAbs.log2 < 9000 then some (.val (.int (i / j))) else if j ≠ 0 ∧ j.natAbs < 1073741824 then some (.val (.int (i.fdiv j))) else if j ≠ 0 ∧ j.natAbs.log2 < 9000 then some (.val (.int (i.fdiv j))) else none := rfl
@[simp] theorem modD_int (i j : Int) : modD M (.int i) (.int j) = if 0 < j then some (.val (.int (i % j))) else if j ≠ 0 then some (.val (.int (i.fmod j))) else none := rfl
@[simp] theorem powD_int (i j : Int) : powD M (.int i) (.int j) = if 0 ≤ j ∧ j ≤ 1000000 ∧ i.natAbs < 2 ^ 64 then some (.val (.int (i ^ j.toNat))) else none := rfl
@[simp] theorem negD_int (i : Int) : negD M (.int i) = some (.val (.int (-i))) := rfl
@[simp] theorem cmpD_int (p : Int → Int → Bool) (i j : Int) : cmpD p M (.int i) (.int j) = some (.val (.bl (p i j))) := rfl
@[simp] theorem boD_bl (b : Bool) : boD (.bl b) = some b := rfl
@[simp] theorem truD_bl (b : Bool) : truD M (.bl b) = some b := rfl
@[simp] theorem idxD_tup (ds : List D) (i : Int) : idxD M (.tup ds) (.int i) = (atI ds i).map Slot.val := rfl
@[simp] theorem idxD_kt (ds : List D) (i : Int) : idxD M (.kt ds) (.int i) = (atI ds i).map Slot.val := rfl
@[simp] theorem idxD_lst (ds : List D) (i : Int) : idxD M (.lst ds) (.int i) = (atI ds i).map Slot.val := rfl
@[simp] theorem idxD_str (z : Str) (i : Int) : idxD M (.str z) (.int i) = if z.length ≤ sizeLine then (atI z.cps.toList i).map fun c => .val (.str ⟨#[c]⟩) else none := rfl
@[simp] theorem lenD_lst (ds : List D) : lenD M [.lst ds] = some (.val (.int ds.length)) := rfl
@[simp] theorem lenD_fro (ds : List D) : lenD M [.fro ds] = some (.val (.int ds.length)) := rfl
@[simp] theorem lenD_tup (ds : List D) : lenD M [.tup ds] = some (.val (.int ds.length)) := rfl
@[simp] theorem lenD_str (z : Str) : lenD M [.str z] = if z.length ≤ sizeLine then some (.val (.int z.length)) else none := rfl
theorem idxD_ref {k : Nat} {ds : List D} (h : M[k]? = some (.lst ds)) (i : Int) : idxD M (.ref k) (.int i) = (atI ds i).map Slot.val := by
  simp [idxD, seqOf, lstOf, h]
end
@[simp] theorem rng1D_int (j : Int) : rng1D [.int j] = if -(2 ^ 62) ≤ j ∧ j < 2 ^ 62 then some (rngL 0 j.toNat) else none := rfl
theorem rng1_ok {j : Int} (h0 : -(2 ^ 62) ≤ j) (h1 : j < 2 ^ 62) : rng1D [.int j] = some (rngL 0 j.toNat) := by rw [rng1D_int, if_pos ⟨h0, h1⟩]
theorem rngL_get {lo : Int} {n i : Nat} {d : D} (h : (rngL lo n)[i]? = some d) : i < n ∧ d = .int (lo + i) := by
  have hi : i < n := by have := (List.getElem?_eq_some_iff.mp h).1; rwa [rngL_len] at this
  unfold rngL at h
  rw [List.getElem?_map, List.getElem?_range hi] at h
  cases h
  exact ⟨hi, rfl⟩
section
variable (M : Store)
theorem eqvD_int (i j : Int) : eqvD (.int i) (.int j) = decide (i = j) := by
  rw [Bool.eq_iff_iff]; simp [eqvD]
theorem eqvD_bl (i j : Bool) : eqvD (.bl i) (.bl j) = decide (i = j) := by
  rw [Bool.eq_iff_iff]; simp [eqvD]
theorem eqvD_str (i j : Str) : eqvD (.str i) (.str j) = decide (i = j) := by
  rw [Bool.eq_iff_iff]; simp [eqvD]
@[simp] theorem eqD_int (i j : Int) : eqD M (.int i) (.int j) = some (.val (.bl (decide (i = j)))) := by
  have h : eqD M (.int i) (.int j) = some (.val (.bl (eqvD (.int i) (.int j)))) := rfl
  rw [h, eqvD_int]
@[simp] theorem neD_int (i j : Int) : neD M (.int i) (.int j) = some (.val (.bl (!decide (i = j)))) := by
  have h : neD M (.int i) (.int j) = some (.val (.bl (!eqvD (.int i) (.int j)))) := rfl
  rw [h, eqvD_int]
@[simp] theorem eqD_bl (i j : Bool) : eqD M (.bl i) (.bl j) = some (.val (.bl (decide (i = j)))) := by
  have h : eqD M (.bl i) (.bl j) = some (.val (.bl (eqvD (.bl i) (.bl j)))) := rfl
  rw [h, eqvD_bl]
@[simp] theorem neD_bl (i j : Bool) : neD M (.bl i) (.bl j) = some (.val (.bl (!decide (i = j)))) := by
  have h : neD M (.bl i) (.bl j) = some (.val (.bl (!eqvD (.bl i) (.bl j)))) := rfl
  rw [h, eqvD_bl]
def okStr (x : Str) : Bool := x.cps.all (· < 0x110000)
theorem eqS (i j : Str) : eqD M (.str i) (.str j) = some (.val (.bl (decide (i = j)))) := rfl
theorem neS (i j : Str) : neD M (.str i) (.str j) = some (.val (.bl (!decide (i = j)))) := rfl
theorem eqD_str {i j : Str} (hi : okStr i = true) (hj : okStr j = true) : eqD M (.str i) (.str j) = some (.val (.bl (decide (i = j)))) := rfl
theorem neD_str {i j : Str} (hi : okStr i = true) (hj : okStr j = true) : neD M (.str i) (.str j) = some (.val (.bl (!decide (i = j)))) := rfl
theorem strP_eqv {x y : D} {b : Bool} (h : strP x y = some b) : b = eqvD x y := by
  obtain ⟨i, j, rfl, rfl, rfl⟩ := strP_at h
  rw [eqvD_str]
theorem eqD_of {x y : D} (hx : goodD x = true) (hy : goodD y = true) (hd : dpD x ≤ 190) : eqD M x y = some (.val (.bl (eqvD x y))) := by
  unfold eqD
  split
  · rename_i b hb
    rw [strP_eqv hb]
  · rw [der_good M hx, der_good M hy, hx, hy, if_pos (by simp; omega)]
theorem neD_of {x y : D} (hx : goodD x = true) (hy : goodD y = true) (hd : dpD x ≤ 190) : neD M x y = some (.val (.bl (!eqvD x y))) := by
  unfold neD
  split
  · rename_i b hb
    rw [strP_eqv hb]
  · rw [der_good M hx, der_good M hy, hx, hy, if_pos (by simp; omega)]
end
theorem mulOk_l {i j : Int} (h : -(2 ^ 64) < i) (h' : i < 2 ^ 64) : mulOk i j = true := by
  unfold mulOk
  rw [decide_eq_true (show -(2 ^ 64) < i ∧ i < 2 ^ 64 from ⟨h, h'⟩)]
  rfl
theorem mulOk_r {i j : Int} (h : -(2 ^ 64) < j) (h' : j < 2 ^ 64) : mulOk i j = true := by
  unfold mulOk
  rw [decide_eq_true (show -(2 ^ 64) < j ∧ j < 2 ^ 64 from ⟨h, h'⟩), Bool.or_true]
  rfl
theorem lcGo_fm {b : D → EnvD → Option EnvD} {c : FB} {f : FD} {ρ0 : EnvD} {M : Store} (p : D → Bool) (g : D → D) : ∀ (items acc : List D),
    (∀ d ∈ items, ∃ ρ1, b d ρ0 = some ρ1 ∧ c ρ1 M = .ok (p d) M ∧ (p d = true → f ρ1 M = .ok (g d) M)) → acc.length + items.length ≤ sizeLine → lcGo b c f ρ0 items acc M = .ok (acc ++ (items.filter p).map g) M
  | [], acc, _, _ => by simp [lcGo]
  | d :: ds, acc, h, hl => by
    obtain ⟨ρ1, h1, h2, h3⟩ := h d List.mem_cons_self
    unfold lcGo
    rw [h1]
    simp only
    rw [h2]
    rw [List.length_cons] at hl
    cases hp : p d with
    | false =>
      simp only
      rw [lcGo_fm p g ds acc (fun x hx => h x (List.mem_cons_of_mem _ hx)) (by omega), List.filter_cons_of_neg (by rw [hp]; decide)]
    | true =>
      simp only
      rw [h3 hp]
      simp only
      rw [if_pos (by omega), lcGo_fm p g ds (acc ++ [g d]) (fun x hx => h x (List.mem_cons_of_mem _ hx)) (by rw [List.length_append, List.length_singleton]; omega), List.filter_cons_of_pos hp, List.map_cons, List.append_assoc]
      rfl
theorem lcGo_map {b : D → EnvD → Option EnvD} {f : FD} {ρ0 : EnvD} {M : Store} (g : D → D) (items : List D) (h : ∀ d ∈ items, ∃ ρ1, b d ρ0 = some ρ1 ∧ f ρ1 M = .ok (g d) M) (hl : items.length ≤ sizeLine) : lcGo b dYes f ρ0 items [] M = .ok (items.map g) M := by
  rw [lcGo_fm (fun _ => true) g items [] (fun d hd => by obtain ⟨ρ1, h1, h2⟩ := h d hd; exact ⟨ρ1, h1, rfl, fun _ => h2⟩) (by simpa using hl)]
  rw [List.filter_eq_self.mpr (fun _ _ => rfl), List.nil_append]
theorem lcGo_inv {b : D → EnvD → Option EnvD} {f : FD} {ρ0 : EnvD} (I : Nat → List D → Store → Prop) (items : List D) (hl : items.length ≤ sizeLine)
    (step : ∀ i d acc M, items[i]? = some d → I i acc M → ∃ ρ1, b d ρ0 = some ρ1 ∧ ∃ y M', f ρ1 M = .ok y M' ∧ I (i + 1) (acc ++ [y]) M') :
    ∀ (n i : Nat) (acc : List D) (M : Store), n + i = items.length → acc.length = i → I i acc M → ∃ res M', lcGo b dYes f ρ0 (items.drop i) acc M = .ok res M' ∧ I items.length res M' ∧ res.length = items.length
  | 0, i, acc, M, e, ha, h => by
    have ei : i = items.length := by omega
    subst ei
    rw [List.drop_length]
    exact ⟨acc, M, rfl, h, ha⟩
  | n + 1, i, acc, M, e, ha, h => by
    have hi : i < items.length := by omega
    rw [List.drop_eq_getElem_cons hi]
    obtain ⟨ρ1, h1, y, M', h2, h3⟩ := step i items[i] acc M (List.getElem?_eq_getElem hi) h
    unfold lcGo
    rw [h1]
    simp only [dYes_eq]
    rw [h2]
    simp only
    rw [if_pos (by omega)]
    exact lcGo_inv I items hl step n (i + 1) (acc ++ [y]) M' (by omega) (by rw [List.length_append, ha]; rfl) h3
theorem forGo_inv {b : D → EnvD → Option EnvD} {body : FS} (I : Nat → EnvD → Store → Prop) (items : List D)
    (step : ∀ i d ρ M, items[i]? = some d → I i ρ M → ∃ ρ1, b d ρ = some ρ1 ∧ ((∃ ρ2 M2, body ρ1 M = .next ρ2 M2 ∧ I (i + 1) ρ2 M2) ∨ ∃ ρ2 M2, body ρ1 M = .cont ρ2 M2 ∧ I (i + 1) ρ2 M2)) :
    ∀ (n i : Nat) (ρ : EnvD) (M : Store), n + i = items.length → I i ρ M → ∃ ρ' M', forGo b body (items.drop i) ρ M = .next ρ' M' ∧ I items.length ρ' M'
  | 0, i, ρ, M, e, h => by
    have ei : i = items.length := by omega
    subst ei
    rw [List.drop_length]
    exact ⟨ρ, M, rfl, h⟩
  | n + 1, i, ρ, M, e, h => by
    have hi : i < items.length := by omega
    rw [List.drop_eq_getElem_cons hi]
    obtain ⟨ρ1, h1, h2⟩ := step i items[i] ρ M (List.getElem?_eq_getElem hi) h
    unfold forGo
    rw [h1]
    simp only
    rcases h2 with ⟨ρ2, M2, h2, h3⟩ | ⟨ρ2, M2, h2, h3⟩
    · rw [h2]
      exact forGo_inv I items step n (i + 1) ρ2 M2 (by omega) h3
    · rw [h2]
      exact forGo_inv I items step n (i + 1) ρ2 M2 (by omega) h3
theorem forGo_all {b : D → EnvD → Option EnvD} {body : FS} (I : Nat → EnvD → Store → Prop) (items : List D) {ρ : EnvD} {M : Store} (h0 : I 0 ρ M)
    (step : ∀ i d ρ M, items[i]? = some d → I i ρ M → ∃ ρ1, b d ρ = some ρ1 ∧ ∃ ρ2 M2, body ρ1 M = .next ρ2 M2 ∧ I (i + 1) ρ2 M2) : ∃ ρ' M', forGo b body items ρ M = .next ρ' M' ∧ I items.length ρ' M' := by
  have := forGo_inv (b := b) (body := body) I items (fun i d ρ M hd h => by obtain ⟨ρ1, h1, h2⟩ := step i d ρ M hd h; exact ⟨ρ1, h1, .inl h2⟩) items.length 0 ρ M rfl h0
  simpa using this
end TP
namespace TP
open PySem L2
def cellM : FS := (sSeq (sPutR (dEF (dOp2 addD (dEF (dOp2 idxD (dVarB 1) (dC (.int 0)))) (dC (.int 1)))) (dVarB 1) (dC (.int 0))) (sSeq (sSet 2 (dFE (dEF (dOp2 idxD (dVarB 1) (dC (.int 0)))))) (sSeq (sSet 3 (dFE (dEF (dOp2 addD (dEF (dOp2 mulD (dEF (dOp2 mulD (dC (.int 31)) (dVarB 2))) (dVarB 2))) (dEF (dOp2 mulD (dC (.int 7919)) (dVarB 2))))))) (sSeq (sIf (dAnd (dBo (dOp2 (cmpD fun i j => decide (j < i)) (dEF (dPr lenD (dCons (dVarB 0) dNil))) (dC (.int 0)))) (dAnd (dBo (dOp2 (cmpD fun i j => decide (j ≤ i)) (dEF (dOp2 idxD (dVarB 0) (dEF (dOp2 modD (dVarB 2) (dEF (dPr lenD (dCons (dVarB 0) dNil))))))) (dEF (dOp2 powD (dC (.int 10)) (dC (.int 18)))))) (dBo (dOp2 (cmpD fun i j => decide (i < j)) (dEF (dOp2 fdivD (dVarB 2) (dEF (dPr lenD (dCons (dVarB 0) dNil))))) (dC (.int 60)))))) (sSeq (sSet 4 (dFE (dEF (dOp2 idxD (dVarB 0) (dEF (dOp2 modD (dVarB 2) (dEF (dPr lenD (dCons (dVarB 0) dNil))))))))) (sSeq (sFor (dRng1 (dCons (dEF (dOp2 fdivD (dVarB 2) (dEF (dPr lenD (dCons (dVarB 0) dNil))))) dNil)) (bName 5) (sSeq (sSet 4 (dFE (dEF (dOp2 fdivD (dVarB 4) (dC (.int 306783379)))))) sNil)) (sSeq (sIf (dBo (dOp2 (cmpD fun i j => decide (j < i)) (dVarB 4) (dC (.int 0)))) (sSeq (sRet (dOp2 modD (dVarB 4) (dC (.int 306783379)))) sNil) sNil) sNil))) sNil) (sSeq (sIf (dBo (dOp2 (cmpD fun i j => decide (j < i)) (dEF (dPr lenD (dCons (dVarB 0) dNil))) (dC (.int 0)))) (sSeq (sSet 3 (dFE (dEF (dOp2 addD (dVarB 3) (dEF (dOp2 mulD (dEF (dOp2 modD (dEF (dOp2 idxD (dVarB 0) (dEF (dOp2 modD (dVarB 2) (dEF (dPr lenD (dCons (dVarB 0) dNil))))))) (dC (.int 2147483629)))) (dEF (dOp2 addD (dC (.int 1)) (dEF (dOp2 fdivD (dVarB 2) (dEF (dPr lenD (dCons (dVarB 0) dNil))))))))))))) sNil) sNil) (sSeq (sRet (dOp2 fdivD (dEF (dOp2 modD (dEF (dOp2 mulD (dEF (dOp2 modD (dEF (dOp2 mulD (dVarB 3) (dC (.int 48271)))) (dC (.int 2147483647)))) (dC (.int 69621)))) (dC (.int 2147483629)))) (dC (.int 7)))) sNil))))))
theorem atI_ints {ns : List Int} {i : Int} (h0 : 0 ≤ i) (h1 : i < ns.length) : ∃ v, atI (ns.map D.int) i = some (.int v) := by
  have hi : i.toNat < ns.length := by omega
  have e : ((i.toNat : Nat) : Int) = i := by omega
  generalize i.toNat = j at hi e
  subst e
  refine ⟨ns[j], ?_⟩
  exact atI_nat (by rw [List.getElem?_map, List.getElem?_eq_getElem hi]; rfl)
set_option maxHeartbeats 2000000 in
theorem cell_genB (c : D) (ns : List Int) (hlen : ∀ M, lenD M [c] = some (.val (.int ns.length))) (hidx : ∀ M i, idxD M c (.int i) = (atI (ns.map D.int) i).map Slot.val) (j : Nat) (k : Int) (M : Store) (hns : ns.length ≤ 63) (hj : M[j]? = some (.lst [.int k])) (h0 : -1 ≤ k) (h1 : k < 2 ^ 40) :
    ∃ r : Int, (0 ≤ r ∧ r < 306783379) ∧ runF 6 cellM [c, .ref j] M = .ok (.val (.int r)) (M.set j (.lst [.int (k + 1)])) := by
  have hjl : j < M.length := (List.getElem?_eq_some_iff.mp hj).1
  have hM : (M.set j (.lst [.int (k + 1)]))[j]? = some (.lst [.int (k + 1)]) := List.getElem?_set_self hjl
  have a0 : ∀ d : D, atI [d] 0 = some d := fun d => rfl
  have i0 : ixN 1 0 = some 0 := rfl
  have m1 : mulOk 31 (k + 1) = true := mulOk_l (by decide) (by decide)
  have m2 : mulOk (31 * (k + 1)) (k + 1) = true := mulOk_r (by omega) (by omega)
  have m3 : mulOk 7919 (k + 1) = true := mulOk_l (by decide) (by decide)
  have m4 : ∀ x, mulOk x 48271 = true := fun x => mulOk_r (by decide) (by decide)
  have m5 : ∀ x, mulOk x 69621 = true := fun x => mulOk_r (by decide) (by decide)
  have fin : ∀ b : Int, 0 ≤ b * 48271 % 2147483647 * 69621 % 2147483629 / 7 ∧ b * 48271 % 2147483647 * 69621 % 2147483629 / 7 < 306783379 := fun b => by omega
  unfold runF cellM startD
  cases ns with
  | nil =>
    simp [hlen, hidx, idxD_ref _ hj, idxD_ref _ hM, hj, a0, i0, m1, m2, m3, m4, m5]
    exact fin _
  | cons n ns =>
    have hl : 0 < (n :: ns).length := by simp
    generalize hL : ((n :: ns).length : Nat) = L at hl hns
    generalize hA : n :: ns = all at hL hlen hidx
    have hp1 : 0 ≤ (k + 1) % (L : Int) := Int.emod_nonneg _ (by omega)
    have hp2 : (k + 1) % (L : Int) < L := Int.emod_lt_of_pos _ (by omega)
    obtain ⟨v, hv⟩ := atI_ints (ns := all) hp1 (by omega)
    have m6 : mulOk (v % 2147483629) (1 + (k + 1) / (L : Int)) = true := mulOk_l (by omega) (by omega)
    have hdiv : (L : Int) < 1073741824 := by omega
    have hq0 : 0 ≤ (k + 1) / (L : Int) := Int.ediv_nonneg (by omega) (by omega)
    have hq1 : (k + 1) / (L : Int) ≤ k + 1 := Int.ediv_le_self _ (by omega)
    simp only [List.replicate, List.map_cons, List.map_nil, List.length_cons, List.length_nil]
    by_cases hv2 : 1000000000000000000 ≤ v ∧ (k + 1) / (L : Int) < 60
    · -- its own digits
      have hr : -4611686018427387904 ≤ (k + 1) / (L : Int) ∧ (k + 1) / (L : Int) < 4611686018427387904 := ⟨by omega, by omega⟩
      obtain ⟨ρ', M', e1, ⟨x, y, e2⟩, e3⟩ := forGo_all (b := bName 5) (body := (sSeq (sSet 4 (dFE (dEF (dOp2 fdivD (dVarB 4) (dC (D.int 306783379)))))) sNil))
        (fun _ ρ N => (∃ (x : Int) (y : Slot), ρ = [Slot.val c, Slot.val (D.ref j), Slot.val (D.int (k + 1)), Slot.val (D.int (31 * (k + 1) * (k + 1) + 7919 * (k + 1))), Slot.val (D.int x), y]) ∧ N = M.set j (.lst [.int (k + 1)]))
        (rngL 0 ((k + 1) / (L : Int)).toNat) (ρ := [Slot.val c, Slot.val (D.ref j), Slot.val (D.int (k + 1)), Slot.val (D.int (31 * (k + 1) * (k + 1) + 7919 * (k + 1))), Slot.val (D.int v), .un]) (M := M.set j (.lst [.int (k + 1)])) ⟨⟨v, .un, rfl⟩, rfl⟩
        (fun i d ρ N hd ⟨⟨x, y, e⟩, eN⟩ => by
          subst e eN
          refine ⟨_, rfl, _, _, by simp; rfl, ⟨x / 306783379, .val d, by simp⟩, rfl⟩)
      subst e2 e3
      by_cases hx : 0 < x
      · refine ⟨x % 306783379, by omega, ?_⟩
        simp [hlen, hidx, idxD_ref _ hj, idxD_ref _ hM, hj, a0, i0, m1, m2, m3, m4, m5, m6, hL, hv, hdiv, hl, hv2.1, hv2.2, hr, e1, hx]
      · simp [hlen, hidx, idxD_ref _ hj, idxD_ref _ hM, hj, a0, i0, m1, m2, m3, m4, m5, m6, hL, hv, hdiv, hl, hv2.1, hv2.2, hr, e1, hx]
        exact fin _
    · have hv3 : (if 1000000000000000000 ≤ v then decide ((k + 1) / (L : Int) < 60) else false) = false := by
        split
        · exact decide_eq_false fun z => hv2 ⟨by assumption, z⟩
        · rfl
      by_cases hv4 : 1000000000000000000 ≤ v
      · have hv5 : ¬ (k + 1) / (L : Int) < 60 := fun z => hv2 ⟨hv4, z⟩
        simp [hlen, hidx, idxD_ref _ hj, idxD_ref _ hM, hj, a0, i0, m1, m2, m3, m4, m5, m6, hL, hv, hdiv, hl, hv4, hv5]
        exact fin _
      · simp [hlen, hidx, idxD_ref _ hj, idxD_ref _ hM, hj, a0, i0, m1, m2, m3, m4, m5, m6, hL, hv, hdiv, hl, hv4]
        exact fin _
theorem cell_gen (c : D) (ns : List Int) (hlen : ∀ M, lenD M [c] = some (.val (.int ns.length))) (hidx : ∀ M i, idxD M c (.int i) = (atI (ns.map D.int) i).map Slot.val) (j : Nat) (k : Int) (M : Store) (hns : ns.length ≤ 63) (hj : M[j]? = some (.lst [.int k])) (h0 : -1 ≤ k) (h1 : k < 2 ^ 40) :
    ∃ r : Int, 0 ≤ r ∧ runF 6 cellM [c, .ref j] M = .ok (.val (.int r)) (M.set j (.lst [.int (k + 1)])) := by
  obtain ⟨r, h, e⟩ := cell_genB c ns hlen hidx j k M hns hj h0 h1
  exact ⟨r, h.1, e⟩
theorem cell_fro (ns : List Int) (j : Nat) (k : Int) (M : Store) (hns : ns.length ≤ 63) (hj : M[j]? = some (.lst [.int k])) (h0 : -1 ≤ k) (h1 : k < 2 ^ 40) :
    ∃ r : Int, 0 ≤ r ∧ runF 6 cellM [.fro (ns.map .int), .ref j] M = .ok (.val (.int r)) (M.set j (.lst [.int (k + 1)])) :=
  cell_gen _ ns (fun M => by show some (Slot.val (D.int (List.map D.int ns).length)) = _; rw [List.length_map]) (fun M i => rfl) j k M hns hj h0 h1
theorem cell_ok (ns : List Int) (j : Nat) (k : Int) (M : Store) (hns : ns.length ≤ 63) (hj : M[j]? = some (.lst [.int k])) (h0 : -1 ≤ k) (h1 : k < 2 ^ 40) :
    ∃ r : Int, 0 ≤ r ∧ runF 6 cellM [.lst (ns.map .int), .ref j] M = .ok (.val (.int r)) (M.set j (.lst [.int (k + 1)])) :=
  cell_gen _ ns (fun M => by show some (Slot.val (D.int (List.map D.int ns).length)) = _; rw [List.length_map]) (fun M i => rfl) j k M hns hj h0 h1
end TP
namespace TP
open PySem L2
section
variable (ρ : EnvD) (M : Store)
@[simp] theorem dTab_eq (tab : List (Str × D)) (f : FD) : dTab tab f ρ M = (f ρ M).bind fun y M => match y with
  | .str z => R.of (tabFind tab z) M
  | _ => .bad := rfl
@[simp] theorem sPutD_eq (f fo fi : FD) : sPutD f fo fi ρ M = (f ρ M).out fun z M => (fo ρ M).out fun x M => (fi ρ M).out fun y M => match dPutM M x y z with
  | some M' => .next ρ M'
  | none => .bad := rfl
@[simp] theorem dDisp_eq (ks : List Str) (fs : List FD) : dDisp ks fs ρ M = (dVals fs ρ M).bind fun ds M => if ds.length = ks.length ∧ ks.length ≤ 15 then .ok (.ref M.length) (M ++ [.dK (mergeD ks ds)]) else .bad := rfl
end
end TP
namespace TP
open PySem L2
structure GOk (P : Program) (wo : World) (K : PySem.W.Frag) (mg : Str → Option Value) (base : Heap) (CX : CXT) (k : Nat) (f : Addr) (fd : FuncData) (ps : List Str) (sp : Sp) : Prop where
  len : ∀ vs H Q EX, sp vs H Q EX → vs.length = ps.length
  go : ∀ (A : Around) (outer : List Env) (s : Shared) (H : Hp) (ar : Args) (us : List Value) (vs : List V) (Q : VK) (EX : XK),
    Room k A → A.guards = some [] → Env0 P wo K mg base A outer s H → BindsTo s fd ar (ps.zip us) → Vals vs us → sp vs H Q EX →
    codeAny (model P wo) A (.call (.ref f) ar) (CR CX outer P wo H s Q EX) s
section
variable {X : Cx} {CX : CXT} {k : Nat} {f C : Addr} {fd : FuncData} {ps : List Str} {sp : Sp} {EX : XK} {x m : Str} {p pos apos : Pos} {e o : Expr} {es : List Expr} {ta : TE} {t : TA}
theorem g_run {pins : List (Addr × Obj)} {σ : St} {H : Hp} {s : Shared} {Q : VK} {us : List Value} {vs : List V} (F : GOk X.prog X.w X.K X.mg X.base CX k f fd ps sp) (hr : Room k X.A) (hq : X.A.guards = some [])
    (hb : Binds X.K fd ps []) (hx : Passes CX X EX) (I : Inv X pins σ H s) (r : Vals vs us) (h : sp vs H Q EX) : wpAny (model X.prog X.w) X.A (call (.ref f) us) (EP X pins σ Q) X.xe s := by
  have hl : (us ++ []).length = ps.length := by
    rw [List.append_nil, ← r.length]
    exact F.len _ _ _ _ h
  have hb' := hb s us I.kIn hl
  rw [List.append_nil] at hb'
  refine wpAny_call (codeAny_mono (F.go X.A X.stack s H ⟨us, []⟩ us vs Q EX hr hq I.env0 hb' r h) fun z s' hz => ?_)
  match z, hz with
  | .error er, hz => exact hx pins σ H s er s' I hz
  | .ok (.ret u), hz => exact I.after hz
  | .ok .next, hz => exact False.elim hz
  | .ok .brk, hz => exact False.elim hz
  | .ok .cont, hz => exact False.elim hz
theorem g_call (F : GOk X.prog X.w X.K X.mg X.base CX k f fd ps sp) (hr : Room k X.A) (hq : X.A.guards = some []) (hg : Gl X x) (hm : X.mg x = some (.ref f)) (hk : PySem.W.keepIn X.K (.ref f) = true) (hb : Binds X.K fd ps [])
    (hx : Passes CX X EX) (ha : PA X (e :: es) t) (hdb : (x == ("__debug__" : Str)) = false := by decide) (he : starEach (e :: es) X.env = (false, eval e X.env) :: starEach es X.env := by rfl)
    (hpl : (backTo pos (starEach es X.env)).any (·.1) = false := by rfl) : PE X (.Call (.Name x p) (e :: es) [] pos) (tCall sp [] EX t) :=
  ⟨fun pins s σ H Q I h => wpAny_Call_Name_kw (ld_glob I hg hm (PySem.W.callWith_K (h₀ := X.base) I.ok.mod.kin hk
    (thn (ha.run pos pins s σ H _ I h) fun us s1 ⟨vs, H1, I1, r, q⟩ => ⟨I1.kIn, g_run F hr hq hb hx I1 r (by have q' : sp (vs ++ []) H1 Q EX := q; rw [List.append_nil] at q'; exact q')⟩) he hpl) hdb)⟩
end
section
open PySem.Spec PyProof.Rows
variable {K : PySem.W.Frag}
theorem g_of {CX : CXT} {P : Program} {wo : World} {mg : Str → Option Value} {base : Heap} {x qual : Str} {st : Stmt} {f : Addr} {fd : FuncData} {N ps : List Str} {k : Nat} {sp : Sp} (F : Fun K x qual st f fd) (S : FnScope N ps (defScope st))
    (len : ∀ vs H Q EX, sp vs H Q EX → vs.length = ps.length)
    (hbody : ∀ (cdv : Value) (A : Around) (outer : List Env) (s : Shared) (H : Hp) (vs : List V) (Q : VK) (EX : XK), Room k (A.deeper (envOfC qual (defScope st) s.heap.objs.size f cdv)) → (A.deeper (envOfC qual (defScope st) s.heap.objs.size f cdv)).guards = some [] → sp vs H Q EX →
      ∃ t, PSs (cxOf CX P wo K mg base N qual (defScope st) f cdv A outer s H EX) (defBody st) t ∧ t { nx := fun _ H' => Q .non H', rt := Q } (L2.start N vs) H) : GOk P wo K mg base CX (k + 1) f fd ps sp := by
  obtain ⟨oc, od, kV, doc, pm, an, cdv, ct, osl, rfl, lk, hcd⟩ := F.ex
  refine ⟨len, ?_⟩
  intro A outer s H ar us vs Q EX hr hq e0 hb r hsp
  have hl := len _ _ _ _ hsp
  have kin : K.In s.heap := e0.mod.kin.keeps fun b o z => (e0.bs b o z).1
  have nl : s.heap.NoLimit := e0.mod.nolimit.keeps fun b o z => (e0.bs b o z).1
  have kinds : ∀ y ∈ ps.zip us, (defScope st).names.lookup y.1 = some .local
      ∨ ((defScope st).names.lookup y.1 = some .cell ∧ ((cellsFrom (s.heap.objs.size + 1) (defScope st).names []).lookup y.1).isSome = true) := by
    rintro ⟨n, v⟩ hy
    exact (S.par n (List.of_mem_zip hy).1).imp id fun z => ⟨z, PySem.W.cellsFrom_some _ _ _ (.inl z)⟩
  refine codeAny_call_function hr.depth (kin _ _ lk) rfl S.co S.gen rfl (PySem.W.codeRec_of kin hcd) (hb _ _ _ _ ?_)
  refine wpAny_newFunctionEnv_cells S.kind kinds ?_
  rintro env rfl s1 xc
  refine ⟨nl.keeps xc.toInCall.keep, codeAny_func ?_⟩
  obtain ⟨t, ht, hg⟩ := hbody cdv A outer s H vs Q EX (hr.deeper _) hq hsp
  refine wpAny_mono (ht.run [] s1 (L2.start N vs) H _ (inv_start S hr.hd e0 hl r xc) hg) (fun fl s' hs => ?_) fun er s' hs => hs
  match fl, hs with
  | .ret u, ⟨v, σ', H', J, rv, q⟩ => exact ⟨v, H', J.os, J.bare, J.base, J.hok, rv, q⟩
  | .next, ⟨σ', H', J, q⟩ => exact ⟨V.non, H', J.os, J.bare, J.base, J.hok, rfl, q⟩
  | .brk, ⟨_, _, _, q⟩ => exact False.elim q
  | .cont, ⟨_, _, _, q⟩ => exact False.elim q
theorem g_fn {P : Program} {wo : World} {mg : Str → Option Value} {base : Heap} {x qual : Str} {st : Stmt} {f : Addr} {fd : FuncData} {N ps : List Str} {k : Nat} {g : FS} (F : Fun K x qual st f fd) (S : FnScope N ps (defScope st))
    (hbody : ∀ (cdv : Value) (A : Around) (outer : List Env) (s : Shared) (H : Hp) (EX : XK), Room k (A.deeper (envOfC qual (defScope st) s.heap.objs.size f cdv)) → (A.deeper (envOfC qual (defScope st) s.heap.objs.size f cdv)).guards = some [] →
      PSs (cxOf CX0 P wo K mg base N qual (defScope st) f cdv A outer s H EX).nox (defBody st) (tS K E00 g)) : GOk P wo K mg base CX0 (k + 1) f fd ps (spD K W0 ps.length (runF N.length g)) := by
  refine g_of F S (fun vs H Q EX h => h.1) (fun cdv A outer s H vs Q EX hr hq h => ?_)
  refine ⟨_, (hbody cdv A outer s H EX hr hq).nox, ?_⟩
  obtain ⟨hl, ds, w, rfl, ok, rl, a⟩ := h
  refine ⟨startD N.length ds, w, w, rfl, Step.refl ok, SR.start rl, OF.start w _ _ _, ?_⟩
  unfold runF at a
  cases q : g (startD N.length ds) w.M with
  | next ρ M => rw [q] at a; exact fun w' σ s' _ eM _ _ => a w' s' eM .non .non
  | ret y M => rw [q] at a; exact fun w' v s' eM rv => a w' s' eM v rv
  | exc c d M => rw [q] at a; exact fun w1 s1 _ e1 => a w1 s1 e1
  | brk ρ M => rw [q] at a; exact a.elim
  | cont ρ M => rw [q] at a; exact a.elim
  | bad => rw [q] at a; exact a.elim
theorem g_zero {P : Program} {wo : World} {mg : Str → Option Value} {base : Heap} {f : Addr} {fd : FuncData} {ps : List Str} {n : Nat} (hn : n = ps.length := by rfl) : GOk P wo K mg base CX0 0 f fd ps (spD K W0 n (fun _ _ => .bad)) :=
  ⟨fun vs H Q EX h => h.1.trans hn, fun A outer s H args us vs Q EX _ _ _ _ _ h => by
    obtain ⟨_, ds, w, _, _, _, a⟩ := h
    exact a.elim⟩
theorem g_law {P : Program} {wo : World} {mg mb : Str → Option Value} {CX : CXT} {k : Nat} {fa a : Addr} {fd : FuncData} {x : Str} {sp : Sp} {s₁ : Shared} {vs : List Value} {ns : List Int}
    (KX : K.In s₁.heap) (hns : s₁.heap.Ns mainGlobals mg) (hb : s₁.heap.Ns builtinsNs mb) (hbb : ∀ y : Str, y ≠ "__name__" → mb y = bootBuiltins y) (hlim : s₁.heap.NoLimit) (hg : s₁.gens = #[])
    (ha : s₁.heap.get? a = some { cls := .type "list", data := .seq vs.toArray }) (hi : IntsAre vs ns) (hl : ns.length ≤ sizeLine) (hr : Room k callerA)
    (F : ∀ base : Heap, K.In base → base.Ns mainGlobals mg → GOk P wo K mg base CX k fa fd [x] sp) (hbind : ∀ (s : Shared) (u : Value), BindsTo s fd ⟨[u], []⟩ [(x, u)])
    (hsp : ∀ H : Hp, Only H → SqL K H a (ns.map V.int) → sp [.ref a] H (fun v _ => v = .bl true) fun _ _ _ => False)
    (hCX : ∀ H er s', CX [] H s₁ (fun _ _ _ => False) er s' → False) :
    codeAny (model P wo) callerA (.call (.ref fa) ⟨[.ref a], []⟩) (fun z s' => z = .ok (.ret (.bool true)) ∧ OldK s₁.heap s'.heap ∧ s'.os = s₁.os ∧ AllBare s'.gens) s₁ := by
  have key : ∀ H : Hp, Only H → SqL K H a (ns.map V.int) → HOk P wo H s₁.heap → (∀ b, H b ≠ none → b = a) → (H a ≠ none → K.lookup a = none) →
      codeAny (model P wo) callerA (.call (.ref fa) ⟨[.ref a], []⟩) (fun z s' => z = .ok (.ret (.bool true)) ∧ OldK s₁.heap s'.heap ∧ s'.os = s₁.os ∧ AllBare s'.gens) s₁ := by
    intro H hO hS hok hA hK
    have free : ∀ {b : Addr}, b ≠ a → H b = none := fun {b} hb => by
      by_cases q : H b = none
      · exact q
      · exact absurd (hA b q) hb
    have keepNs : ∀ {b : Addr} {m : Str → Option Value}, s₁.heap.Ns b m → (hidT s₁.heap H).Ns b m := by
      rintro b m ⟨o, es, ep, h1, h2, h3⟩
      refine ⟨o, es, ep, hidT_get h1 (free fun hz => ?_), h2, h3⟩
      subst hz
      rw [ha] at h1
      cases h1
      cases h2
    have hKb : K.In (hidT s₁.heap H) := by
      intro b o hbo
      refine hidT_get (KX b o hbo) ?_
      by_cases q : H b = none
      · exact q
      · have hz := hA b q
        subst hz
        rw [hK q] at hbo
        cases hbo
    have M0 : Mod K mg (hidT s₁.heap H) := by
      obtain ⟨mc, l1, l2⟩ := hlim
      exact ⟨hKb, keepNs hns, ⟨mb, keepNs hb, hbb⟩, mc, keepNs l1, l2⟩
    have e0 : Env0 P wo K mg (hidT s₁.heap H) callerA [] s₁ H :=
      { frames := rfl, mod := M0, bs := fun b o z => of_hidT z, bsz := Nat.le_of_eq (hidT_size _ _), funs := trivial,
        frf := fun b z => (List.not_mem_nil (show b ∈ ([] : List Addr) from z)).elim, hok := hok, bare := .of_eq hg }
    refine codeAny_mono ((F _ hKb (keepNs hns)).go callerA [] s₁ H ⟨[.ref a], []⟩ [.ref a] [.ref a] _ _ hr rfl e0 (hbind s₁ (.ref a)) (.cons rfl .nil) (hsp H hO hS)) fun z s' h => ?_
    match z, h with
    | .error er, h => exact (hCX H er s' h).elim
    | .ok .next, h => exact False.elim h
    | .ok .brk, h => exact False.elim h
    | .ok .cont, h => exact False.elim h
    | .ok (.ret u), ⟨v, H', os, bare, un, hok', rv, (q : v = .bl true)⟩ =>
      subst q
      obtain rfl : u = Value.bool true := rv
      refine ⟨rfl, OldK.of_keep fun b o hbo => ?_, os, bare⟩
      rcases hO b with hn | ⟨ob, xs, hs⟩
      · exact un.keep b o hbo hn (fun z => (List.not_mem_nil (show b ∈ ([] : List Addr) from z)).elim) (by simp)
      · have h1 := (hok b _ hs).1
        have h2 := (hok' b _ (un.frzs b ob _ hs)).1
        rw [hbo] at h1
        cases h1
        exact h2
  have rv : Vals (ns.map V.int) vs := vals_ints hi
  by_cases hk : K.lookup a = none
  · have at_a : ∀ b, (if b = a then some (HO.frz { cls := .type "list", data := .seq vs.toArray } (.lst (ns.map V.int))) else none) ≠ none → b = a := fun b hb => by
      by_cases z : b = a
      · exact z
      · exact absurd (if_neg z) hb
    refine key (fun b => if b = a then some (.frz { cls := .type "list", data := .seq vs.toArray } (.lst (ns.map V.int))) else none) (fun b => ?_) (.inl (.inr ⟨_, if_pos rfl⟩)) (fun b u hu => ?_) at_a fun _ => hk
    · by_cases z : b = a
      · exact .inr ⟨_, _, if_pos z⟩
      · exact .inl (if_neg z)
    · have z := at_a b (fun hz => by have hu' := hz.symm.trans hu; cases hu')
      subst z
      have hu' := (if_pos rfl).symm.trans hu
      cases hu'
      exact ⟨ha, by rw [List.length_map]; exact hl, vs, _, rv, ha⟩
  · obtain ⟨o, ho⟩ := Option.ne_none_iff_exists'.mp hk
    have h1 := KX a o ho
    rw [ha] at h1
    cases h1
    refine key (fun _ => none) (fun _ => .inl rfl) (.inr ⟨_, vs.toArray, _, ho, rfl, rfl, rfl, by rw [List.size_toArray, hi.length]; exact hl, by simpa using rv⟩) (fun b u hu => ?_) (fun b z => absurd rfl z) fun z => absurd rfl z
    exact absurd hu (fun z => by cases z)
end
open PySem.Spec PyProof.Rows in
theorem g_walk {l : PySem.W.OpenLaw} {n k : Nat} {q : Program} {loose : List Str} {XP : (Str → Option Value) → Heap → Prop} {YP : World → Heap → Prop} {d : DefRec} {K : Params → PySem.W.Frag} {CX : World → CXT} {sp : World → Sp} {x : Str}
    (hn : l.most = some n) (hn2 : n ≤ sizeLine) (hdf : d.params.defaults = []) (hr : Room k callerA) (hY : ∀ (w : World) (h : Heap), YP w h → (K w.params).In h)
    (F : ∀ (w : World) (mg : Str → Option Value) (fa : Addr) (h : Heap), (K w.params).In h → h.Ns mainGlobals mg → mg d.name = some (.ref fa) →
      ∃ fd : FuncData, (∀ (s : Shared) (u : Value), BindsTo s fd ⟨[u], []⟩ [(x, u)]) ∧ ∀ base : Heap, (K w.params).In base → base.Ns mainGlobals mg → GOk l.prog w (K w.params) mg base (CX w) k fa fd [x] (sp w))
    (hsp : ∀ (w : World) (H : Hp) (a : Addr) (ns : List Int), ns.length ≤ n → Only H → SqL (K w.params) H a (ns.map V.int) → sp w [.ref a] H (fun v _ => v = .bl true) fun _ _ _ => False)
    (hCX : ∀ (w : World) (H : Hp) (s : Shared) (e : Value) (s' : Shared), CX w [] H s (fun _ _ _ => False) e s' → False) :
    PySem.W.WalkO q loose XP YP l.row.toRowW d [] (fun f vs => PySem.call f vs) := by
  refine Att.attach_call hn hdf ?_
  intro w s₀ s₁ mg mb fa o pm cd doc a vs ns G Y ho hd hcd hmg hobj hints hlen hgens
  have kin := hY w _ Y
  obtain ⟨fd, hbd, hF⟩ := F w mg fa _ kin G.T.g hmg
  exact g_law kin G.T.g G.T.b G.T.builtins G.T.nolimit hgens hobj hints (Nat.le_trans hlen hn2) hr hF hbd (fun H hO hS => hsp w H a ns hlen hO hS) (fun H er s' => hCX w H s₁ er s')
end TP
namespace TP
open PySem L2
section
variable {K : PySem.W.Frag} {E : Wish} {X : Cx} {e : Expr}
def rRepr (K : PySem.W.Frag) : List V → Hp → VK → Prop := fun xs H Q => ∃ x d, xs = [x] ∧ Dp K H x d ∧ d.canLay0 = true ∧ d.showable = true ∧ d.depth ≤ 190 ∧ d.shown.length ≤ sizeLine ∧ Q (.str d.shown) H
theorem call_repr (hu : X.A.units + 200 < cLine) (hq : X.A.guards = some []) : CallR X (.builtin "repr") (rRepr X.K) := by
  intro pins s σ H xs us Q I r h
  obtain ⟨x, d, rfl, hd, hl, hs, hdp, hz, q⟩ := h
  obtain ⟨u, rfl, ru⟩ := vals1 r
  obtain ⟨as, rd⟩ := Dp.reads I d x u hd ru
  have fin : ∀ h' t tk, (∀ b o, s.heap.get? b = some o → h'.get? b = some o) → EP X pins σ Q (.str d.shown t) { s with heap := h', toks := tk } := fun h' t tk hk => ⟨.str _, H, I.kept hk, ⟨_, rfl⟩, q⟩
  cases hd with
  | non => cases ru; exact PySem.P.repr_of_none (fin s.heap _ _ fun _ _ z => z)
  | bl b => cases ru; exact PySem.P.repr_of_bool (fin s.heap _ _ fun _ _ z => z)
  | int i =>
    obtain ⟨t, rfl⟩ := ru
    exact PySem.P.repr_of_int (by simpa [PyData.showable] using hs) (fin s.heap _ _ fun _ _ z => z)
  | str y =>
    obtain ⟨t, rfl⟩ := ru
    exact PySem.P.repr_of_str (fin s.heap _ _ fun _ _ z => z) (by simpa [PyData.shown] using hz)
  | lst h1 h2 =>
    cases ru
    exact repr_of_reads' rd hs (PyData.noDict_hsm (PyData.hasDict_of_canLay _ hl)) hq (by omega) (fun _ _ z => z) (fun h' t tk hk => fin h' t tk hk) hz
  | tup h1 h2 =>
    cases ru
    exact repr_of_reads' rd hs (PyData.noDict_hsm (PyData.hasDict_of_canLay _ hl)) hq (by omega) (fun _ _ z => z) (fun h' t tk hk => fin h' t tk hk) hz
def shwD (y : D) : Bool := goodD y && (toPy y).showable && decide (dpD y ≤ 190) && decide ((toPy y).shown.length ≤ sizeLine)
def reprD (M : Store) (ds : List D) : Option Slot := match ds with
  | [x] => if shwD (derD M x) then some (.val (.str (toPy (derD M x)).shown)) else none
  | _ => none
theorem p_repr : PrimN K (rRepr K) reprD := by
  intro w vs ds s Q ok rl h k
  unfold reprD at h
  split at h
  · split at h
    · rename_i x hs
      cases h
      obtain ⟨v, rfl, rv⟩ := rl.one
      simp only [shwD, Bool.and_eq_true, decide_eq_true_eq] at hs
      obtain ⟨⟨⟨h1, h2⟩, h3⟩, h4⟩ := hs
      exact ⟨v, _, rfl, rv.dp ok h1, lay_py _ h1, h2, by rw [dp_py _ h1]; exact h3, h4, ans ok k fun _ _ => .str _⟩
    · cases h
  · cases h
end
theorem bt_repr : bootBuiltins "repr" = some (.builtin "repr") := by decide +kernel
theorem bt_sorted : bootBuiltins "sorted" = some (.builtin "sorted") := by decide +kernel
end TP
namespace TP
open PySem L2
section
variable {K : PySem.W.Frag} {E : Wish} {X : Cx} {e : Expr} {st : Stmt}
end
end TP
namespace TP
open PySem
section
variable {prog : Program} {w : World} {A : Around} {E : Value → Shared → Prop} {s : Shared} {z TI TO T i1 i2 : Addr} {fp1 fp2 : List Addr} {n1 n2 i : Nat} {P1 P2 : Nat → Value → Prop} {St1 St2 : Nat → Heap → Prop} {f : Bool} {oT : Obj}
end
theorem ZipSep2.z1 {z TI TO i1 i2 : Addr} {fp1 fp2 : List Addr} (S : ZipSep2 z TI TO i1 i2 fp1 fp2) : i1 ≠ z ∧ i2 ≠ z ∧ TO ≠ i1 ∧ TO ≠ i2 :=
  ⟨fun q => S.zf1 (q ▸ S.mem1), fun q => S.zf2 (q ▸ S.mem2), fun q => S.Tf1 (q ▸ S.mem1), fun q => S.Tf2 (q ▸ S.mem2)⟩
end TP
namespace TP
open PySem L2
section
variable {X : Cx}
end
section
variable {K : PySem.W.Frag} {E : Wish} {X : Cx} {e : Expr}
def PrimD (K : PySem.W.Frag) (r : List V → Hp → VK → Prop) (g : Store → D → Option MO) : Prop := ∀ (w : Wd) (vx : V) (x : D) (o : MO) (Q : VK), w.Ok K → RepB K w vx x → g w.M x = some o →
  (∀ p ho, w.H p = none → MoR K ⟨w.A, w.G, w.M, upd w.H p ho⟩ p o → Q (.ref p) (upd w.H p ho)) → r [vx] w.H Q
def dNewD (g : Store → D → Option MO) (fo : FD) : FD := fun ρ M => (fo ρ M).bind fun x M => match g M x with
  | some o => .ok (.ref M.length) (M ++ [o])
  | none => .bad
theorem x_newD {r : List V → Hp → VK → Prop} {g : Store → D → Option MO} {fo : FD} (h : PE X e (tCB r (tAR K E (dCons fo dNil)))) (p : PrimD K r g) : PE X e (tF K E (dNewD g fo)) := PE.wk h fun σ H Q ⟨ρ, w, e1, ok, sr, a⟩ => by
  refine ⟨ρ, w, e1, ok, sr, ?_⟩
  unfold dNewD at a
  cases hfo : fo ρ w.M with
  | bad => rw [hfo] at a; exact a.elim
  | exc c d M1 =>
    rw [hfo] at a
    unfold dCons
    rw [hfo]
    exact a
  | ok x M1 =>
    rw [hfo] at a
    unfold dCons
    rw [hfo]
    intro w1 s1 eM vs rvs
    cases rvs with
    | cons rv t =>
      cases t
      have a' := a
      simp only [R.bind_ok] at a'
      split at a'
      · rename_i o ho
        refine p w1 _ x o Q s1.ok rv (by rw [eM]; exact ho) fun q hob hq hm => ?_
        obtain ⟨st, hA⟩ := new_obj (o := hob) (m := o) s1.ok hq hm
        have a2 : ∀ w', Step K w w' → w'.M = M1 ++ [o] → ∀ v, Rep K w'.A w'.G v (.ref M1.length) → Q v w'.H := a'
        refine a2 _ (s1.trans st) (by rw [eM]) _ ?_
        rw [← eM]
        exact .ref hA
      · exact a'.elim
def rDictD : List V → Hp → VK → Prop := fun xs H Q => ∃ (a : Addr) (kvs : List (Key × V)), xs = [.ref a] ∧ Rd H a (.dK kvs) ∧ ∀ p, H p = none → Q (.ref p) (upd H p (.dK kvs))
def copyD (M : Store) (x : D) : Option MO := match x with
  | .ref k => match M[k]? with
    | some (.dK kvs) => some (.dK kvs)
    | _ => none
  | _ => none
theorem p_copyD : PrimD K rDictD copyD := by
  intro w vx x o Q ok rx h k
  unfold copyD at h
  split at h
  · rename_i j
    split at h
    · rename_i kvs e2
      cases h
      obtain ⟨p, rfl, ea⟩ := ref_at rx
      obtain ⟨p', ea', vs, hH, rk⟩ := ok.mos j _ e2
      rw [ea] at ea'
      cases ea'
      exact ⟨p, vs, rfl, .inl hH, fun q hq => k q _ hq ⟨vs, upd_same, rk⟩⟩
    · cases h
  · cases h
def mergeP {κ : Type} [DecidableEq κ] (acc kvs : List (κ × D)) : List (κ × D) := kvs.foldl (fun acc kv => putD acc kv.1 kv.2) acc
def pairsK : List D → Option (List (Key × D))
  | [] => some []
  | .tup [k, v] :: ds => match keyD k, pairsK ds with
    | some k, some r => some ((k, v) :: r)
    | _, _ => none
  | _ => none
def rDictP (K : PySem.W.Frag) : List V → Hp → VK → Prop := fun xs H Q => ∃ (a : Addr) (ps : List Addr) (kvs : List (Key × V)), xs = [.ref a] ∧ SqL K H a (ps.map V.ref) ∧ Paired (fun p kv => SqT K H p [kV kv.1, kv.2]) ps kvs ∧
  ∀ p, H p = none → Q (.ref p) (upd H p (.dK (mergeK [] kvs)))
theorem pairsK_at {A : List Addr} {G H : Hp} (sub : Same G H) : ∀ {vs : List V} {ds : List D} {kvs : List (Key × D)}, RepL K A G vs ds → pairsK ds = some kvs →
    ∃ (ps : List Addr) (kv : List (Key × V)), vs = ps.map V.ref ∧ Paired (fun p kv => SqT K H p [kV kv.1, kv.2]) ps kv ∧ RepKV (Rep K A G) kv kvs
  | [], [], _, _, h => by
    unfold pairsK at h
    cases h
    exact ⟨[], [], rfl, .nil, .nil⟩
  | v :: vs, d :: ds, kvs, .cons r t, h => by
    unfold pairsK at h
    split at h
    · rename_i heq; cases heq
    · rename_i k d2 ds2 heq
      cases heq
      split at h
      · rename_i key rest hk hr
        cases h
        obtain ⟨ps, kv, rfl, hp, hrk⟩ := pairsK_at sub t hr
        cases r with
        | @tup a us _ hs rl =>
          cases rl with
          | cons r1 t1 =>
            cases t1 with
            | cons r2 t2 =>
              cases t2
              have e := key_at r1 hk
              subst e
              exact ⟨a :: ps, (key, _) :: kv, rfl, .cons (.inl ((hs.mono sub).rd)) hp, .cons r2 hrk⟩
      · cases h
    · cases h
theorem merge_kv {κ : Type} [DecidableEq κ] {R : V → D → Prop} : ∀ {kv : List (κ × V)} {kd : List (κ × D)} {av : List (κ × V)} {ad : List (κ × D)}, RepKV R kv kd → RepKV R av ad → RepKV R (kv.foldl (fun acc x => putK acc x.1 x.2) av) (mergeP ad kd)
  | _, _, av, ad, .nil, h => h
  | (k, v) :: kv, (_, d) :: kd, av, ad, .cons r t, h => by
    show RepKV R (kv.foldl (fun acc x => putK acc x.1 x.2) (putK av k v)) (mergeP (putD ad k d) kd)
    exact merge_kv t (h.put r k)
def pairKD (M : Store) (x : D) : Option MO := match lstOf M x with
  | some ds => (pairsK ds).map fun kvs => .dK (mergeP [] kvs)
  | none => none
theorem p_pairKD : PrimD K (rDictP K) pairKD := by
  intro w vx x o Q ok rx h k
  unfold pairKD at h
  split at h
  · rename_i ds e1
    cases hp : pairsK ds with
    | none => rw [hp] at h; cases h
    | some kvs =>
      rw [hp] at h
      cases h
      obtain ⟨p, vs, rfl, hs, rl⟩ := lst_at ok rx e1
      obtain ⟨ps, kv, rfl, h1, h2⟩ := pairsK_at ok.sub rl hp
      exact ⟨p, ps, kv, rfl, .inl (.inl hs), h1, fun q hq => k q _ hq ⟨_, upd_same, merge_kv h2 .nil⟩⟩
  · cases h
end
end TP
namespace TP
open PySem L2
section
variable {K : PySem.W.Frag} {E : Wish} {X : Cx} {e : Expr} {st : Stmt}
end
@[irreducible] def Lw : Nat := 1000000000000
section
variable {K : PySem.W.Frag}
end
section
variable (ρ : EnvD) (M : Store)
@[simp] theorem dNewD_eq (g : Store → D → Option MO) (fo : FD) : dNewD g fo ρ M = (fo ρ M).bind fun x M => match g M x with
  | some o => .ok (.ref M.length) (M ++ [o])
  | none => .bad := rfl
end
end TP
namespace TP
open PySem
section
variable {prog : Program} {w : World} {A : Around} {E : Value → Shared → Prop} {s : Shared}
end
section
variable {prog : Program} {w : World} {A : Around} {E : Value → Shared → Prop} {s : Shared}
end
open L2
section
variable {X : Cx}
end
section
variable {K : PySem.W.Frag} {E : Wish} {X : Cx} {e : Expr}
end
end TP
namespace TP
open PySem L2
section
variable {X : Cx}
end
section
variable {K : PySem.W.Frag} {E : Wish} {X : Cx} {e : Expr}
end
section
variable {X : Cx} {o e : Expr} {td ty : TE} {apos cpos : Pos}
end
section
variable {K : PySem.W.Frag} {E : Wish} {X : Cx} {e : Expr}
end
section
variable {X : Cx} {e st : Expr} {te ts : TE}
end
section
variable {K : PySem.W.Frag} {E : Wish} {X : Cx} {e : Expr}
end
section
variable (ρ : EnvD) (M : Store)
end
end TP
namespace TP
open PySem L2
section
variable {K : PySem.W.Frag} {E : Wish} {X : Cx} {e : Expr} {st : Stmt}
end
section
variable (ρ : EnvD) (M : Store)
end
end TP
namespace TP
open PySem L2
section
variable {prog : Program} {w : World} {A : Around} {E : Value → Shared → Prop} {s : Shared}
set_option maxHeartbeats 1000000 in
theorem meets_enum_new1 {v : Value} {o : Obj} {H : Heap → Prop} (B : Begins v o H) :
    Meets (Builtin.«enumerate.__new__» ⟨[.type "enumerate", v], []⟩) (fun _ R s => H s.heap ∧
      R (.ok (.ret (.ref (s.heap.push o).objs.size))) { s with heap := (s.heap.push o).push { cls := .type "enumerate", data := .fields #[.none, .bool false, .ref s.heap.objs.size, rawInt 0, .none, .none] } }) :=
  .of_wp fun prog w A R s h => by
    obtain ⟨hp, g, d, tk, os⟩ := s; obtain ⟨h1, h⟩ := h
    have hsub := sub_enumerate
    have q1 : ∀ {A' : Around} {E : Value → Shared → Prop} {Q : Value → Shared → Prop}, Q (.ref hp.objs.size) ⟨hp.push o, g, d, tk, os⟩ → wpAny (model prog w) A' (pyIter v) Q E ⟨hp, g, d, tk, os⟩ :=
      fun q => B.iter prog w _ _ ⟨hp, g, d, tk, os⟩ _ h1 q
    wp_walk using q1
    refine wpAny_stack_any fun st => wpAny_pure ?_
    split
    · rename_i c _ _ _ _ _
      cases (c == Value.type "enumerate")
      · wp_walk using q1
        exact ⟨_, rfl, h⟩
      · wp_walk using q1
        exact ⟨_, rfl, h⟩
    · wp_walk using q1
      exact ⟨_, rfl, h⟩
theorem enum_begins1 {v : Value} {o : Obj} {H : Heap → Prop} {Q : Value → Shared → Prop} (B : Begins v o H) (h1 : H s.heap)
    (h : ∀ h', IsEnum h' (s.heap.objs.size + 1) s.heap.objs.size 0 .none → h'.get? s.heap.objs.size = some o → h'.objs.size = s.heap.objs.size + 2 →
      (∀ b o, s.heap.get? b = some o → h'.get? b = some o) → Q (.ref (s.heap.objs.size + 1)) { s with heap := h' }) :
    wpAny (model prog w) A (call (.type "enumerate") [v]) Q E s := by
  refine callType_new F.called_enumerate (by decide) (F.typeCall_enumerate_1 _) (F.newCall_enumerate_1 _) (fun obj => F.args_object_init_2 obj _) F.entry_enumerate_new
    (meets_enum_new1 B) ⟨h1, ?_⟩
  have hz : (s.heap.push o).objs.size = s.heap.objs.size + 1 := Heap.size_push ..
  show _ ∧ _
  rw [hz]
  have he : IsEnum ((s.heap.push o).push { cls := .type "enumerate", data := .fields #[.none, .bool false, .ref s.heap.objs.size, rawInt 0, .none, .none] }) (s.heap.objs.size + 1) s.heap.objs.size 0 .none := by
    have := Heap.get?_push_size (s.heap.push o) (o := { cls := .type "enumerate", data := .fields #[.none, .bool false, .ref s.heap.objs.size, rawInt 0, .none, .none] }) rfl
    rw [hz] at this; exact this
  refine ⟨⟨_, he, rfl⟩, h _ he (Heap.get?_push_of_some _ (Heap.get?_push_size _ B.free)) (by rw [Heap.size_push, hz]) fun b o x => Heap.get?_push_of_some _ (Heap.get?_push_of_some _ x)⟩
end
def IteT (K : PySem.W.Frag) (a : Addr) : It :=
  ⟨fun i H => ∃ (xs : List V) (x : V), SqT K H a xs ∧ xs[i]? = some x, fun i H v H' => ∃ T x, v = .ref T ∧ H T = none ∧ H' = upd H T (.tup [.int (i : Nat), x]) ∧ ∀ xs, SqT K H a xs → xs[i]? = some x, fun i H => ∃ xs : List V, SqT K H a xs ∧ xs.length ≤ i⟩
theorem turn_enumT {P : Program} {w : World} {K : PySem.W.Frag} {elts : List Expr} {kk : Nat} {tpos : Pos} (a e it : Addr) :
    Turn P w K (.Tuple elts kk tpos) (IteT K a) [e, it] e (fun i h => (∃ old, IsEnum h e it ((i : Nat) : Int) old) ∧ h.IsTupleIter it a i ∧ e ≠ it ∧ e ≠ a ∧ a ≠ it) where
  mem := by simp
  obj := fun i h st b hb => by
    obtain ⟨⟨old, he⟩, ⟨o, ho, hc, hd⟩, _⟩ := st
    have e' : b = e ∨ b = it := by simpa using hb
    rcases e' with z | z
    · rw [z]; exact ⟨_, he, fun v q => nomatch q⟩
    · rw [z]; exact ⟨o, ho, fun v q => by rw [hd] at q; cases q⟩
  keep := fun i h h' st k => let ⟨⟨old, he⟩, hi, hne⟩ := st; ⟨⟨old, k e (by simp) _ he⟩, hi.at fun o q => k it (by simp) o q, hne⟩
  item := by
    intro X hP hw hK hc i pins s σ H E I hf st hg
    subst hP hw hK
    obtain ⟨⟨old, he⟩, hit, hne, hea, hai⟩ := st
    obtain ⟨xs, x, hq, hx⟩ := hg
    obtain ⟨its, rv, p, hz⟩ := I.tuple hq
    obtain ⟨u, hu, ru⟩ := rv.get hx
    have hel : e < s.heap.objs.size := Heap.lt_size he
    have hil : it < s.heap.objs.size := by obtain ⟨_, q, _⟩ := hit; exact Heap.lt_size q
    have hu2 : its.toArray[i]? = some u := by simpa using hu
    have hlt : i < its.toArray.size := (Array.getElem?_eq_some_iff.mp hu2).1
    refine wpAny_pyNext_enum_itemD (Draws.tuple (A := X.A.in1) (I.ok.hd hc) it a hai its.toArray) he ⟨hit, p⟩ hlt hne (by simp [hne, hea]) fun y h' tk hy ho hit' hT hsz hk => ?_
    have ey : u = y := Option.some.inj (hu2.symm.trans hy)
    subst ey
    refine ⟨_, rfl, wpAny_letOwnedTupleGo_enum (s := { s with heap := h', toks := tk + 1 }) ho fun h'' he' sb => ?_⟩
    have hT2 : h''.get? s.heap.objs.size = some { cls := .type "tuple", data := .seq #[.int i tk, u] } := (sb.2 _ (Nat.ne_of_gt hel)).trans hT
    have new : ObjOk X.prog X.w (upd H s.heap.objs.size (.tup [.int (i : Nat), x])) h'' s.heap.objs.size (.tup [.int (i : Nat), x]) :=
      ⟨by show 2 ≤ sizeLine; decide, [.int i tk, u], .cons ⟨_, rfl⟩ (.cons ru .nil), ⟨_, hT2, rfl, _, rfl⟩⟩
    have I1 : Inv X pins σ (upd H s.heap.objs.size (.tup [.int (i : Nat), x])) { s with heap := h'', toks := tk + 1 } :=
      I.turnedNew (ch := [e, it]) (fun b ob hb q => (sb.2 b (fun z => hb (by simp [z]))).trans (hk b ob (fun z => hb (by simp [z])) (fun z => hb (by simp [z])) q)) hf (Nat.le_refl _) new
    refine ⟨.ref s.heap.objs.size, _, I1, rfl, ⟨_, x, rfl, I.hok.fresh (Nat.le_refl _), rfl, fun ys hy => by rw [I.tuple_inj hy hq]; exact hx⟩, ⟨⟨u, ?_⟩, hit'.1.at fun o q => (sb.2 it (Ne.symm hne)).trans q, hne, hea, hai⟩, fun b hb => ?_⟩
    · have e1 : ((i + 1 : Nat) : Int) = (i : Int) + 1 := by omega
      rw [e1]; exact he'
    · have hb' : b < s.heap.objs.size := by
        have e' : b = e ∨ b = it := by simpa using hb
        rcases e' with z | z
        · rw [z]; exact hel
        · rw [z]; exact hil
      rw [upd_ne (Nat.ne_of_lt hb')]
      exact (hf b hb).1
  done := by
    intro X hP hw hK hc i pins s σ H E I hf st hg
    subst hP hw hK
    obtain ⟨⟨old, he⟩, hit, hne, hea, hai⟩ := st
    obtain ⟨xs, hq, hx⟩ := hg
    obtain ⟨its, rv, p, hz⟩ := I.tuple hq
    obtain ⟨f0, f1, f2, f3, f4, f5⟩ := hf it (by simp)
    have hl := rv.length
    have hT : s.TypeIs (.ref e) "enumerate" := ⟨_, he, rfl⟩
    unfold pyNext
    refine wpAny_bind (wpAny_attempt (wpAny_callSpecial?_slot (name := Str.ofString "__next__") hT F.slot_enumerate_next
      (wpAny_call_entry F.slot_enumerate_next hT F.entry_enumerate_next ?_ (F.args_enumerate_next_1 _))))
    show wpAny _ _ (field (.ref e) 2 >>= _) _ _ _
    refine wpAny_bind (wpAny_field he rfl (x := .ref it) rfl ?_)
    refine wpAny_bind (wpAny_nextOf_tuple_end (A := X.A.in1) (I.ok.hd hc) hit p (by simp; omega) fun h' x he' hx' => ?_)
    obtain ⟨o, ho, hcl⟩ := hx'
    refine wpAny_bind (wpAny_isInstance (T := "StopIteration") (b := true) ⟨o, ho, hcl⟩ isSubtype_stop ?_)
    exact wpAny_pure ⟨rfl, I.turned (t' := s.toks) (fun b o hb q => he' b o hb q) f0 f1 f3 f4 f5⟩
  self := fun A i s Q E st h => let ⟨⟨_, he⟩, _⟩ := st; wpAny_pyIter_enum he h
def iEnumA (K : PySem.W.Frag) (ta : TA) : TI := fun σ H R => ta σ H fun vs H1 => ∃ a xs, vs = [.ref a] ∧ ((SqL K H1 a xs ∧ R (Ite K a) H1) ∨ (SqT K H1 a xs ∧ R (IteT K a) H1))
theorem pi_enumA {X : Cx} {e : Expr} {ta : TA} {p pos tpos : Pos} {elts : List Expr} {kk : Nat} (hg : Gl X "enumerate") (hm : X.mg "enumerate" = none) (ha : PA X [e] ta) (hs : starEach [e] X.env = [(false, eval e X.env)] := by rfl) :
    PI X (.Tuple elts kk tpos) (.Call (.Name "enumerate" p) [e] [] pos) (iEnumA X.K ta) := by
  refine ⟨fun pins s σ H R I h => ?_⟩
  refine PyProof.Rows.Call_ (ld_blt I hg hm PyProof.Rows.boot_enumerate (PyProof.Rows.callWith_type1 (thn (ha.run pos pins s σ H _ I h) fun us s1 ⟨vs, H1, I1, r1, q1⟩ => ?_) hs rfl))
  obtain ⟨a, xs, ex, q⟩ := q1
  subst ex
  cases r1 with
  | cons r rr =>
    cases rr
    cases r
    rcases q with ⟨hq, q⟩ | ⟨hq, q⟩
    · obtain ⟨its, rv, p', hz⟩ := I1.list hq
      refine call_enumerate_list p'.isList fun h' he hit hsz hk => wpAny_pyIter_enum he ?_
      have I2 : Inv X pins σ H1 { s1 with heap := h' } := I1.kept (t' := s1.toks) hk
      refine ⟨s1.heap.objs.size + 1, [s1.heap.objs.size + 1, s1.heap.objs.size], _, _, H1, rfl, I2, turn_enum a (s1.heap.objs.size + 1) s1.heap.objs.size, ⟨⟨.none, he⟩, hit, Nat.succ_ne_self _⟩, fun b hb => ?_, q⟩
      have e' : b = s1.heap.objs.size + 1 ∨ b = s1.heap.objs.size := by simpa using hb
      have hle : s1.heap.objs.size ≤ b := by
        rcases e' with z | z
        · rw [z]; exact Nat.le_add_right _ _
        · rw [z]; exact Nat.le_refl _
      exact I1.fpOk hle (I1.hok.fresh hle)
    · obtain ⟨its, rv, p', hz⟩ := I1.tuple hq
      have hal : a < s1.heap.objs.size := by obtain ⟨_, q, _⟩ := p'; exact Heap.lt_size q
      refine enum_begins1 (begins_tuple a its.toArray) p' fun h' he hit hsz hk => wpAny_pyIter_enum he ?_
      have I2 : Inv X pins σ H1 { s1 with heap := h' } := I1.kept (t' := s1.toks) hk
      refine ⟨s1.heap.objs.size + 1, [s1.heap.objs.size + 1, s1.heap.objs.size], _, _, H1, rfl, I2, turn_enumT a (s1.heap.objs.size + 1) s1.heap.objs.size, ⟨⟨.none, he⟩, ⟨_, hit, rfl, rfl⟩, Nat.succ_ne_self _, Nat.ne_of_gt (Nat.lt_succ_of_lt hal), Nat.ne_of_lt hal⟩, fun b hb => ?_, q⟩
      have e' : b = s1.heap.objs.size + 1 ∨ b = s1.heap.objs.size := by simpa using hb
      have hle : s1.heap.objs.size ≤ b := by
        rcases e' with z | z
        · rw [z]; exact Nat.le_add_right _ _
        · rw [z]; exact Nat.le_refl _
      exact I1.fpOk hle (I1.hok.fresh hle)
section
variable {K : PySem.W.Frag} {E : Wish} {X : Cx} {e : Expr} {st : Stmt}
theorem it_enumT {w : Wd} {a : Addr} {vs : List V} {ds : List D} (hs : SqT K w.G a vs) (rl : RepL K w.A w.G vs ds) : IterOk true K w (IteT K a) (enumL ds) := fun w2 le ok2 i => by
  have h2 : SqT K w2.H a vs := sqT_mono ok2.sub (sqT_mono le.2 hs)
  have r2 := le.repL rl
  refine ⟨fun d ed => ?_, fun hl => ⟨vs, h2, by rw [rl.length]; simpa [enumL] using hl⟩⟩
  unfold enumL at ed
  rw [List.getElem?_map] at ed
  by_cases hi : i < ds.length
  · rw [List.getElem?_range hi] at ed
    cases ed
    obtain ⟨v, ev, rv⟩ := r2.get (List.getElem?_eq_getElem hi)
    refine ⟨⟨vs, v, h2, ev⟩, fun x H' y => ?_⟩
    obtain ⟨T, x', rfl, hT, rfl, y⟩ := y
    have := y vs h2
    rw [ev] at this
    cases this
    have st := ok2.fresh hT (.tup [.int (i : Nat), v])
    refine ⟨_, st, rfl, rfl, .inr ⟨rfl, _, _, _, rfl, rfl, .inl (.inl upd_same), .cons (.int _) (.one ?_)⟩⟩
    rw [List.getD_eq_getElem?_getD, List.getElem?_eq_getElem hi]
    exact st.rep rv
  · rw [List.getElem?_eq_none (by simpa using hi)] at ed
    cases ed
def dEnumA (fs : FL) : FL := fun ρ M => (fs ρ M).bind fun ds M => match ds with
  | [.lst es] => .ok (enumL es) M
  | [.fro es] => .ok (enumL es) M
  | [.tup es] => .ok (enumL es) M
  | _ => .bad
theorem x_enumA {tg : Expr} {fs : FL} (h : PI X tg e (iEnumA K (tAF K E fs))) : PI X tg e (tI true K E (dEnumA fs)) := PI.wk h fun σ H Q ⟨ρ, w, e1, ok, sr, a⟩ =>
  ⟨ρ, w, e1, ok, sr, a.bind.imp fun ds w1 s1 a1 vs rvs => by
    split at a1
    · cases rvs with
      | cons r1 r2 =>
        cases r2
        cases r1 with
        | lst hs rl => exact ⟨_, _, rfl, .inl ⟨.inl (.inl (s1.ok.sub _ _ hs)), a1 w1 (Step.refl s1.ok) rfl _ (it_enum (.inl (.inl hs)) rl)⟩⟩
    · cases rvs with
      | cons r1 r2 =>
        cases r2
        cases r1 with
        | fro hs rl => exact ⟨_, _, rfl, .inl ⟨s1.ok.sub.seq hs, a1 w1 (Step.refl s1.ok) rfl _ (it_enum hs rl)⟩⟩
    · cases rvs with
      | cons r1 r2 =>
        cases r2
        cases r1 with
        | tup hs rl => exact ⟨_, _, rfl, .inr ⟨.inl ((hs.mono s1.ok.sub).rd), a1 w1 (Step.refl s1.ok) rfl _ (it_enumT (.inl hs.rd) rl)⟩⟩
    · exact a1.elim⟩
@[simp] theorem dEnumA_eq (fs : FL) (ρ : EnvD) (M : Store) : dEnumA fs ρ M = (fs ρ M).bind fun ds M => match ds with
  | [.lst es] => .ok (enumL es) M
  | [.fro es] => .ok (enumL es) M
  | [.tup es] => .ok (enumL es) M
  | _ => .bad := rfl
end
end TP
namespace TP
open PySem L2
section
variable {X : Cx}
def rInW (K : PySem.W.Frag) (neg : Bool) : R2 := fun x y H Q => (if neg then rNotInA K x y H Q else rInA K x y H Q) ∨ ∃ d e ds, Dp K H x d ∧ Dp K H y e ∧ (e = .list ds ∨ e = .tuple ds) ∧ d.canLay0 = true ∧ PyData.canLayAll0 ds = true ∧ min (PyData.depthAll ds) d.depth ≤ 190 ∧ Q (.bl (if neg then !(ds.any fun z => PyData.eqv z d) else ds.any fun z => PyData.eqv z d)) H
theorem op_notInW (hu : X.A.units + 200 < cLine) : OpR X (compareOp .NotIn) (rInW X.K true) := by
  intro pins s σ H x y v u Q I rx ry h
  rcases h with h | ⟨d, e, ds, hd, he, hk, sd, se, hm, q⟩
  · exact op_notInA pins s σ H x y v u Q I rx ry h
  · obtain ⟨as, r1⟩ := Dp.reads I d x v hd rx
    obtain ⟨bs, r2⟩ := Dp.reads I e y u he ry
    rcases hk with rfl | rfl
    · exact SeqAt.notIn_list_reads r2 r1 se sd (by omega) ⟨.bl _, H, I, rfl, q⟩
    · exact SeqAt.notIn_tuple_reads r2 r1 se sd (by omega) ⟨.bl _, H, I, rfl, q⟩
end
section
variable {K : PySem.W.Frag} {E : Wish} {X : Cx} {e : Expr} {st : Stmt}
def itemsP : D → Option (List D)
  | .tup ds => some ds
  | .kt ds => some ds
  | .lst ds => some ds
  | .fro ds => some ds
  | _ => none
def anyW (M : Store) (x y : D) : Option Bool := match itemsP (derD M y) with
  | some ds => if goodD (derD M x) && goodL ds && goodD (derD M y) && decide (min (dpL ds) (dpD (derD M x)) ≤ 190) then some (ds.any fun z => eqvD z (derD M x)) else none
  | none => none
def notInWD (M : Store) (x y : D) : Option Slot := match notInD M x y with
  | some s => some s
  | none => (anyW M x y).map fun b => .val (.bl (!b))
theorem any_py {d : D} (hd : goodD d = true) : ∀ ds : List D, goodL ds = true → (toPyL ds).any (fun z => PyData.eqv z (toPy d)) = ds.any fun z => eqvD z d
  | [], _ => by rw [toPyL]; rfl
  | x :: ds, h => by
    rw [goodL, Bool.and_eq_true] at h
    rw [toPyL, List.any_cons, List.any_cons, eqv_py x d h.1 hd, any_py hd ds h.2]
theorem anyW_at {w : Wd} (ok : w.Ok K) {vx vy : V} {x y : D} {b : Bool} (rx : RepB K w vx x) (ry : RepB K w vy y) (h : anyW w.M x y = some b) :
    ∃ d e ds, Dp K w.H vx d ∧ Dp K w.H vy e ∧ (e = .list ds ∨ e = .tuple ds) ∧ d.canLay0 = true ∧ PyData.canLayAll0 ds = true ∧ min (PyData.depthAll ds) d.depth ≤ 190 ∧ (ds.any fun z => PyData.eqv z d) = b := by
  unfold anyW at h
  split at h
  · rename_i ds hds
    split at h
    · rename_i hc
      simp only [Bool.and_eq_true, decide_eq_true_eq] at hc
      obtain ⟨⟨⟨h1, h2⟩, h3⟩, h4⟩ := hc
      refine ⟨toPy (derD w.M x), toPy (derD w.M y), toPyL ds, rx.dp ok h1, ry.dp ok h3, ?_, lay_py _ h1, layL_py _ h2, by rw [dp_py _ h1, dpL_py _ h2]; exact h4, ?_⟩
      · cases hq : derD w.M y with
        | tup es => rw [hq] at hds; cases hds; exact .inr (by rw [toPy])
        | kt es => rw [hq, goodD] at h3; cases h3
        | lst es => rw [hq] at hds; cases hds; exact .inl (by rw [toPy])
        | fro es => rw [hq, goodD] at h3; cases h3
        | non => rw [hq] at hds; cases hds
        | bl b => rw [hq] at hds; cases hds
        | int i => rw [hq] at hds; cases hds
        | str z => rw [hq] at hds; cases hds
        | ref k => rw [hq] at hds; cases hds
        | fn c => rw [hq] at hds; cases hds
      · rw [any_py h1 ds h2]; exact Option.some.inj h
    · cases h
  · cases h
theorem p_notInW : Prim2 K (rInW K true) notInWD := by
  intro w vx vy x y s Q ok rx ry h k
  unfold notInWD at h
  split at h
  · rename_i s' hs
    cases h
    exact .inl (p_notIn w vx vy x y s Q ok rx ry hs k)
  · cases hb : anyW w.M x y with
    | none => rw [hb] at h; cases h
    | some b =>
      rw [hb] at h
      cases h
      obtain ⟨d, e, ds, a1, a2, a3, a4, a5, a6, a7⟩ := anyW_at ok rx ry hb
      exact .inr ⟨d, e, ds, a1, a2, a3, a4, a5, a6, ans ok k fun A G => by rw [if_pos rfl, a7]; exact .bl _⟩
def idxS (z : Str) : List Str → Option Nat
  | [] => none
  | y :: ys => if y = z then some 0 else (idxS z ys).map (· + 1)
end
end TP
namespace TP
open PySem L2
section
open PySem.Spec PyProof.Rows HT
variable {prog : Program} {w : World} {A : Around} {E : Value → Shared → Prop} {s : Shared}
end
section
variable {X : Cx} {e st : Expr} {te ts : TE}
end
section
variable {K : PySem.W.Frag} {E : Wish} {X : Cx} {e : Expr} {st : Stmt}
@[simp] def klK (_ : List Key) : Bool := false
variable {ρ : EnvD} {M : Store}
end
end TP
namespace TP
open PySem L2
section
open PySem.Spec PyProof.Rows
variable {prog : Program} {w : World} {A : Around} {R : Result → Shared → Prop} {I : Addr} {fp wr : List Addr} {n : Nat} {P : Nat → Value → Prop} {St : Nat → Heap → Prop} {d : Value}
end
section
open PySem.Spec PyProof.Rows
variable {prog : Program} {w : World} {A : Around} {E : Value → Shared → Prop} {s : Shared} {d : Value}
end
section
open PySem.Spec PyProof.Rows
variable {X : Cx}
end
section
variable {K : PySem.W.Frag} {E : Wish} {X : Cx} {e : Expr}
end
end TP
namespace TP
open RZ
section
open PySem
open PySem.Sem (wp)
section
variable {prog : Program} {w : World} {A : Around} {E : Value → Shared → Prop} {s : Shared}
end
section
variable {prog : Program} {w : World} {A : Around} {E : Value → Shared → Prop} {s : Shared}
end
end
section
open PySem PySem.Spec PyProof.Rows L2
end
section
open PySem L2
variable {K : PySem.W.Frag} {E : Wish} {X : Cx} {e : Expr}
end
end TP
namespace TP
open PySem L2
section
variable {X : Cx} {K : PySem.W.Frag}
end
section
open PySem.Spec PyProof.Rows
variable {X : Cx} {K : PySem.W.Frag}
end
end TP
namespace TP
open PySem L2
section
variable {K : PySem.W.Frag} {E : Wish} {X : Cx} {e : Expr} {st : Stmt} {sts : List Stmt}
end
section
open PySem.Spec PyProof.Rows
variable {K : PySem.W.Frag}
end
section
variable {X : Cx} {e : Expr} {es : List Expr} {ta : TA} {x : Str} {C : Addr} {p1 p2 pos : Pos}
end
end TP
namespace TP
open PySem L2
section
open PySem.Spec PyProof.Rows
variable {K : PySem.W.Frag}
end
def unOwn : Slot → Slot
  | .own _ => .un
  | s => s
def dropOwn (ρ : EnvD) : EnvD := ρ.map unOwn
section
variable {K : PySem.W.Frag} {E : Wish} {X : Cx} {st : Stmt}
theorem dropOwn_val {ρ : EnvD} {i : Nat} {d : D} (h : (dropOwn ρ)[i]? = some (.val d)) : ρ[i]? = some (.val d) := by
  unfold dropOwn at h
  rw [List.getElem?_map] at h
  cases q : ρ[i]? with
  | none => rw [q] at h; cases h
  | some s =>
    rw [q] at h
    cases s <;> first | exact h | cases h
theorem dropOwn_own {ρ : EnvD} {i : Nat} {ds : List D} (h : (dropOwn ρ)[i]? = some (.own ds)) : False := by
  unfold dropOwn at h
  rw [List.getElem?_map] at h
  cases q : ρ[i]? with
  | none => rw [q] at h; cases h
  | some s =>
    rw [q] at h
    cases s <;> cases h
theorem SR.drop {w w1 : Wd} {ρ : EnvD} {σ : St} (sr : SR K w ρ σ) (l : Le w w1) : SR K w1 (dropOwn ρ) σ :=
  ⟨by unfold dropOwn; rw [List.length_map]; exact sr.len, fun i d h => by
    obtain ⟨v, a, b⟩ := sr.val i d (dropOwn_val h)
    exact ⟨v, a, l.rep b⟩, fun i ds h => (dropOwn_own h).elim, fun i j ds es p h1 => (dropOwn_own h1).elim⟩
theorem OF.drop {w0 : Wd} {ρ : EnvD} {σ : St} : OF w0 (dropOwn ρ) σ := fun i ds p h1 => (dropOwn_own h1).elim
end
section
variable {X : Cx} {CX : CXT} {k : Nat} {f : Addr} {fd : FuncData} {ps : List Str} {sp : Sp} {x : Str} {p pos : Pos} {e : Expr} {es : List Expr} {t : TA} {EX : St → XK}
end
end TP
namespace TP
open PySem L2
section
variable {K : PySem.W.Frag} {E : Wish} {X : Cx} {st : Stmt} {e : Expr} {es : List Expr} {W : WX}
end
section
open PySem.Spec PyProof.Rows
variable {X : Cx} {pins : List (Addr × Obj)} {σ : L2.St} {H : Hp} {s : Shared}
end
section
open PySem.Spec PyProof.Rows
variable {X : Cx} {x n : Str} {c : Value} {i j : Nat} {body : List Stmt} {s1 : Stmt} {np pos pos' : Pos} {tb : WX → TS}
end
section
variable {K : PySem.W.Frag} {E : Wish} {X : Cx} {st : Stmt}
theorem SR.clear {w : Wd} {ρ : EnvD} {σ : L2.St} (sr : SR K w ρ σ) (i : Nat) (o : Option V) : SR K w (ρ.set i .un) (σ.set i o) := by
  have ne : ∀ {k : Nat} {y : Slot}, y ≠ .un → (ρ.set i .un)[k]? = some y → i ≠ k := fun {k y} hy z e => by
    subst e
    have hl := (List.getElem?_eq_some_iff.mp z).1
    rw [List.length_set] at hl
    rw [List.getElem?_set_self hl] at z
    exact hy (Option.some.inj z).symm
  refine ⟨by rw [List.length_set, List.length_set]; exact sr.len, fun k d z => ?_, fun k ds z => ?_, fun k l ds es p z1 z2 z3 z4 => ?_⟩
  · have n := ne (by intro q; cases q) z
    rw [List.getElem?_set_ne n] at z ⊢
    exact sr.val k d z
  · have n := ne (by intro q; cases q) z
    rw [List.getElem?_set_ne n] at z ⊢
    exact sr.own k ds z
  · have n1 := ne (by intro q; cases q) z1
    have n2 := ne (by intro q; cases q) z2
    rw [List.getElem?_set_ne n1] at z1 z3
    rw [List.getElem?_set_ne n2] at z2 z4
    exact sr.dis k l ds es p z1 z2 z3 z4
end
end TP
namespace TP
open PySem L2
section
open PySem.Spec PyProof.Rows
variable {X : Cx} {ks : List (Option Expr)} {vs : List Expr} {ex ez : Expr} {dpos apos cpos : Pos} {i : Nat} {k1 k2 : List Bool} {s1 s2 z : Str}
end
end TP
namespace TP
open PySem L2
section
variable {K : PySem.W.Frag} {E : Wish} {X : Cx} {e : Expr} {st : Stmt}
abbrev ExTab := List (Nat × Str × Bool)
def exFind (L : ExTab) (c : Nat) (C : Str) : Option Bool := (L.find? fun x => decide (x.1 = c ∧ x.2.1 = C)).map (·.2.2)
def TabEx (K : PySem.W.Frag) (L : ExTab) : Prop := ∀ x ∈ L, exI x.1 = false ∧ ExcC K (clsAt K (exN x.1)) ∧ PySem.W.kitOne K (.ref (clsAt K (exN x.1))) (.ref (clsAt K x.2.1)) = some x.2.2
theorem TabEx.at {L : ExTab} (T : TabEx K L) {c : Nat} {C : Str} {b : Bool} (h : exFind L c C = some b) : exI c = false ∧ ExcC K (clsAt K (exN c)) ∧ PySem.W.kitOne K (.ref (clsAt K (exN c))) (.ref (clsAt K C)) = some b := by
  unfold exFind at h
  cases q : L.find? fun x => decide (x.1 = c ∧ x.2.1 = C) with
  | none => rw [q] at h; cases h
  | some x =>
    rw [q] at h
    cases h
    have h1 := List.find?_some q
    simp only [decide_eq_true_eq] at h1
    obtain ⟨e1, e2⟩ := h1
    have := T x (List.mem_of_find?_eq_some q)
    rw [e1, e2] at this
    exact this
end
end TP
namespace TP
open PySem L2
section
open PySem.Spec PyProof.Rows
variable {K : PySem.W.Frag} {E : Wish} {X : Cx} {e : Expr}
variable {o ey ez : Expr} {apos cpos : Pos} {ty tz : TE} {q : Addr} {tab : List (Str × D)}
end
section
variable {P : Program} {w : World} {K : PySem.W.Frag} {mg : Str → Option Value} {base : Heap} {CX : CXT} {k n : Nat} {We : XK → Wish} {Φ : Nat → Fn} {tab : List (Str × Nat)}
end
section
variable {X : Cx} {E : Wish} {CX : CXT} {k i n : Nat} {We : XK → Wish} {Φ : Nat → Fn} {tab : List (Str × Nat)} {EX : XK} {x : Str} {p pos : Pos} {e : Expr} {es : List Expr} {fs : FL}
end
end TP
namespace TP
open PySem L2
section
variable {K : PySem.W.Frag}
def csOf (l : List Nat) (c : Nat) : Bool := l.contains c
structure CsOk (K : PySem.W.Frag) (l : List Nat) (C : Value) : Prop where
  all : ∀ c ∈ l, PySem.W.exmOne K (.ref (clsAt K (exN c))) C = some true
theorem CsOk.at {l : List Nat} {C : Value} (h : CsOk K l C) (c : Nat) (hc : csOf l c = true) : PySem.W.exmOne K (.ref (clsAt K (exN c))) C = some true := h.all c (by unfold csOf at hc; simpa using hc)
end
section
open PySem.Spec PyProof.Rows
variable {K : PySem.W.Frag}
variable {X : Cx} {W : WX} {EX : XK}
end
@[simp] theorem dropOwn_nil : dropOwn [] = [] := rfl
@[simp] theorem dropOwn_cons (s : Slot) (ρ : EnvD) : dropOwn (s :: ρ) = unOwn s :: dropOwn ρ := rfl
@[simp] theorem unOwn_un : unOwn .un = .un := rfl
@[simp] theorem unOwn_val (d : D) : unOwn (.val d) = .val d := rfl
@[simp] theorem unOwn_own (ds : List D) : unOwn (.own ds) = .un := rfl
end TP
namespace TP
open PySem L2
section
open PySem.Spec PyProof.Rows
variable {prog : Program} {w : World} {A : Around} {R : Result → Shared → Prop} {it : Addr} {fp wr : List Addr} {G : Array GenState → Array GenState → Prop} {n : Nat} {P : Nat → Value → Prop} {At : Nat → Shared → Prop}
end
section
open PySem.Spec PyProof.Rows
variable {prog : Program} {w : World} {A : Around} {E : Value → Shared → Prop} {s : Shared}
end
section
variable {K : PySem.W.Frag} {E : Wish} {X : Cx} {e : Expr}
end
end TP
namespace TP
open PySem L2
section
variable {K : PySem.W.Frag} {mg : Str → Option Value} {c c2 : Str} {C C2 : Addr}
end
section
variable {K : PySem.W.Frag} {E : Wish} {X : Cx} {e : Expr} {st : Stmt}
end
section
open PySem.Spec PyProof.Rows
variable {K : PySem.W.Frag} {E : Wish} {X : Cx} {e : Expr}
end
@[simp] theorem R.bind_exc {α β : Type} (c : Nat) (d : D) (M : Store) (f : α → Store → R β) : (R.exc c d M : R α).bind f = .exc c d M := rfl
@[simp] theorem R.map_exc {α β : Type} (c : Nat) (d : D) (M : Store) (f : α → β) : (R.exc c d M : R α).map f = .exc c d M := rfl
@[simp] theorem R.out_exc {α : Type} (c : Nat) (d : D) (M : Store) (f : α → Store → Out) : (R.exc c d M : R α).out f = .exc c d M := rfl
end TP
namespace TP
open PySem L2
section
open PySem.Spec PyProof.Rows
variable {prog : Program} {w : World} {A : Around} {E : Value → Shared → Prop} {s : Shared}
end
section
variable {K : PySem.W.Frag} {E : Wish} {X : Cx} {e : Expr}
end
end TP
namespace TP
open PySem L2
section
open PySem.Spec PyProof.Rows
variable {X : Cx} {e : Expr} {te : TE} {pos : Pos}
end
section
variable {K : PySem.W.Frag} {E : Wish} {X : Cx} {e : Expr}
end
section
variable {K : PySem.W.Frag} {X : Cx}
end
section
open PySem.Spec PyProof.Rows
variable {X : Cx} {K : PySem.W.Frag}
end
end TP
namespace TP
open PySem L2
section
open PySem.Spec PyProof.Rows
variable {K : PySem.W.Frag} {E : Wish} {X : Cx} {e : Expr} {st : Stmt}
end
namespace ExtT
open PySem PySem.AutoSeq1
end ExtT
section
open PySem.Spec PyProof.Rows
variable {K : PySem.W.Frag} {E : Wish} {X : Cx} {e : Expr} {st : Stmt}
end
section
variable {K : PySem.W.Frag} {E : Wish} {X : Cx} {st : Stmt}
end
end TP
namespace TP
open PySem L2
section
open PySem.Spec PyProof.Rows
variable {K : PySem.W.Frag} {E : Wish} {X : Cx} {e : Expr}
variable {o ey : Expr} {apos cpos : Pos} {ty : TE} {q : Addr} {tab : List (Str × D)}
end
end TP
namespace TP
section
open PySem PySem.SeqAt
open PySem.Sem (wp)
section
variable {A : Around} {s : Shared}
end
end
section
open PySem.Spec PyProof.Rows PySem L2 SeqAt
variable {K : PySem.W.Frag} {X : Cx} {e : Expr}
end
end TP
namespace TP
section
open PySem PySem.Spec PyProof.Rows L2
inductive Sk where
  | tup (a : Addr) | lst (a : Addr) | txt (z : Str) (t : Tok)
def signsV (z : Str) : List V := z.cps.toList.map fun c => V.str ⟨#[c]⟩
namespace Sk
def it : Sk → Addr → Nat → Heap → Prop
  | .tup a, J, i, h => h.IsTupleIter J a i
  | .lst a, J, i, h => h.IsListIter J a i
  | .txt z t, J, i, h => h.IsStrIter J (strIterType z) z t i
def sq (K : PySem.W.Frag) (H : Hp) : Sk → List V → Prop
  | .tup a, xs => SqT K H a xs
  | .lst a, xs => SqL K H a xs
  | .txt z _, xs => xs = signsV z
def src : Sk → List Addr
  | .tup a => [a]
  | .lst a => [a]
  | .txt _ _ => []
def val : Sk → Value
  | .tup a => .ref a
  | .lst a => .ref a
  | .txt z t => .str z t
theorem obj : ∀ {k : Sk} {J i h}, k.it J i h → ∃ o, h.get? J = some o ∧ ∀ v, o.data ≠ .cell v
  | .tup _, _, _, _, ⟨o, e, _, d⟩ => ⟨o, e, fun v q => by rw [d] at q; cases q⟩
  | .lst _, _, _, _, ⟨o, e, _, d⟩ => ⟨o, e, fun v q => by rw [d] at q; cases q⟩
  | .txt _ _, _, _, _, ⟨o, e, _, d⟩ => ⟨o, e, fun v q => by rw [d] at q; cases q⟩
theorem keep : ∀ {k : Sk} {J i h h'}, k.it J i h → (∀ o, h.get? J = some o → h'.get? J = some o) → k.it J i h'
  | .tup _, _, _, _, _, ⟨o, e, r⟩, q => ⟨o, q o e, r⟩
  | .lst _, _, _, _, _, ⟨o, e, r⟩, q => ⟨o, q o e, r⟩
  | .txt _ _, _, _, _, _, ⟨o, e, r⟩, q => ⟨o, q o e, r⟩
theorem inj {X : Cx} {pins : List (Addr × Obj)} {σ : L2.St} {H : Hp} {s : Shared} (I : Inv X pins σ H s) : ∀ {k : Sk} {xs ys : List V}, k.sq X.K H xs → k.sq X.K H ys → xs = ys
  | .tup _, _, _, a, b => I.tuple_inj a b
  | .lst _, _, _, a, b => I.list_inj a b
  | .txt _ _, _, _, a, b => a.trans b.symm
theorem vals_back : ∀ {xs : List V} {us : List Value} {i : Nat} {u : Value}, Vals xs us → us[i]? = some u → ∃ x, xs[i]? = some x ∧ RelV x u
  | _, _, _, _, .nil, e => by simp at e
  | _, _, 0, _, .cons r _, e => by simp at e; subst e; exact ⟨_, rfl, r⟩
  | _, _, i + 1, _, .cons _ t, e => by
    obtain ⟨x, hx, rx⟩ := vals_back (i := i) t (by simpa using e)
    exact ⟨x, by simpa using hx, rx⟩
theorem draws {X : Cx} {pins : List (Addr × Obj)} {σ : L2.St} {H : Hp} {s : Shared} {A : Around} (I : Inv X pins σ H s) (hh : A.handled = none) : ∀ {k : Sk} {J : Addr} {xs : List V}, J ∉ k.src → k.sq X.K H xs →
    ∃ (P : Nat → Value → Prop) (S : Nat → Heap → Prop), Draws X.prog X.w A J (J :: k.src) xs.length P S ∧ (∀ i, k.it J i s.heap → S i s.heap) ∧ (∀ i h, S i h → k.it J i h) ∧ ∀ i u, P i u → ∃ x, xs[i]? = some x ∧ RelV x u
  | .tup a, J, xs, hn, hq => by
    obtain ⟨us, rv, p, _⟩ := I.tuple (show SqT X.K H a xs from hq)
    have hne : a ≠ J := fun e => hn (by simp [src, e])
    have D := Draws.tuple (prog := X.prog) (w := X.w) hh J a hne us.toArray
    have hl : us.toArray.size = xs.length := by rw [List.size_toArray]; exact rv.length.symm
    rw [hl] at D
    exact ⟨_, _, D, fun i h => ⟨h, p⟩, fun i h z => z.1, fun i u e => vals_back rv (by simpa using e)⟩
  | .lst a, J, xs, hn, hq => by
    obtain ⟨us, rv, p, _⟩ := I.list (show SqL X.K H a xs from hq)
    have hne : a ≠ J := fun e => hn (by simp [src, e])
    have D := Draws.list (prog := X.prog) (w := X.w) hh J a hne us.toArray
    have hl : us.toArray.size = xs.length := by rw [List.size_toArray]; exact rv.length.symm
    rw [hl] at D
    exact ⟨_, _, D, fun i h => ⟨h, p.isList⟩, fun i h z => z.1, fun i u e => vals_back rv (by simpa using e)⟩
  | .txt z t, J, xs, _, hq => by
    have e : xs = signsV z := hq
    subst e
    have D := Draws.text (prog := X.prog) (w := X.w) hh J z t
    have hl : z.cps.size = (signsV z).length := by simp [signsV]
    rw [hl] at D
    refine ⟨_, _, D, fun i h => h, fun i h z => z, fun i u ⟨c, t', e, eu⟩ => ?_⟩
    subst eu
    exact ⟨.str ⟨#[c]⟩, by simp [signsV, e], t', rfl⟩
end Sk
theorem Sk.lt {X : Cx} {pins : List (Addr × Obj)} {σ : L2.St} {H : Hp} {s : Shared} (I : Inv X pins σ H s) : ∀ {k : Sk} {xs : List V}, k.sq X.K H xs → ∀ b ∈ k.src, b < s.heap.objs.size
  | .tup a, xs, hq, b, hb => by
    obtain ⟨us, rv, ⟨o, e, _⟩, _⟩ := I.tuple (show SqT X.K H a xs from hq)
    obtain rfl : b = a := by simpa [Sk.src] using hb
    exact Heap.lt_size e
  | .lst a, xs, hq, b, hb => by
    obtain ⟨us, rv, p, _⟩ := I.list (show SqL X.K H a xs from hq)
    obtain rfl : b = a := by simpa [Sk.src] using hb
    exact p.lt
  | .txt _ _, _, _, b, hb => by simp [Sk.src] at hb
end
section
open PySem L2
variable {K : PySem.W.Frag} {E : Wish} {X : Cx} {e : Expr}
end
end TP
namespace TP
open PySem L2
section
variable {K : PySem.W.Frag} {E : Wish} {X : Cx} {e : Expr}
end
end TP
namespace TP
open PySem L2
class HasW where wd : World
mutual
def nkD : D → Option NestedKey
  | .non => some .none
  | .int i => some (.num i)
  | .str x => some (.text x)
  | .tup ds => (nkL ds).map .tup
  | _ => none
def nkL : List D → Option (List NestedKey)
  | [] => some []
  | d :: ds => match nkD d with
    | some k => (nkL ds).map (k :: ·)
    | none => none
end
section
variable {K : PySem.W.Frag}
section
variable {P : Program} {w : World} {H : Hp} {h : Heap} {a : Addr}
end
def atN (ys : List EntN) (k : NestedKey) : Option V := (ys.find? fun y => decide (y.1 = k)).map (·.2.2)
def putN (ys : List EntN) (k : NestedKey) (b : Addr) (v : V) : List EntN := if (ys.any fun y => decide (y.1 = k)) = true then ys.map fun y => if y.1 = k then (y.1, y.2.1, v) else y else ys ++ [(k, b, v)]
theorem VN.at {ys : List EntN} {xs : List (NestedKey × Addr × Value)} (r : VN ys xs) (k : NestedKey) : RelO (atN ys k) ((atKey xs k).map (·.2)) := by
  induction r with
  | nil => exact True.intro
  | @cons p q ps qs hq t ih =>
    unfold atN atKey at ih ⊢
    rw [List.find?_cons, List.find?_cons]
    by_cases e : p.1 = k
    · rw [decide_eq_true e, decide_eq_true (hq.1.symm.trans e)]
      exact hq.2.2
    · rw [decide_eq_false e, decide_eq_false (fun z => e (hq.1.trans z))]
      exact ih
theorem VN.any {ys : List EntN} {xs : List (NestedKey × Addr × Value)} (r : VN ys xs) (k : NestedKey) : (ys.any fun y => decide (y.1 = k)) = (atKey xs k).isSome := by
  induction r with
  | nil => rfl
  | @cons p q ps qs hq t ih =>
    unfold atKey at ih ⊢
    rw [List.any_cons, List.find?_cons]
    by_cases e : p.1 = k
    · rw [decide_eq_true e, decide_eq_true (hq.1.symm.trans e)]
      rfl
    · rw [decide_eq_false e, decide_eq_false (fun z => e (hq.1.trans z)), Bool.false_or]
      exact ih
theorem VN.map {ys : List EntN} {xs : List (NestedKey × Addr × Value)} (r : VN ys xs) (k : NestedKey) {v : V} {u : Value} (rv : RelV v u) : VN (ys.map fun y => if y.1 = k then (y.1, y.2.1, v) else y) (xs.map (putAt k u)) := by
  induction r with
  | nil => exact .nil
  | @cons p q ps qs hq t ih =>
    rw [List.map_cons, List.map_cons]
    refine .cons ?_ ih
    unfold putAt
    by_cases e : p.1 = k
    · rw [if_pos e, if_pos (hq.1.symm.trans e)]
      exact ⟨hq.1, hq.2.1, rv⟩
    · rw [if_neg e, if_neg (fun z => e (hq.1.trans z))]
      exact hq
theorem VN.put {ys : List EntN} {xs : List (NestedKey × Addr × Value)} (r : VN ys xs) (k : NestedKey) (b : Addr) {v : V} {u : Value} (rv : RelV v u) : VN (putN ys k b v) (storedH xs k b u) := by
  unfold putN storedH
  rw [r.any k]
  split
  · exact r.map k rv
  · exact Paired.snoc r ⟨rfl, rfl, rv⟩
section
variable {X : Cx} {o i e value : Expr} {pos pos' tpos : Pos} {td ty tv : TE}
end
inductive ZipN (H : Hp) : List V → List V → List EntN → Prop
  | nil (ys : List V) : ZipN H [] ys []
  | cons {k : NestedKey} {b : Addr} {y : V} {xs ys : List V} {es : List EntN} : KeyR H k (.ref b) → k.depth ≤ 8 → ZipN H xs ys es → ZipN H (.ref b :: xs) (y :: ys) ((k, b, y) :: es)
theorem ZipN.len {H : Hp} {xs ys : List V} {es : List EntN} (h : ZipN H xs ys es) : es.length = xs.length ∧ xs.length ≤ ys.length := by
  induction h with
  | nil => simp
  | cons k d t ih => simp only [List.length_cons]; omega
section
variable {X : Cx}
end
end
section
variable {K : PySem.W.Frag} {E : Wish} {X : Cx} {e : Expr} {st : Stmt} [HasW]
def keyN : D → Option NestedKey
  | .tup ds => match nkL ds with
    | some ks => if (NestedKey.tup ks).depth ≤ 8 then some (.tup ks) else none
    | none => none
  | _ => none
theorem RepN.at {R : V → D → Prop} {G : Hp} {ys : List EntN} {kvs : List (NestedKey × D)} (r : RepN R G ys kvs) (k : NestedKey) {d : D} (h : lookD kvs k = some d) : ∃ v, atN ys k = some v ∧ R v d := by
  induction r with
  | nil => simp [lookD] at h
  | @cons k' b v d' ys ds hk hd rv t ih =>
    unfold lookD at h ih
    unfold atN at ih ⊢
    rw [List.find?_cons] at h ⊢
    by_cases e : k' = k
    · rw [decide_eq_true e] at h ⊢
      cases h
      exact ⟨v, rfl, rv⟩
    · rw [decide_eq_false e] at h ⊢
      exact ih h
theorem RepN.len {R : V → D → Prop} {G : Hp} {ys : List EntN} {kvs : List (NestedKey × D)} (r : RepN R G ys kvs) : ys.length = kvs.length := by
  induction r with
  | nil => rfl
  | cons k d rv t ih => rw [List.length_cons, List.length_cons, ih]
theorem RepN.any {R : V → D → Prop} {G : Hp} {ys : List EntN} {kvs : List (NestedKey × D)} (r : RepN R G ys kvs) (k : NestedKey) : (ys.any fun y => decide (y.1 = k)) = kvs.any fun y => decide (y.1 = k) := by
  induction r with
  | nil => rfl
  | cons k d rv t ih => rw [List.any_cons, List.any_cons, ih]
theorem RepN.map {R : V → D → Prop} {G : Hp} {ys : List EntN} {kvs : List (NestedKey × D)} (r : RepN R G ys kvs) (k : NestedKey) {v : V} {d : D} (rv : R v d) : RepN R G (ys.map fun y => if y.1 = k then (y.1, y.2.1, v) else y) (kvs.map fun kv => if kv.1 = k then (kv.1, d) else kv) := by
  induction r with
  | nil => exact .nil
  | @cons k' b v' d' ys ds hk hd rv' t ih =>
    rw [List.map_cons, List.map_cons]
    by_cases e : k' = k
    · rw [if_pos e, if_pos e]
      exact .cons hk hd rv ih
    · rw [if_neg e, if_neg e]
      exact .cons hk hd rv' ih
theorem RepN.snoc {R : V → D → Prop} {G : Hp} {ys : List EntN} {kvs : List (NestedKey × D)} (r : RepN R G ys kvs) {k : NestedKey} {b : Addr} {v : V} {d : D} (hk : KeyR G k (.ref b)) (hd : k.depth ≤ 8) (rv : R v d) : RepN R G (ys ++ [(k, b, v)]) (kvs ++ [(k, d)]) := by
  induction r with
  | nil => exact .cons hk hd rv .nil
  | cons hk' hd' rv' t ih => exact .cons hk' hd' rv' ih
theorem RepN.put {R : V → D → Prop} {G : Hp} {ys : List EntN} {kvs : List (NestedKey × D)} (r : RepN R G ys kvs) {k : NestedKey} {b : Addr} {v : V} {d : D} (hk : KeyR G k (.ref b)) (hd : k.depth ≤ 8) (rv : R v d) : RepN R G (putN ys k b v) (putD kvs k d) := by
  unfold putN putD
  rw [r.any k]
  split
  · exact r.map k rv
  · exact r.snoc hk hd rv
theorem ZipN.mono {G G' : Hp} (e : Same G G') {xs ys : List V} {es : List EntN} (h : ZipN G xs ys es) : ZipN G' xs ys es := by
  induction h with
  | nil ys => exact .nil ys
  | cons k d t ih => exact .cons (KeyR.mono e _ _ k) d ih
end
end TP
namespace TP
open PySem PySem.Spec PyProof.Rows L2
section
variable {K : PySem.W.Frag} {E : Wish} {X : Cx} {e : Expr}
end
inductive PrT (H : Hp) : List (V × V) → List (List Key × V) → Prop
  | nil : PrT H [] []
  | cons {b : Addr} {k : List Key} {v : V} {ps : List (V × V)} {kvs : List (List Key × V)} : H b = some (.tup (k.map kV)) → PrT H ps kvs → PrT H ((.ref b, v) :: ps) ((k, v) :: kvs)
theorem PrT.len {H : Hp} {ps : List (V × V)} {kvs : List (List Key × V)} (h : PrT H ps kvs) : kvs.length = ps.length := by
  induction h with
  | nil => rfl
  | cons _ _ ih => rw [List.length_cons, List.length_cons, ih]
section
variable {K : PySem.W.Frag} {E : Wish} {X : Cx} {e : Expr}
end
end TP
namespace TP
open PySem L2
inductive Ex where
  | num (n : Int)
  | use (x : Str)
  | op (s : Str) (a b : Ex)
  | lt (x : Str) (a b : Ex)
  | ite (a b c : Ex)
  | times (a : Ex) (i s : Str) (b c : Ex)
  | tell (a b : Ex)
  | stop (a : Ex)
  | call (m f : Str) (as : List Ex)
namespace Ex
mutual
def toD : Ex → D
  | num n => .tup [.str "num", .int n]
  | use x => .tup [.str "use", .str x]
  | op s a b => .tup [.str "op", .str s, toD a, toD b]
  | lt x a b => .tup [.str "let", .str x, toD a, toD b]
  | ite a b c => .tup [.str "if", toD a, toD b, toD c]
  | times a i s b c => .tup [.str "times", toD a, .str i, .str s, toD b, toD c]
  | tell a b => .tup [.str "tell", toD a, toD b]
  | stop a => .tup [.str "stop", toD a]
  | call m f as => .tup [.str "call", .str m, .str f, .tup (toDs as)]
def toDs : List Ex → List D
  | [] => []
  | e :: es => toD e :: toDs es
end
def parts : Ex → List Ex
  | num _ => []
  | use _ => []
  | op _ a b => [a, b]
  | lt _ a b => [a, b]
  | ite a b c => [a, b, c]
  | times a _ _ b c => [a, b, c]
  | tell a b => [a, b]
  | stop a => [a]
  | call _ _ as => as
mutual
def dep : Ex → Nat
  | num _ => 0
  | use _ => 0
  | op _ a b => max (dep a) (dep b) + 1
  | lt _ a b => max (dep a) (dep b) + 1
  | ite a b c => max (dep a) (max (dep b) (dep c)) + 1
  | times a _ _ b c => max (dep a) (max (dep b) (dep c)) + 1
  | tell a b => max (dep a) (dep b) + 1
  | stop a => dep a + 1
  | call _ _ as => deps as + 1
def deps : List Ex → Nat
  | [] => 0
  | e :: es => max (dep e) (deps es)
end
theorem toDs_eq : ∀ es : List Ex, toDs es = es.map toD
  | [] => rfl
  | e :: es => by rw [toDs, toDs_eq es, List.map_cons]
theorem deps_mem : ∀ {es : List Ex} {e : Ex}, e ∈ es → dep e ≤ deps es
  | e' :: es, e, h => by
    rw [deps]
    rcases List.mem_cons.mp h with rfl | h
    · omega
    · have := deps_mem h; omega
theorem parts_dep {e p : Ex} (h : p ∈ parts e) : dep p < dep e := by
  cases e <;> simp only [parts, List.mem_cons, List.not_mem_nil, or_false] at h <;> simp only [dep]
  case op => rcases h with rfl | rfl <;> omega
  case lt => rcases h with rfl | rfl <;> omega
  case ite => rcases h with rfl | rfl | rfl <;> omega
  case times => rcases h with rfl | rfl | rfl <;> omega
  case tell => rcases h with rfl | rfl <;> omega
  case stop => subst h; omega
  case call => have := deps_mem h; omega
end Ex
@[simp] theorem ix0 {x : D} {xs : List D} : atI (x :: xs) 0 = some x := atI_nat (j := 0) rfl
@[simp] theorem ix1 {x y : D} {xs : List D} : atI (x :: y :: xs) 1 = some y := atI_nat (j := 1) rfl
@[simp] theorem ix2 {x y z : D} {xs : List D} : atI (x :: y :: z :: xs) 2 = some z := atI_nat (j := 2) rfl
@[simp] theorem ix3 {x y z u : D} {xs : List D} : atI (x :: y :: z :: u :: xs) 3 = some u := atI_nat (j := 3) rfl
@[simp] theorem ix4 {x y z u v : D} {xs : List D} : atI (x :: y :: z :: u :: v :: xs) 4 = some v := atI_nat (j := 4) rfl
@[simp] theorem ix5 {x y z u v a : D} {xs : List D} : atI (x :: y :: z :: u :: v :: a :: xs) 5 = some a := atI_nat (j := 5) rfl
theorem atI_mem {α : Type} {xs : List α} {i : Int} (h0 : 0 ≤ i) (h1 : i < xs.length) : ∃ v, v ∈ xs ∧ atI xs i = some v := by
  have hi : i.toNat < xs.length := by omega
  have e : ((i.toNat : Nat) : Int) = i := by omega
  generalize i.toNat = j at hi e
  subst e
  exact ⟨xs[j], List.getElem_mem hi, atI_nat (List.getElem?_eq_getElem hi)⟩
theorem atI_map {α β : Type} (f : α → β) (xs : List α) (i : Int) : atI (xs.map f) i = (atI xs i).map f := by
  unfold atI
  rw [List.length_map]
  cases ixN xs.length i with
  | none => rfl
  | some j => simp
theorem set_set {M : Store} {j : Nat} {a b : MO} : (M.set j a).set j b = M.set j b := List.set_set ..
theorem get_set {M : Store} {j : Nat} {a b : MO} (h : M[j]? = some a) : (M.set j b)[j]? = some b := List.getElem?_set_self (List.getElem?_eq_some_iff.mp h).1
theorem get_app {M M' : Store} {j : Nat} {a : MO} (h : M[j]? = some a) : (M ++ M')[j]? = some a := by
  rw [List.getElem?_append_left (List.getElem?_eq_some_iff.mp h).1]; exact h
theorem set_self {M : Store} {j : Nat} {a : MO} (h : M[j]? = some a) : M.set j a = M := by
  apply List.ext_getElem?
  intro i
  by_cases hi : j = i
  · subst hi; rw [get_set h, h]
  · rw [List.getElem?_set_ne hi]
theorem at_end (M : Store) (o : MO) : (M ++ [o])[M.length]? = some o := by
  rw [List.getElem?_append_right (Nat.le_refl _), Nat.sub_self]; rfl
theorem set_end (M : Store) (o p : MO) : (M ++ [o]).set M.length p = M ++ [p] := by
  rw [List.set_append_right _ _ (Nat.le_refl _), Nat.sub_self]; rfl
theorem eqW {s t : Str} {b : Bool} (h : (okStr s && okStr t && (decide (s = t) == b)) = true) (M : Store) : eqD M (.str s) (.str t) = some (.val (.bl b)) := by
  simp only [Bool.and_eq_true, beq_iff_eq] at h
  rw [eqD_str M h.1.1 h.1.2, h.2]
end TP
namespace TP
open PySem L2
def signs : List Str := ["+", "-", "*", "=", "<", "/", "&"]
namespace Ex
mutual
def Wf (nm : Str → Prop) (ah : Str → Str → Nat → Prop) : List Str → Ex → Prop
  | sc, num n => -(10 ^ 30) ≤ n ∧ n ≤ 10 ^ 30
  | sc, use x => x ∈ sc
  | sc, op s a b => s ∈ signs ∧ Wf nm ah sc a ∧ Wf nm ah sc b
  | sc, lt x a b => nm x ∧ Wf nm ah sc a ∧ Wf nm ah (x :: sc) b
  | sc, ite a b c => Wf nm ah sc a ∧ Wf nm ah sc b ∧ Wf nm ah sc c
  | sc, times a i s b c => nm i ∧ nm s ∧ i ≠ s ∧ Wf nm ah sc a ∧ Wf nm ah sc b ∧ Wf nm ah (i :: s :: sc) c
  | sc, tell a b => Wf nm ah sc a ∧ Wf nm ah sc b
  | sc, stop a => Wf nm ah sc a
  | sc, call m f as => ah m f as.length ∧ Wfs nm ah sc as
def Wfs (nm : Str → Prop) (ah : Str → Str → Nat → Prop) : List Str → List Ex → Prop
  | sc, [] => True
  | sc, e :: es => Wf nm ah sc e ∧ Wfs nm ah sc es
end
mutual
theorem Wf.mono {nm : Str → Prop} {ah ah' : Str → Str → Nat → Prop} (ha : ∀ m f n, ah m f n → ah' m f n) : ∀ (e : Ex) (sc sc' : List Str), (∀ x, x ∈ sc → x ∈ sc') → Wf nm ah sc e → Wf nm ah' sc' e
  | num n, _, _, _, h => by rw [Wf] at *; exact h
  | use x, _, _, hs, h => by rw [Wf] at *; exact hs _ h
  | op s a b, sc, sc', hs, h => by rw [Wf] at *; exact ⟨h.1, Wf.mono ha a _ _ hs h.2.1, Wf.mono ha b _ _ hs h.2.2⟩
  | lt x a b, sc, sc', hs, h => by
    rw [Wf] at *
    refine ⟨h.1, Wf.mono ha a _ _ hs h.2.1, Wf.mono ha b _ _ (fun y hy => ?_) h.2.2⟩
    rcases List.mem_cons.mp hy with rfl | hy
    · exact List.mem_cons_self
    · exact List.mem_cons_of_mem _ (hs _ hy)
  | ite a b c, sc, sc', hs, h => by rw [Wf] at *; exact ⟨Wf.mono ha a _ _ hs h.1, Wf.mono ha b _ _ hs h.2.1, Wf.mono ha c _ _ hs h.2.2⟩
  | times a i s b c, sc, sc', hs, h => by
    rw [Wf] at *
    refine ⟨h.1, h.2.1, h.2.2.1, Wf.mono ha a _ _ hs h.2.2.2.1, Wf.mono ha b _ _ hs h.2.2.2.2.1, Wf.mono ha c _ _ (fun y hy => ?_) h.2.2.2.2.2⟩
    rcases List.mem_cons.mp hy with rfl | hy
    · exact List.mem_cons_self
    · rcases List.mem_cons.mp hy with rfl | hy
      · exact List.mem_cons_of_mem _ List.mem_cons_self
      · exact List.mem_cons_of_mem _ (List.mem_cons_of_mem _ (hs _ hy))
  | tell a b, sc, sc', hs, h => by rw [Wf] at *; exact ⟨Wf.mono ha a _ _ hs h.1, Wf.mono ha b _ _ hs h.2⟩
  | stop a, sc, sc', hs, h => by rw [Wf] at *; exact Wf.mono ha a _ _ hs h
  | call m f as, sc, sc', hs, h => by rw [Wf] at *; exact ⟨ha _ _ _ h.1, Wfs.mono ha as _ _ hs h.2⟩
theorem Wfs.mono {nm : Str → Prop} {ah ah' : Str → Str → Nat → Prop} (ha : ∀ m f n, ah m f n → ah' m f n) : ∀ (es : List Ex) (sc sc' : List Str), (∀ x, x ∈ sc → x ∈ sc') → Wfs nm ah sc es → Wfs nm ah' sc' es
  | [], _, _, _, h => by rw [Wfs]; trivial
  | e :: es, sc, sc', hs, h => by rw [Wfs] at *; exact ⟨Wf.mono ha e _ _ hs h.1, Wfs.mono ha es _ _ hs h.2⟩
end
end Ex
def pools : List (List Str) := [["q", "z", "b", "m", "x", "k", "c", "w", "h", "v", "j", "p", "g", "y", "l", "d"],
  ["nqor", "nzor", "nbor", "nmor", "nxor", "nkor", "ncor", "nwor", "nhor", "nvor", "njor", "npor", "ngor", "nyor", "nlor", "ndor"],
  ["g", "gr", "gra", "grap", "graph", "graphi", "graphit", "graphite", "s", "sa", "san", "sand", "sandw", "sandwi", "sandwic", "sandwich"]]
def pool (n : Int) : List Str := (atI pools (n % 3)).getD []
def spotAt (n k : Int) : Int := (n / 3 + (2 * (n / 48 % 8) + 1) * k) % 16
def nameAt (n k : Int) : Str := (atI (pool n) (spotAt n k)).getD ""
def namesL (n : Int) : List Str := (List.range 16).map fun k => nameAt n (k : Nat)
theorem pool_mem (n : Int) : pool n ∈ pools ∧ atI pools (n % 3) = some (pool n) := by
  obtain ⟨p, hp, ha⟩ := atI_mem (xs := pools) (i := n % 3) (by omega) (by show _ < (3 : Int); omega)
  unfold pool
  rw [ha]
  exact ⟨hp, rfl⟩
theorem pool_len (n : Int) : (pool n).length = 16 := by
  have h : pools.all (fun p => p.length == 16) = true := by decide +kernel
  simpa using List.all_eq_true.mp h _ (pool_mem n).1
theorem nameAt_mem (n k : Int) : nameAt n k ∈ pool n ∧ atI (pool n) (spotAt n k) = some (nameAt n k) := by
  obtain ⟨p, hp, ha⟩ := atI_mem (xs := pool n) (i := spotAt n k) (by unfold spotAt; omega) (by rw [pool_len]; unfold spotAt; omega)
  unfold nameAt
  rw [ha]
  exact ⟨hp, rfl⟩
theorem pools_ok : pools.all (fun p => p.all fun x => okStr x && decide (x.length ≤ 8)) = true := by decide +kernel
theorem nameAt_ok (n k : Int) : okStr (nameAt n k) = true := by
  have := List.all_eq_true.mp (List.all_eq_true.mp pools_ok _ (pool_mem n).1) _ (nameAt_mem n k).1
  simp only [Bool.and_eq_true] at this
  exact this.1
theorem namesL_ok {n : Int} {x : Str} (h : x ∈ namesL n) : okStr x = true := by
  unfold namesL at h
  obtain ⟨k, _, rfl⟩ := List.mem_map.mp h
  exact nameAt_ok _ _
theorem namesL_at {n i : Int} (h0 : 0 ≤ i) (h1 : i < 16) : atI ((namesL n).map D.str) i = some (.str (nameAt n i)) := by
  have e : ((i.toNat : Nat) : Int) = i := by omega
  have hi : i.toNat < 16 := by omega
  generalize i.toNat = j at e hi
  subst e
  refine atI_nat ?_
  unfold namesL
  rw [List.getElem?_map, List.getElem?_map, List.getElem?_range hi]
  rfl
theorem nameAt_names {n i : Int} (h0 : 0 ≤ i) (h1 : i < 16) : nameAt n i ∈ namesL n := by
  unfold namesL
  refine List.mem_map.mpr ⟨i.toNat, List.mem_range.mpr (by omega), ?_⟩
  rw [show ((i.toNat : Nat) : Int) = i by omega]
theorem lcGo_fmap {α : Type} {b : D → EnvD → Option EnvD} {c : FB} {f : FD} {ρ0 : EnvD} {M : Store} (t : α → D) (p : α → Bool) (g : α → D) : ∀ (xs : List α) (acc : List D),
    (∀ x ∈ xs, ∃ ρ1, b (t x) ρ0 = some ρ1 ∧ c ρ1 M = .ok (p x) M ∧ (p x = true → f ρ1 M = .ok (g x) M)) → acc.length + xs.length ≤ sizeLine → lcGo b c f ρ0 (xs.map t) acc M = .ok (acc ++ (xs.filter p).map g) M
  | [], acc, _, _ => by simp [lcGo]
  | x :: xs, acc, h, hl => by
    obtain ⟨ρ1, h1, h2, h3⟩ := h x List.mem_cons_self
    rw [List.map_cons]
    unfold lcGo
    rw [h1]
    simp only
    rw [h2]
    rw [List.length_cons] at hl
    cases hp : p x with
    | false =>
      simp only
      rw [lcGo_fmap t p g xs acc (fun y hy => h y (List.mem_cons_of_mem _ hy)) (by omega), List.filter_cons_of_neg (by rw [hp]; decide)]
    | true =>
      simp only
      rw [h3 hp]
      simp only
      rw [if_pos (by omega), lcGo_fmap t p g xs (acc ++ [g x]) (fun y hy => h y (List.mem_cons_of_mem _ hy)) (by rw [List.length_append, List.length_singleton]; omega), List.filter_cons_of_pos hp, List.map_cons, List.append_assoc]
      rfl
namespace Ex
mutual
def cnt : Ex → Nat
  | num _ => 1
  | use _ => 1
  | op _ a b => cnt a + cnt b + 1
  | lt _ a b => cnt a + cnt b + 1
  | ite a b c => cnt a + cnt b + cnt c + 1
  | times a _ _ b c => cnt a + cnt b + cnt c + 1
  | tell a b => cnt a + cnt b + 1
  | stop a => cnt a + 1
  | call _ _ as => cnts as + 1
def cnts : List Ex → Nat
  | [] => 0
  | e :: es => cnt e + cnts es
end
theorem cnts_le {n : Nat} : ∀ {es : List Ex}, (∀ e ∈ es, cnt e ≤ n) → cnts es ≤ es.length * n
  | [], _ => by rw [cnts]; omega
  | e :: es, h => by
    have h1 := h e List.mem_cons_self
    have h2 := cnts_le (es := es) fun x hx => h x (List.mem_cons_of_mem _ hx)
    rw [cnts, List.length_cons, Nat.succ_mul]
    omega
theorem Wfs_of {nm : Str → Prop} {ah : Str → Str → Nat → Prop} {sc : List Str} : ∀ {es : List Ex}, (∀ e ∈ es, Wf nm ah sc e) → Wfs nm ah sc es
  | [], _ => by rw [Wfs]; trivial
  | e :: es, h => by rw [Wfs]; exact ⟨h e List.mem_cons_self, Wfs_of fun x hx => h x (List.mem_cons_of_mem _ hx)⟩
theorem Wfs_mem {nm : Str → Prop} {ah : Str → Str → Nat → Prop} {sc : List Str} : ∀ {es : List Ex} {e : Ex}, Wfs nm ah sc es → e ∈ es → Wf nm ah sc e
  | e' :: es, e, h, hm => by
    rw [Wfs] at h
    rcases List.mem_cons.mp hm with rfl | hm
    · exact h.1
    · exact Wfs_mem h.2 hm
theorem deps_le {n : Nat} : ∀ {es : List Ex}, (∀ e ∈ es, dep e ≤ n) → deps es ≤ n
  | [], _ => by rw [deps]; omega
  | e :: es, h => by
    have h1 := h e List.mem_cons_self
    have h2 := deps_le (es := es) fun x hx => h x (List.mem_cons_of_mem _ hx)
    rw [deps]
    omega
end Ex
theorem spot_inj {n i j : Int} (hi : 0 ≤ i) (hi2 : i < 16) (hj : 0 ≤ j) (hj2 : j < 16) (h : spotAt n i = spotAt n j) : i = j := by
  unfold spotAt at h
  have hb : n / 48 % 8 = 0 ∨ n / 48 % 8 = 1 ∨ n / 48 % 8 = 2 ∨ n / 48 % 8 = 3 ∨ n / 48 % 8 = 4 ∨ n / 48 % 8 = 5 ∨ n / 48 % 8 = 6 ∨ n / 48 % 8 = 7 := by omega
  generalize n / 3 = x at h
  rcases hb with hb | hb | hb | hb | hb | hb | hb | hb <;> rw [hb] at h <;> omega
theorem pools_nodup : pools.all (fun p => decide p.Nodup) = true := by decide +kernel
theorem atI_inj {α : Type} {xs : List α} (hn : xs.Nodup) {i j : Int} (hi : 0 ≤ i) (hi2 : i < xs.length) (hj : 0 ≤ j) (hj2 : j < xs.length) (h : atI xs i = atI xs j) : i = j := by
  have ei : ((i.toNat : Nat) : Int) = i := by omega
  have ej : ((j.toNat : Nat) : Int) = j := by omega
  have li : i.toNat < xs.length := by omega
  have lj : j.toNat < xs.length := by omega
  generalize i.toNat = a at ei li
  generalize j.toNat = b at ej lj
  subst ei ej
  rw [atI_nat (List.getElem?_eq_getElem li), atI_nat (List.getElem?_eq_getElem lj)] at h
  have := (List.getElem_inj hn).mp (Option.some.inj h)
  omega
theorem nameAt_inj {n i j : Int} (hi : 0 ≤ i) (hi2 : i < 16) (hj : 0 ≤ j) (hj2 : j < 16) (h : nameAt n i = nameAt n j) : i = j := by
  have h1 := (nameAt_mem n i).2
  have h2 := (nameAt_mem n j).2
  rw [h, ← h2] at h1
  have hn : (pool n).Nodup := by simpa using List.all_eq_true.mp pools_nodup _ (pool_mem n).1
  refine spot_inj hi hi2 hj hj2 (atI_inj hn ?_ ?_ ?_ ?_ h1) <;> (try rw [pool_len]) <;> unfold spotAt <;> omega
end TP
namespace TP
open PySem L2
structure Row where
  f : Str
  ps : List Str
  b : Ex
def Row.toD (r : Row) : D := .tup [.str r.f, .tup (r.ps.map .str), r.b.toD]
abbrev Pr := List (Str × List Row)
def rmD (m : Str × List Row) : D := .tup [.str m.1, .tup (m.2.map Row.toD)]
def pgD (P : Pr) : D := .tup (P.map rmD)
def flat : Pr → List (Str × Row)
  | [] => []
  | (m, rs) :: P => rs.map (fun r => (m, r)) ++ flat P
theorem flat_append : ∀ (P Q : Pr), flat (P ++ Q) = flat P ++ flat Q
  | [], Q => rfl
  | (m, rs) :: P, Q => by rw [List.cons_append, flat, flat, flat_append P Q, List.append_assoc]
def fnD (x : Str × Row) : D := .tup [.str x.1, .str x.2.f, .tup (x.2.ps.map .str), x.2.b.toD]
theorem row_add (M : Store) (m : Str) (r : Row) : addD M (.tup [.str m]) r.toD = some (.val (fnD (m, r))) := by simp [Row.toD, addD, fnD]
def rowP (xs : List (Str × Row)) (m f : Str) (k : Nat) : Prop := ∃ x ∈ xs, x.1 = m ∧ x.2.f = f ∧ x.2.ps.length = k
structure RowWf (n : Int) (pre : List (Str × Row)) (x : Str × Row) : Prop where
  nd : x.2.ps.Nodup
  len : x.2.ps.length ≤ 5
  ps : ∀ y ∈ x.2.ps, y ∈ namesL n
  wf : Ex.Wf (· ∈ namesL n) (rowP pre) x.2.ps x.2.b
  dep : x.2.b.dep ≤ 5
  cnt : x.2.b.cnt ≤ 7776
  m : x.1 ∈ namesL (n / 7)
  f : x.2.f ∈ namesL (n / 7)
def RowsWf (n : Int) : List (Str × Row) → List (Str × Row) → Prop
  | _, [] => True
  | pre, x :: xs => RowWf n pre x ∧ RowsWf n (pre ++ [x]) xs
theorem RowsWf.snoc {n : Int} {x : Str × Row} : ∀ {xs pre : List (Str × Row)}, RowsWf n pre xs → RowWf n (pre ++ xs) x → RowsWf n pre (xs ++ [x])
  | [], pre, _, h => by
    rw [List.append_nil] at h
    exact ⟨h, True.intro⟩
  | y :: xs, pre, h, hx => by
    refine ⟨h.1, RowsWf.snoc h.2 ?_⟩
    rw [List.append_assoc]
    exact hx
theorem RowWf.mono {n : Int} {pre pre' : List (Str × Row)} {x : Str × Row} (h : RowWf n pre x) (hp : ∀ y ∈ pre, y ∈ pre') : RowWf n pre' x :=
  ⟨h.nd, h.len, h.ps, Ex.Wf.mono (fun m f k ⟨y, hy, e⟩ => ⟨y, hp y hy, e⟩) _ _ _ (fun _ z => z) h.wf, h.dep, h.cnt, h.m, h.f⟩
theorem RowsWf.mem {n : Int} {x : Str × Row} : ∀ {xs pre : List (Str × Row)}, RowsWf n pre xs → x ∈ xs → RowWf n (pre ++ xs) x
  | y :: xs, pre, h, hm => by
    rcases List.mem_cons.mp hm with rfl | hm
    · exact h.1.mono fun z hz => List.mem_append_left _ hz
    · have := RowsWf.mem h.2 hm
      rw [List.append_assoc] at this
      exact this
structure PrWf (n : Int) (most : Nat) (P : Pr) : Prop where
  rows : RowsWf n [] (flat P)
  mods : (P.map (·.1)).Nodup
  names : ∀ q ∈ P, (q.2.map Row.f).Nodup ∧ q.1 ∈ namesL (n / 7)
  len : P.length ≤ 3
  each : ∀ q ∈ P, q.2.length ≤ max 1 most
  one : ∃ q Q, P = q :: Q ∧ q.2 ≠ []
theorem flat_len {k : Nat} : ∀ {P : Pr}, (∀ q ∈ P, q.2.length ≤ k) → (flat P).length ≤ P.length * k
  | [], _ => by rw [flat]; exact Nat.zero_le _
  | (m, rs) :: P, h => by
    have h1 : rs.length ≤ k := h (m, rs) List.mem_cons_self
    have h2 := flat_len (P := P) fun q hq => h q (List.mem_cons_of_mem _ hq)
    rw [flat, List.length_append, List.length_map, List.length_cons, Nat.succ_mul]
    omega
theorem set_app {M X : Store} {j : Nat} {o : MO} (h : j < M.length) : (M ++ X).set j o = M.set j o ++ X := by
  rw [List.set_append_left _ _ h]
namespace Ex
def spots : Ex → List Int
  | num _ => []
  | use _ => []
  | op _ _ _ => [2, 3]
  | lt _ _ _ => [2, 3]
  | ite _ _ _ => [1, 2, 3]
  | times _ _ _ _ _ => [1, 4, 5]
  | tell _ _ => [1, 2]
  | stop _ => [1]
  | call _ _ _ => []
mutual
def rows : Ex → List (List Nat)
  | num _ => [[]]
  | use _ => [[]]
  | op _ a b => [] :: ((rows a).map (0 :: ·) ++ ((rows b).map (1 :: ·) ++ []))
  | lt _ a b => [] :: ((rows a).map (0 :: ·) ++ ((rows b).map (1 :: ·) ++ []))
  | ite a b c => [] :: ((rows a).map (0 :: ·) ++ ((rows b).map (1 :: ·) ++ ((rows c).map (2 :: ·) ++ [])))
  | times a _ _ b c => [] :: ((rows a).map (0 :: ·) ++ ((rows b).map (1 :: ·) ++ ((rows c).map (2 :: ·) ++ [])))
  | tell a b => [] :: ((rows a).map (0 :: ·) ++ ((rows b).map (1 :: ·) ++ []))
  | stop a => [] :: ((rows a).map (0 :: ·) ++ [])
  | call _ _ as => [] :: rowsL 0 as
def rowsL : Nat → List Ex → List (List Nat)
  | _, [] => []
  | k, e :: es => (rows e).map (k :: ·) ++ rowsL (k + 1) es
end
theorem rows_eq (e : Ex) : rows e = [] :: rowsL 0 e.parts := by
  cases e <;> simp [rows, rowsL, parts]
def sub : Ex → List Nat → Option Ex
  | e, [] => some e
  | e, i :: r => match e.parts[i]? with
    | some p => sub p r
    | none => none
theorem rowsL_sub : ∀ {es : List Ex} {k : Nat} {r : List Nat}, r ∈ rowsL k es → ∃ (i : Nat) (p : Ex) (r' : List Nat), r = (k + i) :: r' ∧ es[i]? = some p ∧ r' ∈ rows p
  | e :: es, k, r, h => by
    rw [rowsL] at h
    rcases List.mem_append.mp h with h | h
    · obtain ⟨r', hr, rfl⟩ := List.mem_map.mp h
      exact ⟨0, e, r', rfl, rfl, hr⟩
    · obtain ⟨i, p, r', rfl, h1, h2⟩ := rowsL_sub h
      exact ⟨i + 1, p, r', by rw [Nat.add_assoc, Nat.add_comm 1], by simpa using h1, h2⟩
theorem rows_sub : ∀ (n : Nat) {e : Ex} {r : List Nat}, e.dep ≤ n → r ∈ rows e → ∃ p, sub e r = some p
  | n, e, r, hn, h => by
    rw [rows_eq] at h
    rcases List.mem_cons.mp h with rfl | h
    · exact ⟨e, by rw [sub]⟩
    · obtain ⟨i, p, r', rfl, h1, h2⟩ := rowsL_sub h
      have hd := parts_dep (List.mem_of_getElem? h1)
      obtain ⟨m, rfl⟩ : ∃ m, n = m + 1 := ⟨n - 1, by omega⟩
      obtain ⟨q, hq⟩ := rows_sub m (by omega) h2
      refine ⟨q, ?_⟩
      rw [sub, Nat.zero_add, h1]
      exact hq
theorem rowsL_len : ∀ (es : List Ex) (k : Nat), (∀ e ∈ es, (rows e).length = cnt e) → (rowsL k es).length = cnts es
  | [], k, _ => by rw [rowsL, cnts]; rfl
  | e :: es, k, h => by
    rw [rowsL, cnts, List.length_append, List.length_map, h e List.mem_cons_self, rowsL_len es (k + 1) fun x hx => h x (List.mem_cons_of_mem _ hx)]
theorem cnt_eq (e : Ex) : cnt e = 1 + cnts e.parts := by
  cases e <;> simp only [cnt, cnts, parts] <;> omega
theorem rows_len : ∀ (n : Nat) {e : Ex}, e.dep ≤ n → (rows e).length = cnt e
  | n, e, hn => by
    rw [rows_eq, List.length_cons, cnt_eq, rowsL_len e.parts 0 fun p hp => ?_, Nat.add_comm]
    have hd := parts_dep hp
    obtain ⟨m, rfl⟩ : ∃ m, n = m + 1 := ⟨n - 1, by omega⟩
    exact rows_len m (by omega)
theorem cnts_mem : ∀ {es : List Ex} {e : Ex}, e ∈ es → cnt e ≤ cnts es
  | e' :: es, e, h => by
    rw [cnts]
    rcases List.mem_cons.mp h with rfl | h
    · omega
    · have := cnts_mem h; omega
theorem parts_cnt {e p : Ex} (h : p ∈ e.parts) : cnt p < cnt e := by
  rw [cnt_eq e]
  have := cnts_mem h
  omega
end Ex
def rowD (r : List Nat) : D := .tup (r.map fun i => .int (i : Nat))
def enumF : Nat → List D → List D
  | _, [] => []
  | k, d :: ds => .tup [.int (k : Nat), d] :: enumF (k + 1) ds
theorem enumF_eq : ∀ (ds : List D) (k : Nat), ((List.range ds.length).map fun i => D.tup [.int ((k + i : Nat) : Int), ds.getD i .non]) = enumF k ds
  | [], k => rfl
  | d :: ds, k => by
    rw [List.length_cons, List.range_succ_eq_map, List.map_cons, enumF, ← enumF_eq ds (k + 1), List.map_map]
    congr 1
    apply List.map_congr_left
    intro i _
    show D.tup [.int ((k + (i + 1) : Nat) : Int), (d :: ds).getD (i + 1) .non] = _
    rw [show k + (i + 1) = k + 1 + i by omega]
    rfl
theorem enumL_eq (ds : List D) : enumL ds = enumF 0 ds := by
  rw [← enumF_eq]
  unfold enumL
  apply List.map_congr_left
  intro i _
  rw [Nat.zero_add]
theorem lcGo_mp {α : Type} {b : D → EnvD → Option EnvD} {f : FD} {ρ0 : EnvD} {M : Store} (t : α → D) (g : α → D) (xs : List α) (h : ∀ x ∈ xs, ∃ ρ1, b (t x) ρ0 = some ρ1 ∧ f ρ1 M = .ok (g x) M) (hl : xs.length ≤ 1000000) :
    lcGo b dYes f ρ0 (xs.map t) [] M = .ok (xs.map g) M := by
  have := lcGo_fmap (b := b) (c := dYes) (f := f) (ρ0 := ρ0) (M := M) t (fun _ => true) g xs [] (fun x hx => by
    obtain ⟨ρ1, h1, h2⟩ := h x hx
    exact ⟨ρ1, h1, rfl, fun _ => h2⟩) (by rw [szL, List.length_nil]; omega)
  rw [this, List.filter_eq_self.mpr (fun _ _ => rfl), List.nil_append]
namespace Ex
theorem rows_lens : ∀ (n : Nat) {e : Ex} {r : List Nat}, e.dep ≤ n → r ∈ rows e → r.length ≤ n
  | n, e, r, hn, h => by
    rw [rows_eq] at h
    rcases List.mem_cons.mp h with rfl | h
    · exact Nat.zero_le _
    · obtain ⟨i, p, r', rfl, h1, h2⟩ := rowsL_sub h
      have hd := parts_dep (List.mem_of_getElem? h1)
      obtain ⟨m, rfl⟩ : ∃ m, n = m + 1 := ⟨n - 1, by omega⟩
      have := rows_lens m (by omega) h2
      rw [List.length_cons]
      omega
end Ex
section
variable {κ : Type} [DecidableEq κ]
end
theorem mem_flat : ∀ {P : Pr} {q : Str × List Row} {r : Row}, q ∈ P → r ∈ q.2 → (q.1, r) ∈ flat P
  | (m, rs) :: P, q, r, hq, hr => by
    rw [flat]
    rcases List.mem_cons.mp hq with rfl | hq
    · exact List.mem_append_left _ (List.mem_map.mpr ⟨r, hr, rfl⟩)
    · exact List.mem_append_right _ (mem_flat hq hr)
end TP
namespace TP
open PySem L2
theorem neW {s t : Str} {b : Bool} (h : (okStr s && okStr t && (decide (s = t) == b)) = true) (M : Store) : neD M (.str s) (.str t) = some (.val (.bl !b)) := by
  simp only [Bool.and_eq_true, beq_iff_eq] at h
  rw [neD_str M h.1.1 h.1.2, h.2]
@[simp] theorem ew0 (M : Store) : eqD M (.str "num") (.str "num") = some (.val (.bl true)) := eqW (by decide +kernel) M
@[simp] theorem nw0 (M : Store) : neD M (.str "num") (.str "num") = some (.val (.bl (!true))) := neW (by decide +kernel) M
@[simp] theorem ew1 (M : Store) : eqD M (.str "num") (.str "use") = some (.val (.bl false)) := eqW (by decide +kernel) M
@[simp] theorem nw1 (M : Store) : neD M (.str "num") (.str "use") = some (.val (.bl (!false))) := neW (by decide +kernel) M
@[simp] theorem ew2 (M : Store) : eqD M (.str "num") (.str "op") = some (.val (.bl false)) := eqW (by decide +kernel) M
@[simp] theorem nw2 (M : Store) : neD M (.str "num") (.str "op") = some (.val (.bl (!false))) := neW (by decide +kernel) M
@[simp] theorem ew3 (M : Store) : eqD M (.str "num") (.str "let") = some (.val (.bl false)) := eqW (by decide +kernel) M
@[simp] theorem nw3 (M : Store) : neD M (.str "num") (.str "let") = some (.val (.bl (!false))) := neW (by decide +kernel) M
@[simp] theorem ew4 (M : Store) : eqD M (.str "num") (.str "if") = some (.val (.bl false)) := eqW (by decide +kernel) M
@[simp] theorem nw4 (M : Store) : neD M (.str "num") (.str "if") = some (.val (.bl (!false))) := neW (by decide +kernel) M
@[simp] theorem ew5 (M : Store) : eqD M (.str "num") (.str "times") = some (.val (.bl false)) := eqW (by decide +kernel) M
@[simp] theorem nw5 (M : Store) : neD M (.str "num") (.str "times") = some (.val (.bl (!false))) := neW (by decide +kernel) M
@[simp] theorem ew6 (M : Store) : eqD M (.str "num") (.str "tell") = some (.val (.bl false)) := eqW (by decide +kernel) M
@[simp] theorem nw6 (M : Store) : neD M (.str "num") (.str "tell") = some (.val (.bl (!false))) := neW (by decide +kernel) M
@[simp] theorem ew7 (M : Store) : eqD M (.str "num") (.str "stop") = some (.val (.bl false)) := eqW (by decide +kernel) M
@[simp] theorem nw7 (M : Store) : neD M (.str "num") (.str "stop") = some (.val (.bl (!false))) := neW (by decide +kernel) M
@[simp] theorem ew8 (M : Store) : eqD M (.str "num") (.str "call") = some (.val (.bl false)) := eqW (by decide +kernel) M
@[simp] theorem nw8 (M : Store) : neD M (.str "num") (.str "call") = some (.val (.bl (!false))) := neW (by decide +kernel) M
@[simp] theorem ew9 (M : Store) : eqD M (.str "use") (.str "num") = some (.val (.bl false)) := eqW (by decide +kernel) M
@[simp] theorem nw9 (M : Store) : neD M (.str "use") (.str "num") = some (.val (.bl (!false))) := neW (by decide +kernel) M
@[simp] theorem ew10 (M : Store) : eqD M (.str "use") (.str "use") = some (.val (.bl true)) := eqW (by decide +kernel) M
@[simp] theorem nw10 (M : Store) : neD M (.str "use") (.str "use") = some (.val (.bl (!true))) := neW (by decide +kernel) M
@[simp] theorem ew11 (M : Store) : eqD M (.str "use") (.str "op") = some (.val (.bl false)) := eqW (by decide +kernel) M
@[simp] theorem nw11 (M : Store) : neD M (.str "use") (.str "op") = some (.val (.bl (!false))) := neW (by decide +kernel) M
@[simp] theorem ew12 (M : Store) : eqD M (.str "use") (.str "let") = some (.val (.bl false)) := eqW (by decide +kernel) M
@[simp] theorem nw12 (M : Store) : neD M (.str "use") (.str "let") = some (.val (.bl (!false))) := neW (by decide +kernel) M
@[simp] theorem ew13 (M : Store) : eqD M (.str "use") (.str "if") = some (.val (.bl false)) := eqW (by decide +kernel) M
@[simp] theorem nw13 (M : Store) : neD M (.str "use") (.str "if") = some (.val (.bl (!false))) := neW (by decide +kernel) M
@[simp] theorem ew14 (M : Store) : eqD M (.str "use") (.str "times") = some (.val (.bl false)) := eqW (by decide +kernel) M
@[simp] theorem nw14 (M : Store) : neD M (.str "use") (.str "times") = some (.val (.bl (!false))) := neW (by decide +kernel) M
@[simp] theorem ew15 (M : Store) : eqD M (.str "use") (.str "tell") = some (.val (.bl false)) := eqW (by decide +kernel) M
@[simp] theorem nw15 (M : Store) : neD M (.str "use") (.str "tell") = some (.val (.bl (!false))) := neW (by decide +kernel) M
@[simp] theorem ew16 (M : Store) : eqD M (.str "use") (.str "stop") = some (.val (.bl false)) := eqW (by decide +kernel) M
@[simp] theorem nw16 (M : Store) : neD M (.str "use") (.str "stop") = some (.val (.bl (!false))) := neW (by decide +kernel) M
@[simp] theorem ew17 (M : Store) : eqD M (.str "use") (.str "call") = some (.val (.bl false)) := eqW (by decide +kernel) M
@[simp] theorem nw17 (M : Store) : neD M (.str "use") (.str "call") = some (.val (.bl (!false))) := neW (by decide +kernel) M
@[simp] theorem ew18 (M : Store) : eqD M (.str "op") (.str "num") = some (.val (.bl false)) := eqW (by decide +kernel) M
@[simp] theorem nw18 (M : Store) : neD M (.str "op") (.str "num") = some (.val (.bl (!false))) := neW (by decide +kernel) M
@[simp] theorem ew19 (M : Store) : eqD M (.str "op") (.str "use") = some (.val (.bl false)) := eqW (by decide +kernel) M
@[simp] theorem nw19 (M : Store) : neD M (.str "op") (.str "use") = some (.val (.bl (!false))) := neW (by decide +kernel) M
@[simp] theorem ew20 (M : Store) : eqD M (.str "op") (.str "op") = some (.val (.bl true)) := eqW (by decide +kernel) M
@[simp] theorem nw20 (M : Store) : neD M (.str "op") (.str "op") = some (.val (.bl (!true))) := neW (by decide +kernel) M
@[simp] theorem ew21 (M : Store) : eqD M (.str "op") (.str "let") = some (.val (.bl false)) := eqW (by decide +kernel) M
@[simp] theorem nw21 (M : Store) : neD M (.str "op") (.str "let") = some (.val (.bl (!false))) := neW (by decide +kernel) M
@[simp] theorem ew22 (M : Store) : eqD M (.str "op") (.str "if") = some (.val (.bl false)) := eqW (by decide +kernel) M
@[simp] theorem nw22 (M : Store) : neD M (.str "op") (.str "if") = some (.val (.bl (!false))) := neW (by decide +kernel) M
@[simp] theorem ew23 (M : Store) : eqD M (.str "op") (.str "times") = some (.val (.bl false)) := eqW (by decide +kernel) M
@[simp] theorem nw23 (M : Store) : neD M (.str "op") (.str "times") = some (.val (.bl (!false))) := neW (by decide +kernel) M
@[simp] theorem ew24 (M : Store) : eqD M (.str "op") (.str "tell") = some (.val (.bl false)) := eqW (by decide +kernel) M
@[simp] theorem nw24 (M : Store) : neD M (.str "op") (.str "tell") = some (.val (.bl (!false))) := neW (by decide +kernel) M
@[simp] theorem ew25 (M : Store) : eqD M (.str "op") (.str "stop") = some (.val (.bl false)) := eqW (by decide +kernel) M
@[simp] theorem nw25 (M : Store) : neD M (.str "op") (.str "stop") = some (.val (.bl (!false))) := neW (by decide +kernel) M
@[simp] theorem ew26 (M : Store) : eqD M (.str "op") (.str "call") = some (.val (.bl false)) := eqW (by decide +kernel) M
@[simp] theorem nw26 (M : Store) : neD M (.str "op") (.str "call") = some (.val (.bl (!false))) := neW (by decide +kernel) M
@[simp] theorem ew27 (M : Store) : eqD M (.str "let") (.str "num") = some (.val (.bl false)) := eqW (by decide +kernel) M
@[simp] theorem nw27 (M : Store) : neD M (.str "let") (.str "num") = some (.val (.bl (!false))) := neW (by decide +kernel) M
@[simp] theorem ew28 (M : Store) : eqD M (.str "let") (.str "use") = some (.val (.bl false)) := eqW (by decide +kernel) M
@[simp] theorem nw28 (M : Store) : neD M (.str "let") (.str "use") = some (.val (.bl (!false))) := neW (by decide +kernel) M
@[simp] theorem ew29 (M : Store) : eqD M (.str "let") (.str "op") = some (.val (.bl false)) := eqW (by decide +kernel) M
@[simp] theorem nw29 (M : Store) : neD M (.str "let") (.str "op") = some (.val (.bl (!false))) := neW (by decide +kernel) M
@[simp] theorem ew30 (M : Store) : eqD M (.str "let") (.str "let") = some (.val (.bl true)) := eqW (by decide +kernel) M
@[simp] theorem nw30 (M : Store) : neD M (.str "let") (.str "let") = some (.val (.bl (!true))) := neW (by decide +kernel) M
@[simp] theorem ew31 (M : Store) : eqD M (.str "let") (.str "if") = some (.val (.bl false)) := eqW (by decide +kernel) M
@[simp] theorem nw31 (M : Store) : neD M (.str "let") (.str "if") = some (.val (.bl (!false))) := neW (by decide +kernel) M
@[simp] theorem ew32 (M : Store) : eqD M (.str "let") (.str "times") = some (.val (.bl false)) := eqW (by decide +kernel) M
@[simp] theorem nw32 (M : Store) : neD M (.str "let") (.str "times") = some (.val (.bl (!false))) := neW (by decide +kernel) M
@[simp] theorem ew33 (M : Store) : eqD M (.str "let") (.str "tell") = some (.val (.bl false)) := eqW (by decide +kernel) M
@[simp] theorem nw33 (M : Store) : neD M (.str "let") (.str "tell") = some (.val (.bl (!false))) := neW (by decide +kernel) M
@[simp] theorem ew34 (M : Store) : eqD M (.str "let") (.str "stop") = some (.val (.bl false)) := eqW (by decide +kernel) M
@[simp] theorem nw34 (M : Store) : neD M (.str "let") (.str "stop") = some (.val (.bl (!false))) := neW (by decide +kernel) M
@[simp] theorem ew35 (M : Store) : eqD M (.str "let") (.str "call") = some (.val (.bl false)) := eqW (by decide +kernel) M
@[simp] theorem nw35 (M : Store) : neD M (.str "let") (.str "call") = some (.val (.bl (!false))) := neW (by decide +kernel) M
@[simp] theorem ew36 (M : Store) : eqD M (.str "if") (.str "num") = some (.val (.bl false)) := eqW (by decide +kernel) M
@[simp] theorem nw36 (M : Store) : neD M (.str "if") (.str "num") = some (.val (.bl (!false))) := neW (by decide +kernel) M
@[simp] theorem ew37 (M : Store) : eqD M (.str "if") (.str "use") = some (.val (.bl false)) := eqW (by decide +kernel) M
@[simp] theorem nw37 (M : Store) : neD M (.str "if") (.str "use") = some (.val (.bl (!false))) := neW (by decide +kernel) M
@[simp] theorem ew38 (M : Store) : eqD M (.str "if") (.str "op") = some (.val (.bl false)) := eqW (by decide +kernel) M
@[simp] theorem nw38 (M : Store) : neD M (.str "if") (.str "op") = some (.val (.bl (!false))) := neW (by decide +kernel) M
@[simp] theorem ew39 (M : Store) : eqD M (.str "if") (.str "let") = some (.val (.bl false)) := eqW (by decide +kernel) M
@[simp] theorem nw39 (M : Store) : neD M (.str "if") (.str "let") = some (.val (.bl (!false))) := neW (by decide +kernel) M
@[simp] theorem ew40 (M : Store) : eqD M (.str "if") (.str "if") = some (.val (.bl true)) := eqW (by decide +kernel) M
@[simp] theorem nw40 (M : Store) : neD M (.str "if") (.str "if") = some (.val (.bl (!true))) := neW (by decide +kernel) M
@[simp] theorem ew41 (M : Store) : eqD M (.str "if") (.str "times") = some (.val (.bl false)) := eqW (by decide +kernel) M
@[simp] theorem nw41 (M : Store) : neD M (.str "if") (.str "times") = some (.val (.bl (!false))) := neW (by decide +kernel) M
@[simp] theorem ew42 (M : Store) : eqD M (.str "if") (.str "tell") = some (.val (.bl false)) := eqW (by decide +kernel) M
@[simp] theorem nw42 (M : Store) : neD M (.str "if") (.str "tell") = some (.val (.bl (!false))) := neW (by decide +kernel) M
@[simp] theorem ew43 (M : Store) : eqD M (.str "if") (.str "stop") = some (.val (.bl false)) := eqW (by decide +kernel) M
@[simp] theorem nw43 (M : Store) : neD M (.str "if") (.str "stop") = some (.val (.bl (!false))) := neW (by decide +kernel) M
@[simp] theorem ew44 (M : Store) : eqD M (.str "if") (.str "call") = some (.val (.bl false)) := eqW (by decide +kernel) M
@[simp] theorem nw44 (M : Store) : neD M (.str "if") (.str "call") = some (.val (.bl (!false))) := neW (by decide +kernel) M
@[simp] theorem ew45 (M : Store) : eqD M (.str "times") (.str "num") = some (.val (.bl false)) := eqW (by decide +kernel) M
@[simp] theorem nw45 (M : Store) : neD M (.str "times") (.str "num") = some (.val (.bl (!false))) := neW (by decide +kernel) M
@[simp] theorem ew46 (M : Store) : eqD M (.str "times") (.str "use") = some (.val (.bl false)) := eqW (by decide +kernel) M
@[simp] theorem nw46 (M : Store) : neD M (.str "times") (.str "use") = some (.val (.bl (!false))) := neW (by decide +kernel) M
@[simp] theorem ew47 (M : Store) : eqD M (.str "times") (.str "op") = some (.val (.bl false)) := eqW (by decide +kernel) M
@[simp] theorem nw47 (M : Store) : neD M (.str "times") (.str "op") = some (.val (.bl (!false))) := neW (by decide +kernel) M
@[simp] theorem ew48 (M : Store) : eqD M (.str "times") (.str "let") = some (.val (.bl false)) := eqW (by decide +kernel) M
@[simp] theorem nw48 (M : Store) : neD M (.str "times") (.str "let") = some (.val (.bl (!false))) := neW (by decide +kernel) M
@[simp] theorem ew49 (M : Store) : eqD M (.str "times") (.str "if") = some (.val (.bl false)) := eqW (by decide +kernel) M
@[simp] theorem nw49 (M : Store) : neD M (.str "times") (.str "if") = some (.val (.bl (!false))) := neW (by decide +kernel) M
@[simp] theorem ew50 (M : Store) : eqD M (.str "times") (.str "times") = some (.val (.bl true)) := eqW (by decide +kernel) M
@[simp] theorem nw50 (M : Store) : neD M (.str "times") (.str "times") = some (.val (.bl (!true))) := neW (by decide +kernel) M
@[simp] theorem ew51 (M : Store) : eqD M (.str "times") (.str "tell") = some (.val (.bl false)) := eqW (by decide +kernel) M
@[simp] theorem nw51 (M : Store) : neD M (.str "times") (.str "tell") = some (.val (.bl (!false))) := neW (by decide +kernel) M
@[simp] theorem ew52 (M : Store) : eqD M (.str "times") (.str "stop") = some (.val (.bl false)) := eqW (by decide +kernel) M
@[simp] theorem nw52 (M : Store) : neD M (.str "times") (.str "stop") = some (.val (.bl (!false))) := neW (by decide +kernel) M
@[simp] theorem ew53 (M : Store) : eqD M (.str "times") (.str "call") = some (.val (.bl false)) := eqW (by decide +kernel) M
@[simp] theorem nw53 (M : Store) : neD M (.str "times") (.str "call") = some (.val (.bl (!false))) := neW (by decide +kernel) M
@[simp] theorem ew54 (M : Store) : eqD M (.str "tell") (.str "num") = some (.val (.bl false)) := eqW (by decide +kernel) M
@[simp] theorem nw54 (M : Store) : neD M (.str "tell") (.str "num") = some (.val (.bl (!false))) := neW (by decide +kernel) M
@[simp] theorem ew55 (M : Store) : eqD M (.str "tell") (.str "use") = some (.val (.bl false)) := eqW (by decide +kernel) M
@[simp] theorem nw55 (M : Store) : neD M (.str "tell") (.str "use") = some (.val (.bl (!false))) := neW (by decide +kernel) M
@[simp] theorem ew56 (M : Store) : eqD M (.str "tell") (.str "op") = some (.val (.bl false)) := eqW (by decide +kernel) M
@[simp] theorem nw56 (M : Store) : neD M (.str "tell") (.str "op") = some (.val (.bl (!false))) := neW (by decide +kernel) M
@[simp] theorem ew57 (M : Store) : eqD M (.str "tell") (.str "let") = some (.val (.bl false)) := eqW (by decide +kernel) M
@[simp] theorem nw57 (M : Store) : neD M (.str "tell") (.str "let") = some (.val (.bl (!false))) := neW (by decide +kernel) M
@[simp] theorem ew58 (M : Store) : eqD M (.str "tell") (.str "if") = some (.val (.bl false)) := eqW (by decide +kernel) M
@[simp] theorem nw58 (M : Store) : neD M (.str "tell") (.str "if") = some (.val (.bl (!false))) := neW (by decide +kernel) M
@[simp] theorem ew59 (M : Store) : eqD M (.str "tell") (.str "times") = some (.val (.bl false)) := eqW (by decide +kernel) M
@[simp] theorem nw59 (M : Store) : neD M (.str "tell") (.str "times") = some (.val (.bl (!false))) := neW (by decide +kernel) M
@[simp] theorem ew60 (M : Store) : eqD M (.str "tell") (.str "tell") = some (.val (.bl true)) := eqW (by decide +kernel) M
@[simp] theorem nw60 (M : Store) : neD M (.str "tell") (.str "tell") = some (.val (.bl (!true))) := neW (by decide +kernel) M
@[simp] theorem ew61 (M : Store) : eqD M (.str "tell") (.str "stop") = some (.val (.bl false)) := eqW (by decide +kernel) M
@[simp] theorem nw61 (M : Store) : neD M (.str "tell") (.str "stop") = some (.val (.bl (!false))) := neW (by decide +kernel) M
@[simp] theorem ew62 (M : Store) : eqD M (.str "tell") (.str "call") = some (.val (.bl false)) := eqW (by decide +kernel) M
@[simp] theorem nw62 (M : Store) : neD M (.str "tell") (.str "call") = some (.val (.bl (!false))) := neW (by decide +kernel) M
@[simp] theorem ew63 (M : Store) : eqD M (.str "stop") (.str "num") = some (.val (.bl false)) := eqW (by decide +kernel) M
@[simp] theorem nw63 (M : Store) : neD M (.str "stop") (.str "num") = some (.val (.bl (!false))) := neW (by decide +kernel) M
@[simp] theorem ew64 (M : Store) : eqD M (.str "stop") (.str "use") = some (.val (.bl false)) := eqW (by decide +kernel) M
@[simp] theorem nw64 (M : Store) : neD M (.str "stop") (.str "use") = some (.val (.bl (!false))) := neW (by decide +kernel) M
@[simp] theorem ew65 (M : Store) : eqD M (.str "stop") (.str "op") = some (.val (.bl false)) := eqW (by decide +kernel) M
@[simp] theorem nw65 (M : Store) : neD M (.str "stop") (.str "op") = some (.val (.bl (!false))) := neW (by decide +kernel) M
@[simp] theorem ew66 (M : Store) : eqD M (.str "stop") (.str "let") = some (.val (.bl false)) := eqW (by decide +kernel) M
@[simp] theorem nw66 (M : Store) : neD M (.str "stop") (.str "let") = some (.val (.bl (!false))) := neW (by decide +kernel) M
@[simp] theorem ew67 (M : Store) : eqD M (.str "stop") (.str "if") = some (.val (.bl false)) := eqW (by decide +kernel) M
@[simp] theorem nw67 (M : Store) : neD M (.str "stop") (.str "if") = some (.val (.bl (!false))) := neW (by decide +kernel) M
@[simp] theorem ew68 (M : Store) : eqD M (.str "stop") (.str "times") = some (.val (.bl false)) := eqW (by decide +kernel) M
@[simp] theorem nw68 (M : Store) : neD M (.str "stop") (.str "times") = some (.val (.bl (!false))) := neW (by decide +kernel) M
@[simp] theorem ew69 (M : Store) : eqD M (.str "stop") (.str "tell") = some (.val (.bl false)) := eqW (by decide +kernel) M
@[simp] theorem nw69 (M : Store) : neD M (.str "stop") (.str "tell") = some (.val (.bl (!false))) := neW (by decide +kernel) M
@[simp] theorem ew70 (M : Store) : eqD M (.str "stop") (.str "stop") = some (.val (.bl true)) := eqW (by decide +kernel) M
@[simp] theorem nw70 (M : Store) : neD M (.str "stop") (.str "stop") = some (.val (.bl (!true))) := neW (by decide +kernel) M
@[simp] theorem ew71 (M : Store) : eqD M (.str "stop") (.str "call") = some (.val (.bl false)) := eqW (by decide +kernel) M
@[simp] theorem nw71 (M : Store) : neD M (.str "stop") (.str "call") = some (.val (.bl (!false))) := neW (by decide +kernel) M
@[simp] theorem ew72 (M : Store) : eqD M (.str "call") (.str "num") = some (.val (.bl false)) := eqW (by decide +kernel) M
@[simp] theorem nw72 (M : Store) : neD M (.str "call") (.str "num") = some (.val (.bl (!false))) := neW (by decide +kernel) M
@[simp] theorem ew73 (M : Store) : eqD M (.str "call") (.str "use") = some (.val (.bl false)) := eqW (by decide +kernel) M
@[simp] theorem nw73 (M : Store) : neD M (.str "call") (.str "use") = some (.val (.bl (!false))) := neW (by decide +kernel) M
@[simp] theorem ew74 (M : Store) : eqD M (.str "call") (.str "op") = some (.val (.bl false)) := eqW (by decide +kernel) M
@[simp] theorem nw74 (M : Store) : neD M (.str "call") (.str "op") = some (.val (.bl (!false))) := neW (by decide +kernel) M
@[simp] theorem ew75 (M : Store) : eqD M (.str "call") (.str "let") = some (.val (.bl false)) := eqW (by decide +kernel) M
@[simp] theorem nw75 (M : Store) : neD M (.str "call") (.str "let") = some (.val (.bl (!false))) := neW (by decide +kernel) M
@[simp] theorem ew76 (M : Store) : eqD M (.str "call") (.str "if") = some (.val (.bl false)) := eqW (by decide +kernel) M
@[simp] theorem nw76 (M : Store) : neD M (.str "call") (.str "if") = some (.val (.bl (!false))) := neW (by decide +kernel) M
@[simp] theorem ew77 (M : Store) : eqD M (.str "call") (.str "times") = some (.val (.bl false)) := eqW (by decide +kernel) M
@[simp] theorem nw77 (M : Store) : neD M (.str "call") (.str "times") = some (.val (.bl (!false))) := neW (by decide +kernel) M
@[simp] theorem ew78 (M : Store) : eqD M (.str "call") (.str "tell") = some (.val (.bl false)) := eqW (by decide +kernel) M
@[simp] theorem nw78 (M : Store) : neD M (.str "call") (.str "tell") = some (.val (.bl (!false))) := neW (by decide +kernel) M
@[simp] theorem ew79 (M : Store) : eqD M (.str "call") (.str "stop") = some (.val (.bl false)) := eqW (by decide +kernel) M
@[simp] theorem nw79 (M : Store) : neD M (.str "call") (.str "stop") = some (.val (.bl (!false))) := neW (by decide +kernel) M
@[simp] theorem ew80 (M : Store) : eqD M (.str "call") (.str "call") = some (.val (.bl true)) := eqW (by decide +kernel) M
@[simp] theorem nw80 (M : Store) : neD M (.str "call") (.str "call") = some (.val (.bl (!true))) := neW (by decide +kernel) M
end TP
namespace TP
open PySem L2
mutual
def bigD : D → Nat
  | .non => 4
  | .bl _ => 5
  | .int i => (Str.ofString (toString i)).length
  | .str x => (reprText x).length
  | .lst xs => bigL xs + 3
  | .tup xs => bigL xs + 3
  | .fro _ => 4
  | .kt _ => 4
  | .fn _ => 4
  | .ref _ => 4
def bigL : List D → Nat
  | [] => 0
  | x :: xs => bigD x + 2 + bigL xs
end
mutual
theorem shown_big : ∀ d : D, (toPy d).shown.length ≤ bigD d
  | .non => by simp only [toPy, bigD]; decide
  | .bl b => by simp only [toPy, bigD]; cases b <;> decide
  | .int i => by simp only [toPy, bigD, PyData.shown]; exact Nat.le_refl _
  | .str x => by simp only [toPy, bigD, PyData.shown]; exact Nat.le_refl _
  | .lst xs => by
    simp only [toPy, bigD, PyData.shown]
    have h1 := listText_len_le (PyData.shownAll (toPyL xs))
    have h2 := shownL_big xs
    omega
  | .tup xs => by
    simp only [toPy, bigD, PyData.shown]
    have h1 := tupleText_len_le (PyData.shownAll (toPyL xs))
    have h2 := shownL_big xs
    omega
  | .fro _ => by simp only [toPy, bigD]; decide
  | .kt _ => by simp only [toPy, bigD]; decide
  | .fn _ => by simp only [toPy, bigD]; decide
  | .ref _ => by simp only [toPy, bigD]; decide
theorem shownL_big : ∀ xs : List D, ((PyData.shownAll (toPyL xs)).map (·.length)).sum + 2 * (PyData.shownAll (toPyL xs)).length ≤ bigL xs
  | [] => by simp [toPyL, PyData.shownAll, bigL]
  | x :: xs => by
    have h1 := shown_big x
    have h2 := shownL_big xs
    simp only [toPyL, PyData.shownAll, bigL, List.map_cons, List.sum_cons, List.length_cons]
    omega
end
structure Fit (n k : Nat) (d : D) : Prop where
  good : goodD d = true
  show_ : (toPy d).showable = true
  dp : dpD d ≤ k
  big : bigD d ≤ n
theorem Fit.mono {n k n' k' : Nat} {d : D} (h : Fit n k d) (hn : n ≤ n') (hk : k ≤ k') : Fit n' k' d := ⟨h.good, h.show_, Nat.le_trans h.dp hk, Nat.le_trans h.big hn⟩
theorem Fit.repr {n k : Nat} {d : D} (h : Fit n k d) (hn : n ≤ 16777216) (hk : k ≤ 190) (M : Store) : reprD M [d] = some (.val (.str (toPy d).shown)) := by
  show (if shwD (derD M d) then some (Slot.val (D.str (toPy (derD M d)).shown)) else none) = _
  rw [der_good M h.good]
  have hs : shwD d = true := by
    unfold shwD
    simp only [Bool.and_eq_true, decide_eq_true_eq]
    refine ⟨⟨⟨h.good, h.show_⟩, Nat.le_trans h.dp hk⟩, ?_⟩
    rw [szL]
    exact Nat.le_trans (shown_big d) (Nat.le_trans h.big hn)
  rw [hs]
  rfl
structure FitL (n k : Nat) (ds : List D) : Prop where
  good : goodL ds = true
  show_ : PyData.showableAll (toPyL ds) = true
  dp : dpL ds ≤ k
  big : bigL ds ≤ n
theorem FitL.nil {k : Nat} : FitL 0 k [] := ⟨rfl, rfl, Nat.zero_le _, Nat.le_refl _⟩
theorem FitL.cons {n m k : Nat} {d : D} {ds : List D} (h : Fit n k d) (hs : FitL m k ds) : FitL (n + 2 + m) k (d :: ds) := by
  refine ⟨?_, ?_, ?_, ?_⟩
  · rw [goodL, h.good, hs.good]; rfl
  · simp only [toPyL, PyData.showableAll, h.show_, hs.show_]; rfl
  · have h1 := h.dp
    have h2 := hs.dp
    rw [dpL]; omega
  · have h1 := h.big
    have h2 := hs.big
    rw [bigL]; omega
theorem FitL.each {n k : Nat} : ∀ {ds : List D}, (∀ d ∈ ds, Fit n k d) → FitL (ds.length * (n + 2)) k ds
  | [], _ => ⟨rfl, rfl, Nat.zero_le _, by rw [List.length_nil, Nat.zero_mul]; exact Nat.le_refl _⟩
  | d :: ds, h => by
    have h1 := FitL.cons (h d List.mem_cons_self) (FitL.each fun x hx => h x (List.mem_cons_of_mem _ hx))
    rw [List.length_cons, Nat.succ_mul, Nat.add_comm]
    exact h1
theorem FitL.upto {n k c m : Nat} {ds : List D} (h : ∀ d ∈ ds, Fit n k d) (hl : ds.length ≤ c) (hm : c * (n + 2) ≤ m) : FitL m k ds := by
  have h1 := FitL.each h
  exact ⟨h1.good, h1.show_, h1.dp, Nat.le_trans h1.big (Nat.le_trans (Nat.mul_le_mul_right _ hl) hm)⟩
theorem FitL.mono {n k n' k' : Nat} {d : List D} (h : FitL n k d) (hn : n ≤ n') (hk : k ≤ k') : FitL n' k' d := ⟨h.good, h.show_, Nat.le_trans h.dp hk, Nat.le_trans h.big hn⟩
theorem FitL.tup {n k : Nat} {ds : List D} (h : FitL n k ds) : Fit (n + 3) (k + 1) (.tup ds) := by
  refine ⟨?_, ?_, ?_, ?_⟩
  · rw [goodD]; exact h.good
  · simp only [toPy, PyData.showable]; exact h.show_
  · have := h.dp; rw [dpD]; omega
  · have := h.big; rw [bigD]; omega
theorem FitL.lst {n k : Nat} {ds : List D} (h : FitL n k ds) : Fit (n + 3) (k + 1) (.lst ds) := by
  refine ⟨?_, ?_, ?_, ?_⟩
  · rw [goodD]; exact h.good
  · simp only [toPy, PyData.showable]; exact h.show_
  · have := h.dp; rw [dpD]; omega
  · have := h.big; rw [bigD]; omega
theorem Fit.non {k : Nat} : Fit 4 k .non := ⟨rfl, rfl, Nat.zero_le _, Nat.le_refl _⟩
theorem Fit.bl {k : Nat} {b : Bool} : Fit 5 k (.bl b) := ⟨rfl, rfl, Nat.zero_le _, Nat.le_refl _⟩
theorem Fit.int {k j : Nat} {i : Int} (hj : 0 < j) (hj2 : j ≤ 500) (h : i.natAbs < 10 ^ j) : Fit (j + 1) k (.int i) := by
  refine ⟨rfl, ?_, Nat.zero_le _, ?_⟩
  · simp only [toPy, PyData.showable, decide_eq_true_eq]
    have h1 : i.natAbs < 2 ^ 1920 := Nat.lt_of_lt_of_le h (Nat.le_trans (Nat.pow_le_pow_right (by decide) hj2) (by decide +kernel))
    by_cases h0 : i.natAbs = 0
    · rw [h0]; decide
    · exact (Nat.log2_lt h0).mpr h1
  · have := int_text_length_le10 hj h
    rw [bigD]
    have e : (Str.ofString (toString i)).length = (toString i).length := PySem.ofString_length _
    omega
def nmB (n : Nat) (x : Str) : Bool := okStr x && decide ((reprText x).length ≤ n)
theorem Fit.str {n k : Nat} {x : Str} (h : nmB n x = true) : Fit n k (.str x) := by
  unfold nmB at h
  rw [Bool.and_eq_true, decide_eq_true_eq] at h
  exact ⟨h.1, rfl, Nat.zero_le _, h.2⟩
namespace Ex
end Ex
theorem pools_nm : pools.all (fun p => p.all (nmB 12)) = true := by decide +kernel
theorem namesL_nm {n : Int} {x : Str} (h : x ∈ namesL n) : nmB 12 x = true := by
  unfold namesL at h
  obtain ⟨k, _, rfl⟩ := List.mem_map.mp h
  exact List.all_eq_true.mp (List.all_eq_true.mp pools_nm _ (pool_mem n).1) _ (nameAt_mem n k).1
theorem RowsWf.names {n : Int} : ∀ {xs pre : List (Str × Row)}, RowsWf n pre xs → ∀ x ∈ xs, x.1 ∈ namesL (n / 7) ∧ x.2.f ∈ namesL (n / 7)
  | y :: xs, pre, h, x, hx => by
    rcases List.mem_cons.mp hx with rfl | hx
    · exact ⟨h.1.m, h.1.f⟩
    · exact RowsWf.names h.2 x hx
end TP
namespace TP
open PySem L2
section
open PySem.Spec PyProof.Rows
variable {prog : Program} {w : World} {A : Around} {E : Value → Shared → Prop} {s : Shared} {r d : Addr} {n : Nat} {P : Nat → Value → Prop} {OK : Heap → Prop}
end
section
variable {K : PySem.W.Frag}
end
end TP
namespace TP
open PySem L2
section
open PySem.Spec PyProof.Rows
end
section
variable {X : Cx} {e st : Expr} {te ts : TE}
end
section
variable {K : PySem.W.Frag} {E : Wish} {X : Cx} {e : Expr}
variable {ρ : EnvD} {M : Store}
end
end TP
namespace TP
open PySem L2
section
variable {K : PySem.W.Frag}
end
section
variable {K : PySem.W.Frag} {E : Wish} {X : Cx} {e : Expr}
end
end TP
namespace TP
open PySem L2
def KnownT (H : Hp) (x : V) : Prop := ∃ (p : Addr) (o : Obj) (vs : List V), x = .ref p ∧ H p = some (.frz o (.tup vs)) ∧ o.cls = .type "tuple" ∧ o.dict = none
def tBMk (r : V → List V → Hp → VK → Prop) (to : TE) (t : TA) : TE := fun σ H Q => to σ H fun x H1 => KnownT H1 x ∧ t σ H1 fun xs H2 => r x xs H2 Q
section
variable {X : Cx} {o e : Expr} {es : List Expr} {to : TE} {t : TA} {name : Str} {apos cpos : Pos} {id : String} {r : V → List V → Hp → VK → Prop}
open PySem.Spec PyProof.Rows in
theorem pe_bmk (pa : PlainAttrs "tuple") (slot : PySem.Slot "tuple" name id) (hty : typeOf (.builtin id) = pure (.type "method_descriptor")) (hm : MtR X id r) (ho : PE X o to) (ha : PA X (e :: es) t)
    (hbase : attributeBase o name X.env (eval o X.env) = eval o X.env := by rfl)
    (hfew : ((backTo cpos (starEach (e :: es) X.env)).all (fun x => !x.1) && (backToKw cpos (keywordEach [] X.env)).all (fun x => x.1.isSome)
      && decide ((e :: es).length + ([] : List Keyword).length + (if ([] : List Keyword).isEmpty then 0 else 1) < 30)) = true := by rfl)
    (hline : (apos.endLine == cpos.line) = true := by rfl) (hs : starEach (e :: es) X.env = (false, eval e X.env) :: starEach es X.env := by rfl) (hplain : (backTo cpos (starEach es X.env)).any (·.1) = false := by rfl) :
    PE X (.Call (.Attribute o name apos) (e :: es) [] cpos) (tBMk r to t) := by
  refine ⟨fun pins s σ H Q I h => ?_⟩
  refine wpAny_Call_method_late hbase hfew hline rfl (thn (ho.run pins s σ H _ I h) fun v s1 ⟨x, H1, I1, r1, ⟨p, ob, vs, ex, hp, hc, hd⟩, q1⟩ => ?_)
  subst ex
  obtain rfl : v = Value.ref p := r1
  obtain ⟨g1, g2⟩ := (show ObjOk X.prog X.w H1 s1.heap p (.frz ob (.tup vs)) from I1.hok p _ hp)
  refine ⟨"tuple", id, pa, slot, hty, ⟨ob, g1, hc⟩, fun a ea => (by cases ea; exact ⟨ob, g1, hd⟩), ?_⟩
  have hA := ha.run cpos pins s1 σ H1 _ I1 q1
  rw [hs] at hA ⊢
  refine Calls.callWith_builtin (by show (false || (backTo cpos (starEach es X.env)).any (·.1)) = false; rw [hplain] <;> rfl) (Calls.evalArgs_plain ?_)
  exact thn hA fun us s2 ⟨vs, H2, I2, r2, q2⟩ => hm pins s2 σ H2 (.ref p) vs (.ref p) us Q I2 rfl r2 q2
end
section
variable {K : PySem.W.Frag} {E : Wish} {X : Cx} {e : Expr}
def dMethK (g : Store → D → List D → Option Slot) (fo : FD) (fs : FL) : FE := fun ρ M => (fo ρ M).bind fun x M => match x with
  | .tup es => bif klD es then .bad else (fs ρ M).bind fun ds M => R.of (g M (.tup es) ds) M
  | _ => .bad
theorem x_methK {r : V → List V → Hp → VK → Prop} {g : Store → D → List D → Option Slot} {fo : FD} {fs : FL} (h : PE X e (tBMk r (tR K E fo) (tAR K E fs))) (p : PrimM K r g) : PE X e (tE K E (dMethK g fo fs)) := PE.wk h fun σ H Q ⟨ρ, w, e1, ok, sr, a⟩ =>
  ⟨ρ, w, e1, ok, sr, a.bind.imp fun x w1 s1 a1 vx rx => by
    split at a1
    · rename_i es
      cases hk : klD es with
      | true => rw [hk] at a1; exact a1.elim
      | false =>
        rw [hk, cond_false] at a1
        have kn : KnownT w1.H vx := by
          rcases rx with rx | ⟨_, _, _, _, e, _⟩
          · cases rx with
            | tup hs rl =>
              obtain ⟨o, h1, h2, h3⟩ := hs.known hk
              exact ⟨_, o, _, rfl, s1.ok.sub _ _ h3, h2, h1⟩
          · cases e
        refine ⟨kn, ρ, w1, rfl, s1.ok, sr.step s1, a1.bind.imp fun ds w2 s2 a2 vs rvs => ?_⟩
        obtain ⟨s, es', k⟩ := fin_of (s1.trans s2) a2
        exact p w2 vx _ vs ds s Q s2.ok (rx.step s2) rvs es' k
    · exact a1.elim⟩
end
section
variable {X : Cx} {pins : List (Addr × Obj)} {σ : L2.St} {H : Hp} {s : Shared}
end
section
variable {K : PySem.W.Frag}
end
end TP
namespace TP
open PySem L2
theorem reads_item {h : Heap} : ∀ {vs : List Value} {xs : List PyData} {as : List Addr}, ReadsAll h vs xs as → PyData.canLayAll0 xs = true → vs.length = xs.length ∧ ∀ (j : Nat) (h1 : j < vs.length) (h2 : j < xs.length), (∃ bs, Reads h vs[j] xs[j] bs) ∧ (xs[j]).canLay0 = true ∧ (xs[j]).depth ≤ PyData.depthAll xs
  | _, _, _, .nil, _ => ⟨rfl, fun j h1 _ => absurd h1 (Nat.not_lt_zero _)⟩
  | _, _, _, .cons r rs, hl => by
    simp only [PyData.canLayAll0, Bool.and_eq_true] at hl
    obtain ⟨e, f⟩ := reads_item rs hl.2
    refine ⟨by rw [List.length_cons, List.length_cons, e], fun j h1 h2 => ?_⟩
    cases j with
    | zero => exact ⟨⟨_, r⟩, hl.1, by simp only [PyData.depthAll, List.getElem_cons_zero]; exact Nat.le_max_left _ _⟩
    | succ j =>
      obtain ⟨a, b, c⟩ := f j (Nat.lt_of_succ_lt_succ h1) (Nat.lt_of_succ_lt_succ h2)
      refine ⟨a, b, ?_⟩
      simp only [PyData.depthAll, List.getElem_cons_succ]
      exact Nat.le_trans c (Nat.le_max_right _ _)
def rIdxE (K : PySem.W.Frag) : V → List V → Hp → VK → Prop := fun x xs H Q => ∃ (p : Addr) (vs : List V) (y : V) (es : List PyData) (e : PyData), x = .ref p ∧ xs = [y] ∧ SqT K H p vs ∧ DpAll K H vs es ∧ Dp K H y e ∧ PyData.canLayAll0 es = true ∧ e.canLay0 = true ∧
  min (PyData.depthAll es) e.depth ≤ 190 ∧ true ∈ es.map (fun z => PyData.eqv z e) ∧ Q (.int ((es.map fun z => PyData.eqv z e).idxOf true : Nat)) H
section
variable {X : Cx}
open PySem.Spec PyProof.Rows in
theorem mt_tup_idxE (hu : X.A.units + 200 < cLine) : MtR X "tuple.index" (rIdxE X.K) := by
  intro pins s σ H x xs v us Q I rx rxs h
  obtain ⟨p, vs, y, es, e, rfl, rfl, ha, hes, he, g1, g2, g3, g4, q⟩ := h
  obtain rfl : v = Value.ref p := rx
  obtain ⟨u, rfl, ru⟩ := vals1 rxs
  obtain ⟨its, r1, p1, _⟩ := I.tuple ha
  obtain ⟨as, ra⟩ := Dp.readsAll I es vs its hes r1
  obtain ⟨bs, rb⟩ := Dp.reads I e y u he ru
  obtain ⟨hl, hi⟩ := reads_item ra g1
  refine PySem.SeqAt.call_tuple_index (ks := es.map fun z => PyData.eqv z e) (k := true) p1 ⟨by rw [List.length_map]; exact hl, fun j h1 h2 => ?_⟩ g4 ⟨.int ((es.map fun z => PyData.eqv z e).idxOf true : Nat), H, I.tok _, ⟨_, rfl⟩, q⟩
  have h3 : j < es.length := by rwa [List.length_map] at h2
  obtain ⟨⟨cs, rc⟩, b, c⟩ := hi j h1 h3
  have hm : min (es[j]).depth e.depth ≤ min (PyData.depthAll es) e.depth := by omega
  have he := PySem.SeqAt.eqAt_reads es[j] e X.A.in1 s its[j] u cs bs rc rb b g2 (by show X.A.units + 1 + _ < _; omega)
  have ed : decide ((es.map fun z => PyData.eqv z e)[j] = true) = PyData.eqv es[j] e := by rw [List.getElem_map]; cases PyData.eqv es[j] e <;> rfl
  rw [ed]
  exact he
end
section
variable {K : PySem.W.Frag}
def noLst : D → Bool
  | .lst _ => false
  | _ => true
def tupIdxE (_ : Store) (x : D) (ds : List D) : Option Slot := match x, ds with
  | .tup es, [d] => if goodL es && goodD d && noLst d && decide (min (dpL es) (dpD d) ≤ 190) && es.any (fun e => eqvD e d) then some (.val (.int ((es.map fun e => eqvD e d).idxOf true : Nat))) else none
  | _, _ => none
theorem eqvs_py (d : D) (hd : goodD d = true) : ∀ es : List D, goodL es = true → (toPyL es).map (fun z => PyData.eqv z (toPy d)) = es.map fun e => eqvD e d
  | [], _ => rfl
  | e :: es, h => by
    simp only [goodL, Bool.and_eq_true] at h
    rw [toPyL, List.map_cons, List.map_cons, eqv_py e d h.1 hd, eqvs_py d hd es h.2]
theorem p_tupIdxE : PrimM K (rIdxE K) tupIdxE := by
  intro w vx x vs ds s Q ok rx r h k
  unfold tupIdxE at h
  split at h
  · rename_i es d
    split at h
    · rename_i hc
      simp only [Bool.and_eq_true, decide_eq_true_eq] at hc
      obtain ⟨⟨⟨⟨h1, h2⟩, h5⟩, h3⟩, h4⟩ := hc
      cases h
      obtain ⟨v, rfl, rv⟩ := r.one
      obtain ⟨p, us, rfl, hp, rl⟩ := tup_at ok rx
      have hv : Rep K w.A w.G v d := by
        rcases rv with rv | ⟨_, _, _, _, e, _⟩
        · exact rv
        · subst e; cases h5
      refine ⟨p, us, v, toPyL es, toPy d, rfl, rfl, hp, RepL.dp ok.sub es us rl h1, Rep.dp ok.sub d v hv h2, layL_py es h1, lay_py d h2, by rw [dpL_py es h1, dp_py d h2]; exact h3, ?_, ?_⟩
      · rw [eqvs_py d h2 es h1]
        obtain ⟨e, m, q⟩ := List.any_eq_true.mp h4
        exact List.mem_map.mpr ⟨e, m, q⟩
      · rw [eqvs_py d h2 es h1]
        exact ans ok k fun A G => .int _
    · cases h
  · cases h
end
end TP
namespace TP
open PySem L2 PyProof.Rows Srt SrtO
def ltL : List Int → List Int → Bool
  | [], [] => false
  | [], _ :: _ => true
  | _ :: _, [] => false
  | a :: r, b :: q => if a = b then ltL r q else decide (a < b)
theorem ltL_cons (a b : Int) (r q : List Int) : ltL (a :: r) (b :: q) = if a = b then ltL r q else decide (a < b) := rfl
theorem ltL_asym : ∀ x y, ltL x y = true → ltL y x = false
  | [], [], _ => rfl
  | [], _ :: _, _ => rfl
  | _ :: _, [], h => by cases h
  | a :: r, b :: q, h => by
    rw [ltL_cons] at h ⊢
    by_cases e : a = b
    · rw [if_pos e] at h
      rw [if_pos e.symm]
      exact ltL_asym r q h
    · rw [if_neg e, decide_eq_true_eq] at h
      rw [if_neg (fun z => e z.symm)]
      exact decide_eq_false (by omega)
theorem ltL_tr : ∀ x y z, ltL y x = false → ltL z y = false → ltL z x = false
  | _, _, [], h1, h2 => by
    rename_i x y
    cases x with
    | nil => rfl
    | cons a r =>
      cases y with
      | nil => cases h1
      | cons b q => cases h2
  | [], _, _ :: _, _, _ => rfl
  | _ :: _, [], _, h1, _ => by cases h1
  | a :: r, b :: q, c :: p, h1, h2 => by
    rw [ltL_cons] at h1 h2 ⊢
    by_cases e1 : b = a
    · rw [if_pos e1] at h1
      by_cases e2 : c = b
      · rw [if_pos e2] at h2
        rw [if_pos (e2.trans e1)]
        exact ltL_tr r q p h1 h2
      · rw [if_neg e2] at h2
        rw [if_neg (fun z => e2 (z.trans e1.symm)), ← e1]
        exact h2
    · rw [if_neg e1] at h1
      have h1 := of_decide_eq_false h1
      by_cases e2 : c = b
      · rw [if_neg (fun z => e1 (e2.symm.trans z)), e2]
        exact decide_eq_false h1
      · rw [if_neg e2] at h2
        have h2 := of_decide_eq_false h2
        rw [if_neg (by omega)]
        exact decide_eq_false (by omega)
theorem ltL_eq : ∀ x y, ltL x y = false → ltL y x = false → x = y
  | [], [], _, _ => rfl
  | [], _ :: _, h, _ => by cases h
  | _ :: _, [], _, h => by cases h
  | a :: r, b :: q, h1, h2 => by
    rw [ltL_cons] at h1 h2
    by_cases e : a = b
    · rw [if_pos e] at h1
      rw [if_pos e.symm] at h2
      rw [e, ltL_eq r q h1 h2]
    · rw [if_neg e] at h1
      rw [if_neg (fun z => e z.symm)] at h2
      have := of_decide_eq_false h1
      have := of_decide_eq_false h2
      exact absurd (by omega) e
theorem swoL {α : Type} (k : α → List Int) : Swo fun v u => ltL (k v) (k u) := ⟨fun _ _ => ltL_asym _ _, fun _ _ _ => ltL_tr _ _ _⟩
def insL (x : List Int) : List (List Int) → List (List Int)
  | [] => [x]
  | y :: ys => if ltL y x = false then x :: y :: ys else y :: insL x ys
def sortL : List (List Int) → List (List Int)
  | [] => []
  | x :: xs => insL x (sortL xs)
theorem insL_perm (x : List Int) : ∀ ys, (insL x ys).Perm (x :: ys)
  | [] => .refl _
  | y :: ys => by
    unfold insL
    split
    · exact .refl _
    · exact (List.Perm.cons y (insL_perm x ys)).trans (.swap x y ys)
theorem sortL_perm : ∀ xs, (sortL xs).Perm xs
  | [] => .refl _
  | x :: xs => (insL_perm x _).trans (List.Perm.cons x (sortL_perm xs))
theorem insL_sorted (x : List Int) : ∀ {ys : List (List Int)}, ys.Pairwise (fun a b => ltL b a = false) → (insL x ys).Pairwise (fun a b => ltL b a = false)
  | [], _ => List.pairwise_singleton _ _
  | y :: ys, h => by
    unfold insL
    rw [List.pairwise_cons] at h
    split
    · rename_i hx
      refine List.pairwise_cons.mpr ⟨fun z hz => ?_, List.pairwise_cons.mpr h⟩
      rcases List.mem_cons.mp hz with rfl | hz
      · exact hx
      · exact ltL_tr _ _ _ hx (h.1 z hz)
    · rename_i hx
      refine List.pairwise_cons.mpr ⟨fun z hz => ?_, insL_sorted x h.2⟩
      rcases List.mem_cons.mp ((insL_perm x ys).mem_iff.mp hz) with rfl | hz
      · exact ltL_asym _ _ (by simpa using hx)
      · exact h.1 z hz
theorem sortL_sorted : ∀ xs : List (List Int), (sortL xs).Pairwise (fun a b => ltL b a = false)
  | [] => .nil
  | x :: xs => insL_sorted x (sortL_sorted xs)
theorem sortedL_unique : ∀ {xs ys : List (List Int)}, xs.Perm ys → xs.Pairwise (fun a b => ltL b a = false) → ys.Pairwise (fun a b => ltL b a = false) → xs = ys
  | [], ys, p, _, _ => (List.nil_perm.mp p).symm
  | x :: xs, [], p, _, _ => by have := p.length_eq; simp at this
  | x :: xs, y :: ys, p, hx, hy => by
    rw [List.pairwise_cons] at hx hy
    have e : x = y := by
      have h1 : x ∈ y :: ys := p.mem_iff.mp List.mem_cons_self
      have h2 : y ∈ x :: xs := p.mem_iff.mpr List.mem_cons_self
      rcases List.mem_cons.mp h1 with h1 | h1
      · exact h1
      · rcases List.mem_cons.mp h2 with h2 | h2
        · exact h2.symm
        · exact ltL_eq _ _ (hy.1 x h1) (hx.1 y h2)
    subst e
    rw [sortedL_unique (List.Perm.cons_inv p) hx.2 hy.2]
theorem sortL_of_perm {xs ys : List (List Int)} (p : xs.Perm ys) : sortL xs = sortL ys := sortedL_unique ((sortL_perm xs).trans (p.trans (sortL_perm ys).symm)) (sortL_sorted xs) (sortL_sorted ys)
def wayV (m f : Str) (r : List Int) : List V := .str m :: .str f :: r.map .int
def IsWay (h : Heap) (v : Value) (m f : Str) (r : List Int) : Prop := ∃ a o us n, v = .ref a ∧ h.get? a = some o ∧ o.cls = .type "tuple" ∧ o.data = .seq (List.toArray us) n ∧ Vals (wayV m f r) us
theorem IsWay.keeps {h h' : Heap} {v : Value} {m f : Str} {r : List Int} (p : IsWay h v m f r) (k : ∀ b o, h.get? b = some o → o.cls = .type "tuple" → h'.get? b = some o) : IsWay h' v m f r := by
  obtain ⟨a, o, us, n, e, ho, hc, hd, hv⟩ := p
  exact ⟨a, o, us, n, e, k _ _ ho hc, hc, hd, hv⟩
section
variable {prog : Program} {w : World} {A : Around} {s : Shared}
theorem lex_way {fin : Bool} {Q : Bool → Shared → Prop} : ∀ (ns ms : List Int) (xs ys : List Value) (i : Nat), Vals (ns.map V.int) xs → Vals (ms.map V.int) ys → fin = decide (ns.length < ms.length) → Q (ltL ns ms) s → PySem.W.KatLex prog w A true fin Q (xs.zip ys) (i + 1) s
  | [], [], _, _, _, hx, hy, hf, h => by
    cases hx; cases hy
    rw [hf]
    exact PySem.W.kat_nil h
  | [], m :: ms, _, _, _, hx, hy, hf, h => by
    cases hx
    cases hy with
    | cons r t =>
      rw [hf]
      exact PySem.W.kat_nil (by
        have e : decide (([] : List Int).length < (m :: ms).length) = true := decide_eq_true (by simp)
        rw [e]; exact h)
  | n :: ns, [], _, _, _, hx, hy, hf, h => by
    cases hy
    cases hx with
    | cons r t =>
      rw [hf]
      exact PySem.W.kat_nil (by
        have e : decide ((n :: ns).length < ([] : List Int).length) = false := decide_eq_false (by simp)
        rw [e]; exact h)
  | n :: ns, m :: ms, _, _, i, hx, hy, hf, h => by
    cases hx with
    | @cons _ u _ xs r t =>
      cases hy with
      | @cons _ u2 _ ys r2 t2 =>
        obtain ⟨t1, rfl⟩ := r
        obtain ⟨t3, rfl⟩ := r2
        have hf' : fin = decide (ns.length < ms.length) := by
          rw [hf, List.length_cons, List.length_cons]
          exact decide_eq_decide.mpr (by omega)
        rw [ltL_cons] at h
        refine PySem.W.kat_cons (SeqAt.EqAt.int_int n t1 m t3 prog w _ _ ?_)
        refine PySem.W.kat_go (fun e1 => ?_) (fun e1 => ?_)
        · have ex : n = m := by simpa using e1
          rw [if_pos ex] at h
          exact PySem.W.kat_yes (lex_way ns ms xs ys (i + 1) t t2 hf' h)
        · have ex : ¬ n = m := by simpa using e1
          rw [if_neg ex] at h
          exact PySem.W.kat_no (PySem.W.kat_one _ _ (PyProof.Rows.lt_int (Q := PySem.W.BoolBack Q) h))
theorem way_cmp {vs : List Value} {m f : Str} {k : Value → List Int} (hp : ∀ v ∈ vs, IsWay s.heap v m f (k v)) : SrtO.Cmp prog w A s (tuples' true) (fun p => p.1 ∈ vs) (lt2 fun v u => ltL (k v) (k u)) := by
  intro p q hm hm'
  have h1 := hp _ hm
  have h2 := hp _ hm'
  show wpAny (model prog w) A (keyLt' (tuples' true) p.1 q.1) (fun r s' => s' = s ∧ r = ltL (k p.1) (k q.1)) (fun _ _ => False) s
  generalize k p.1 = x at h1 ⊢
  generalize k q.1 = y at h2 ⊢
  obtain ⟨a, o, us, n, e, ho, hc, hd, hv⟩ := h1
  obtain ⟨a', o', us', n', e', ho', hc', hd', hv'⟩ := h2
  rw [e, e']
  refine PySem.W.kat_lt ho hd ho' hd' ?_
  unfold wayV at hv hv'
  cases hv with
  | @cons _ u1 _ r1 q1 t1 =>
    cases t1 with
    | @cons _ u2 _ r2 q2 t2 =>
      cases hv' with
      | @cons _ u1' _ r1' q1' t1' =>
        cases t1' with
        | @cons _ u2' _ r2' q2' t2' =>
          obtain ⟨k1, rfl⟩ := q1
          obtain ⟨k2, rfl⟩ := q2
          obtain ⟨k1', rfl⟩ := q1'
          obtain ⟨k2', rfl⟩ := q2'
          have l1 : r2.length = x.length := by rw [← t2.length, List.length_map]
          have l2 : r2'.length = y.length := by rw [← t2'.length, List.length_map]
          show PySem.W.KatLex prog w A true (decide (r2.length + 1 + 1 < r2'.length + 1 + 1)) _ ((Value.str m k1, Value.str m k1') :: (Value.str f k2, Value.str f k2') :: r2.zip r2') 0 s
          refine PySem.W.kat_cons (SeqAt.EqAt.str_str m k1 m k1' prog w _ _ ?_)
          rw [beq_self_eq_true]
          refine PySem.W.kat_yes (PySem.W.kat_cons (SeqAt.EqAt.str_str f k2 f k2' prog w _ _ ?_))
          rw [beq_self_eq_true]
          refine PySem.W.kat_yes (lex_way x y r2 r2' 1 t2 t2' ?_ ⟨rfl, rfl⟩)
          rw [l1, l2]
          exact decide_eq_decide.mpr (by omega)
theorem way_firsts {h : Heap} {m f : Str} : ∀ {vs : List Value} {k : Value → List Int}, (∀ v ∈ vs, IsWay h v m f (k v)) → ∃ fs : List Value, PySem.W.KatTups h vs fs ∧ fs.length = vs.length ∧ ∀ x ∈ fs, ∃ t, x = Value.str m t
  | [], _, _ => ⟨[], PySem.W.KatTups.nil, rfl, fun _ hm => by simp at hm⟩
  | v :: vs, k, hp => by
    obtain ⟨fs, h1, h2, h3⟩ := way_firsts (vs := vs) fun v' hm => hp v' (List.mem_cons_of_mem _ hm)
    obtain ⟨a, o, us, n, e, ho, hc, hd, hv⟩ := hp v List.mem_cons_self
    subst e
    unfold wayV at hv
    cases hv with
    | @cons _ u1 _ r1 q1 t1 =>
      obtain ⟨k1, rfl⟩ := q1
      refine ⟨.str m k1 :: fs, PySem.W.KatTups.cons ho hc hd rfl h1, by rw [List.length_cons, List.length_cons, h2], fun x hm => ?_⟩
      rcases List.mem_cons.mp hm with rfl | hm
      · exact ⟨k1, rfl⟩
      · exact h3 x hm
theorem ways_sortable {a : Addr} {vs : List Value} {m f : Str} {k : Value → List Int} (h0 : 0 < vs.length) (hp : ∀ v ∈ vs, IsWay s.heap v m f (k v)) (ha : ∀ o, s.heap.get? a = some o → o.cls ≠ .type "tuple") : SortableO prog w A s a vs fun v u => ltL (k v) (k u) := by
  intro h' keep
  have hp' : ∀ v ∈ vs, IsWay h' v m f (k v) := fun v hm => (hp v hm).keeps fun b o e c => keep b o (fun z => by subst z; exact ha o e c) e
  obtain ⟨fs, h1, h2, h3⟩ := way_firsts hp'
  refine ⟨tuples' true, fun Q E hq => ?_, way_cmp hp'⟩
  refine PySem.W.kat_kind (T := .type "str") h1 (by omega) (fun x hm => ?_) (by rfl) ?_
  · obtain ⟨t, rfl⟩ := h3 x hm
    exact PySem.W.Looks.now
  · have e : (Value.type "str" != Value.type "tuple") = true := by first | decide +kernel | rfl | decide
    rw [e]
    exact hq
theorem sorted_ways {l : Addr} {vs : List Value} {m f : Str} {k : Value → List Int} {E : Value → Shared → Prop} {Q : Value → Shared → Prop} (hl : s.heap.IsList l vs.toArray) (hz : vs.length ≤ sizeLine) (hp : ∀ v ∈ vs, IsWay s.heap v m f (k v))
    (h : ∀ (h' : Heap) (d : Addr) (out : List Value), Srtd (fun v u => ltL (k v) (k u)) out → Stb (fun v u => ltL (k v) (k u)) out vs → (∀ b o, s.heap.get? b = some o → h'.get? b = some o) → s.heap.objs.size ≤ d → (∃ n, h'.get? d = some (seqObj "list" out.toArray n)) → Q (.ref d) { s with heap := h' }) :
    wpAny (model prog w) A (call (.builtin "sorted") [.ref l]) Q E s := by
  refine sorted_ord (swoL k) hl hz (fun h2 h₁ a ha kk => ?_) fun out hs hb => ?_
  · refine ways_sortable (s := { s with heap := h₁ }) (by omega) (fun v hm => (hp v hm).keeps fun b o e _ => (kk b o e).2) fun o e => ?_
    have e' : some o = some (seqObj "list" vs.toArray 0) := e.symm.trans ha
    cases e'
    intro c
    exact absurd (Value.type.inj c) (by decide)
  · exact h _ _ out hs hb (fun b o e => sortedAll_old e) (Nat.le_succ _) (sortedAll_at s.heap vs out.toArray)
end
section
variable {X : Cx}
def rSortedW (K : PySem.W.Frag) : List V → Hp → VK → Prop := fun vs H Q => ∃ (a : Addr) (xs : List V) (m f : Str) (k : V → List Int), vs = [V.ref a] ∧ SqL K H a xs ∧ (∀ x ∈ xs, ∃ t o, x = V.ref t ∧ H t = some (.frz o (.tup (wayV m f (k x))))) ∧
  ∀ ys p, ys.Perm xs → (ys.map k).Pairwise (fun a b => ltL b a = false) → H p = none → Q (.ref p) (upd H p (.lst ys))
theorem cr_sortedW : CallR X (.builtin "sorted") (rSortedW X.K) := by
  intro pins s σ H vs us Q I r h
  obtain ⟨a, xs, m, f, kv, rfl, hs, hx, q⟩ := h
  obtain ⟨its, rv, hl, hz⟩ := I.list hs
  obtain ⟨u, rfl, ru⟩ := vals1 r
  obtain rfl : u = Value.ref a := ru
  obtain ⟨e1, e2⟩ := refs_back rv fun x m => by
    obtain ⟨t, o, e, _⟩ := hx x m
    exact ⟨t, e⟩
  refine sorted_ways (m := m) (f := f) (k := fun v => kv (backV v)) hl.isList (by rw [← rv.length]; exact hz) (fun v hv => ?_) fun h' d out hsr hp k hd hn => ?_
  · obtain ⟨t, rfl⟩ := e2 v hv
    have hm : V.ref t ∈ xs := by rw [e1]; exact List.mem_map.mpr ⟨_, hv, rfl⟩
    obtain ⟨t', ob, e, ht⟩ := hx _ hm
    cases e
    obtain ⟨_, _, its2, r2, o, ho, hc, n, hd⟩ := (show ObjOk X.prog X.w H s.heap t (.frz ob (.tup (wayV m f (kv (.ref t))))) from I.hok t _ ht)
    exact ⟨t, o, its2, n, rfl, ho, hc, hd, r2⟩
  · have h3 : ∀ u ∈ out, ∃ a, u = Value.ref a := fun u hu => e2 u (hp.perm.mem_iff.mp hu)
    obtain ⟨n, hn⟩ := hn
    refine ⟨.ref d, upd H d (.lst (out.map backV)), I.laid (t' := s.toks) k hd ⟨?_, out, n, vals_back h3, hn⟩, rfl, q _ d ?_ ?_ (I.hok.fresh hd)⟩
    · rw [List.length_map, hp.perm.length_eq, ← rv.length]; exact hz
    · rw [e1]; exact hp.perm.map backV
    · rw [List.map_map]
      exact List.pairwise_map.mpr hsr
end
def intsOfD : List D → Option (List Int)
  | [] => some []
  | .int i :: ds => (intsOfD ds).map (i :: ·)
  | _ => none
def rowsOfD (m f : Str) : List D → Option (List (List Int))
  | [] => some []
  | .tup (.str m' :: .str f' :: r) :: ds => if m' = m ∧ f' = f then match intsOfD r, rowsOfD m f ds with
    | some ns, some rs => some (ns :: rs)
    | _, _ => none else none
  | _ => none
def headOfD : List D → Str × Str
  | .tup (.str m :: .str f :: _) :: _ => (m, f)
  | _ => ("", "")
def wayDD (m f : Str) (r : List Int) : D := .tup (.str m :: .str f :: r.map .int)
def sortWD (M : Store) (ds : List D) : Option Slot := match ds with
  | [x] => match seqOf M x with
    | some es => match rowsOfD (headOfD es).1 (headOfD es).2 es with
      | some rows => some (.own ((sortL rows).map (wayDD (headOfD es).1 (headOfD es).2)))
      | none => none
    | none => none
  | _ => none
theorem intsOfD_map : ∀ r : List Int, intsOfD (r.map .int) = some r
  | [] => rfl
  | i :: r => by
    show (intsOfD (r.map .int)).map (i :: ·) = _
    rw [intsOfD_map r]; rfl
theorem rowsOfD_map (m f : Str) : ∀ rs : List (List Int), rowsOfD m f (rs.map (wayDD m f)) = some rs
  | [] => rfl
  | r :: rs => by
    show (if m = m ∧ f = f then match intsOfD (r.map .int), rowsOfD m f (rs.map (wayDD m f)) with
    | some ns, some rs => some (ns :: rs)
    | _, _ => none else none) = _
    rw [if_pos ⟨rfl, rfl⟩, intsOfD_map, rowsOfD_map m f rs]
theorem sortWD_lst (M : Store) (m f : Str) (rs : List (List Int)) : sortWD M [.lst (rs.map (wayDD m f))] = some (.own ((sortL rs).map (wayDD m f))) := by
  have hs : seqOf M (.lst (rs.map (wayDD m f))) = some (rs.map (wayDD m f)) := rfl
  unfold sortWD
  simp only [hs]
  cases rs with
  | nil => rfl
  | cons r rs =>
    have e : headOfD ((r :: rs).map (wayDD m f)) = (m, f) := rfl
    rw [e]
    simp only
    rw [rowsOfD_map]
theorem intsOfD_eq : ∀ {ds : List D} {ns : List Int}, intsOfD ds = some ns → ds = ns.map .int
  | [], _, h => by cases h; rfl
  | d :: ds, ns, h => by
    cases d with
    | int i =>
      have h' : (intsOfD ds).map (i :: ·) = some ns := h
      cases hq : intsOfD ds with
      | none => rw [hq] at h'; cases h'
      | some ms =>
        rw [hq] at h'
        cases h'
        rw [List.map_cons, intsOfD_eq hq]
    | _ => cases h
theorem rowsOfD_eq {m f : Str} : ∀ {ds : List D} {rs : List (List Int)}, rowsOfD m f ds = some rs → ds = rs.map (wayDD m f)
  | [], _, h => by cases h; rfl
  | d :: ds, rs, h => by
    unfold rowsOfD at h
    split at h
    · rename_i he; cases he
    · rename_i he
      cases he
      split at h
      · rename_i hc
        obtain ⟨rfl, rfl⟩ := hc
        split at h
        · rename_i h1 h2
          cases h
          rw [List.map_cons, ← rowsOfD_eq h2, intsOfD_eq h1]
          rfl
        · cases h
      · cases h
    · cases h
section
variable {K : PySem.W.Frag}
def keyV (G : Hp) (v : V) : List Int := match v with
  | .ref t => match G t with
    | some (.frz _ (.tup (_ :: _ :: vs))) => vs.filterMap fun x => match x with
      | .int i => some i
      | _ => none
    | _ => []
  | _ => []
theorem keyV_way {G : Hp} {t : Addr} {o : Obj} {m f : Str} {r : List Int} (h : G t = some (.frz o (.tup (wayV m f r)))) : keyV G (.ref t) = r := by
  have e : ∀ r : List Int, (r.map V.int).filterMap (fun x => match x with
      | .int i => some i
      | _ => none) = r := fun r => by
    induction r with
    | nil => rfl
    | cons i r ih =>
      rw [List.map_cons, List.filterMap_cons]
      simp only
      rw [ih]
  unfold keyV
  simp only [h, wayV]
  exact e r
theorem rep_int {A : List Addr} {G : Hp} : ∀ {vs : List V} {ns : List Int}, RepL K A G vs (ns.map D.int) → vs = ns.map V.int
  | [], [], _ => rfl
  | v :: vs, n :: ns, .cons r t => by
    cases r
    rw [List.map_cons, rep_int t]
theorem repL_int {A : List Addr} {G : Hp} : ∀ ns : List Int, RepL K A G (ns.map V.int) (ns.map D.int)
  | [] => .nil
  | n :: ns => .cons (.int n) (repL_int ns)
def WayT (G : Hp) (t : Addr) (vs : List V) : Prop := ∃ o : Obj, o.dict = none ∧ o.cls = .type "tuple" ∧ G t = some (.frz o (.tup vs))
theorem rep_way {A : List Addr} {G : Hp} {v : V} {m f : Str} {r : List Int} (h : Rep K A G v (wayDD m f r)) : ∃ t, v = .ref t ∧ WayT G t (wayV m f r) := by
  unfold wayDD at h
  cases h with
  | @tup a vs _ hG hr =>
    have hG := hG.known rfl
    refine ⟨a, rfl, ?_⟩
    cases hr with
    | cons q1 t1 =>
      cases t1 with
      | cons q2 t2 =>
        cases q1
        cases q2
        rw [rep_int t2] at hG
        exact hG
theorem way_rep {A : List Addr} {G : Hp} {t : Addr} {m f : Str} {r : List Int} (h : WayT G t (wayV m f r)) : Rep K A G (.ref t) (wayDD m f r) := .tup (.inr ⟨rfl, h⟩) (.cons (.str m) (.cons (.str f) (repL_int r)))
theorem rep_ways {A : List Addr} {G : Hp} {m f : Str} : ∀ {vs : List V} {rs : List (List Int)}, RepL K A G vs (rs.map (wayDD m f)) → (∀ v ∈ vs, ∃ t, v = .ref t ∧ WayT G t (wayV m f (keyV G v))) ∧ vs.map (keyV G) = rs
  | [], [], _ => ⟨fun v hv => absurd hv List.not_mem_nil, rfl⟩
  | v :: vs, r :: rs, .cons q t => by
    obtain ⟨h1, h2⟩ := rep_ways t
    obtain ⟨a, rfl, o, ho1, ho2, ha⟩ := rep_way q
    have hk := keyV_way ha
    refine ⟨fun x hx => ?_, by rw [List.map_cons, hk, h2]⟩
    rcases List.mem_cons.mp hx with rfl | hx
    · exact ⟨a, rfl, o, ho1, ho2, by rw [hk]; exact ha⟩
    · exact h1 x hx
theorem ways_rep {A : List Addr} {G : Hp} {m f : Str} : ∀ {vs : List V}, (∀ v ∈ vs, ∃ t, v = .ref t ∧ WayT G t (wayV m f (keyV G v))) → RepL K A G vs ((vs.map (keyV G)).map (wayDD m f))
  | [], _ => .nil
  | v :: vs, h => by
    obtain ⟨t, e, ht⟩ := h v List.mem_cons_self
    refine .cons ?_ (ways_rep fun x hx => h x (List.mem_cons_of_mem _ hx))
    have := way_rep (K := K) (A := A) ht
    rw [← e] at this
    exact this
theorem p_sortW : PrimN K (rSortedW K) sortWD := by
  intro w vs ds s Q ok rl h k
  unfold sortWD at h
  split at h
  · rename_i x
    split at h
    · rename_i es e1
      split at h
      · rename_i rows e2
        cases h
        obtain ⟨v, rfl, rv⟩ := rl.one
        obtain ⟨p, us, rfl, hs, r⟩ := seq_at ok rv e1
        obtain ⟨m, hm⟩ : ∃ m, (headOfD es).1 = m := ⟨_, rfl⟩
        obtain ⟨f, hf⟩ : ∃ f, (headOfD es).2 = f := ⟨_, rfl⟩
        rw [hm, hf] at e2 k
        rw [rowsOfD_eq e2] at r
        obtain ⟨h1, h2⟩ := rep_ways r
        refine ⟨p, us, m, f, keyV w.G, rfl, hs, fun x hx => ?_, fun ys q hp hsort hq => ?_⟩
        · obtain ⟨t, e, o, _, _, ht⟩ := h1 x hx
          exact ⟨t, o, e, ok.sub _ _ ht⟩
        · have e3 : ys.map (keyV w.G) = sortL rows := sortedL_unique ((hp.map _).trans (by rw [h2]; exact (sortL_perm rows).symm)) hsort (sortL_sorted rows)
          have r2 := ways_rep (K := K) (A := w.A) (m := m) (f := f) (G := w.G) (vs := ys) fun x hx => h1 x (hp.mem_iff.mp hx)
          rw [e3] at r2
          exact k _ _ (ok.fresh0 hq _) rfl (own_new (Step.refl ok) hq r2)
      · cases h
    · cases h
  · cases h
end
end TP
set_option maxHeartbeats 4000000
namespace K06
open PySem L2 TP
def topS (i : Nat) : Stmt := PySem.Challenge.pw_turnpaper_k06_whole_binders.main.body.getD i (.Pass ⟨0, 0, 0, 0⟩)
def k_SPOTS : List (Str × D) := [("num", (.kt [])), ("use", (.kt [])), ("op", (.kt [(.int (2)), (.int (3))])), ("let", (.kt [(.int (2)), (.int (3))])), ("if", (.kt [(.int (1)), (.int (2)), (.int (3))])), ("times", (.kt [(.int (1)), (.int (4)), (.int (5))])), ("tell", (.kt [(.int (1)), (.int (2))])), ("stop", (.kt [(.int (1))]))]
theorem sc_mk {N P : List Str} {sc : Scope} (h : sc.kind = .function ∧ sc.isCoroutine = false ∧ sc.isGenerator = false ∧ N.take P.length = P) (g : N.Nodup ∧ (∀ x ∈ P, sc.names.lookup x = some .local ∨ sc.names.lookup x = some .cell) ∧ ∀ y ∈ sc.names, y.2 ≠ .free) : FnScope N P sc := ⟨h.1, h.2.1, h.2.2.1, g.1, h.2.2.2, g.2.1, g.2.2⟩
abbrev f_parts : Nat := 0
abbrev s_parts : Stmt := topS 2
theorem sc_parts : FnScope ["expression", "spot"] ["expression"] (defScope s_parts) := sc_mk ⟨rfl, rfl, rfl, rfl⟩ (by decide +kernel)
abbrev f_functions : Nat := 1
abbrev s_functions : Stmt := topS 3
theorem sc_functions : FnScope ["program", "found", "m", "rows", "row"] ["program"] (defScope s_functions) := sc_mk ⟨rfl, rfl, rfl, rfl⟩ (by decide +kernel)
abbrev f_function : Nat := 2
abbrev s_function : Stmt := topS 4
theorem sc_function : FnScope ["program", "m", "f", "row"] ["program", "m", "f"] (defScope s_function) := sc_mk ⟨rfl, rfl, rfl, rfl⟩ (by decide +kernel)
abbrev f_is_spot : Nat := 3
abbrev s_is_spot : Stmt := topS 6
theorem sc_is_spot : FnScope ["thing", "many"] ["thing", "many"] (defScope s_is_spot) := sc_mk ⟨rfl, rfl, rfl, rfl⟩ (by decide +kernel)
abbrev f_part_at : Nat := 4
abbrev s_part_at : Stmt := topS 7
theorem sc_part_at : FnScope ["expression", "row", "spot", "inside"] ["expression", "row"] (defScope s_part_at) := sc_mk ⟨rfl, rfl, rfl, rfl⟩ (by decide +kernel)
abbrev f_at_way : Nat := 5
abbrev s_at_way : Stmt := topS 8
theorem sc_at_way : FnScope ["program", "way", "found", "name"] ["program", "way"] (defScope s_at_way) := sc_mk ⟨rfl, rfl, rfl, rfl⟩ (by decide +kernel)
abbrev f_more_round : Nat := 6
abbrev s_more_round : Stmt := topS 9
theorem sc_more_round : FnScope ["expression", "way", "around", "spot", "found"] ["expression", "way", "around", "spot"] (defScope s_more_round) := sc_mk ⟨rfl, rfl, rfl, rfl⟩ (by decide +kernel)
abbrev f_uses_in : Nat := 7
abbrev s_uses_in : Stmt := topS 10
theorem sc_uses_in : FnScope ["expression", "way", "around", "found", "spot", "part"] ["expression", "way", "around"] (defScope s_uses_in) := sc_mk ⟨rfl, rfl, rfl, rfl⟩ (by decide +kernel)
abbrev f_params_round : Nat := 8
abbrev s_params_round : Stmt := topS 11
theorem sc_params_round : FnScope ["m", "f", "params", "place", "name"] ["m", "f", "params"] (defScope s_params_round) := sc_mk ⟨rfl, rfl, rfl, rfl⟩ (by decide +kernel)
abbrev f_round_way : Nat := 9
abbrev s_round_way : Stmt := topS 12
theorem sc_round_way : FnScope ["program", "way", "around", "here", "spot", "m", "f", "params", "expression"] ["program", "way"] (defScope s_round_way) := sc_mk ⟨rfl, rfl, rfl, rfl⟩ (by decide +kernel)
abbrev f_all_uses : Nat := 10
abbrev s_all_uses : Stmt := topS 13
theorem sc_all_uses : FnScope ["program", "m", "f", "params", "body"] ["program", "m", "f"] (defScope s_all_uses) := sc_mk ⟨rfl, rfl, rfl, rfl⟩ (by decide +kernel)
abbrev f_binder_of : Nat := 11
abbrev s_binder_of : Stmt := topS 14
theorem sc_binder_of : FnScope ["program", "way"] ["program", "way"] (defScope s_binder_of) := sc_mk ⟨rfl, rfl, rfl, rfl⟩ (by decide +kernel)
abbrev f_home_of : Nat := 12
abbrev s_home_of : Stmt := topS 15
theorem sc_home_of : FnScope ["program", "thing", "found"] ["program", "thing"] (defScope s_home_of) := sc_mk ⟨rfl, rfl, rfl, rfl⟩ (by decide +kernel)
abbrev f_uses_of : Nat := 13
abbrev s_uses_of : Stmt := topS 16
theorem sc_uses_of : FnScope ["program", "binder", "home", "way", "one"] ["program", "binder"] (defScope s_uses_of) := sc_mk ⟨rfl, rfl, rfl, rfl⟩ (by decide +kernel)
abbrev f_name_of : Nat := 14
abbrev s_name_of : Stmt := topS 17
theorem sc_name_of : FnScope ["program", "binder", "expression"] ["program", "binder"] (defScope s_name_of) := sc_mk ⟨rfl, rfl, rfl, rfl⟩ (by decide +kernel)
abbrev f__law_cell : Nat := 15
abbrev s__law_cell : Stmt := topS 19
theorem sc__law_cell : FnScope ["_law_cells", "_law_spot", "_law_k", "_law_base", "_law_own", "_law_turn"] ["_law_cells", "_law_spot"] (defScope s__law_cell) := sc_mk ⟨rfl, rfl, rfl, rfl⟩ (by decide +kernel)
abbrev f__law_names : Nat := 16
abbrev s__law_names : Stmt := topS 20
theorem sc__law_names : FnScope ["_law_n", "_law_letters", "_law_some", "_law_k", "_law_sign"] ["_law_n"] (defScope s__law_names) := sc_mk ⟨rfl, rfl, rfl, rfl⟩ (by decide +kernel)
abbrev f__law_number : Nat := 17
abbrev s__law_number : Stmt := topS 21
theorem sc__law_number : FnScope ["_law_n"] ["_law_n"] (defScope s__law_number) := sc_mk ⟨rfl, rfl, rfl, rfl⟩ (by decide +kernel)
abbrev f__law_leaf : Nat := 18
abbrev s__law_leaf : Stmt := topS 22
theorem sc__law_leaf : FnScope ["_law_at_here", "_law_scope", "_law_n"] ["_law_at_here", "_law_scope", "_law_n"] (defScope s__law_leaf) := sc_mk ⟨rfl, rfl, rfl, rfl⟩ (by decide +kernel)
abbrev f__law_op : Nat := 19
abbrev s__law_op : Stmt := topS 23
theorem sc__law_op : FnScope ["_law_cells", "_law_spot", "_law_at_here", "_law_scope", "_law_deep", "_law_n", "_law_sign", "_law_one"] ["_law_cells", "_law_spot", "_law_at_here", "_law_scope", "_law_deep", "_law_n"] (defScope s__law_op) := sc_mk ⟨rfl, rfl, rfl, rfl⟩ (by decide +kernel)
abbrev f__law_times : Nat := 20
abbrev s__law_times : Stmt := topS 24
theorem sc__law_times : FnScope ["_law_cells", "_law_spot", "_law_at_here", "_law_scope", "_law_deep", "_law_n", "_law_names_here", "_law_second", "_law_many", "_law_one", "_law_inner", "_law_other", "_law_first", "_law_behind", "_law_name"] ["_law_cells", "_law_spot", "_law_at_here", "_law_scope", "_law_deep", "_law_n"] (defScope s__law_times) := sc_mk ⟨rfl, rfl, rfl, rfl⟩ (by decide +kernel)
abbrev f__law_call : Nat := 21
abbrev s__law_call : Stmt := topS 25
theorem sc__law_call : FnScope ["_law_cells", "_law_spot", "_law_at_here", "_law_scope", "_law_deep", "_law_n", "_law_some", "_law_m", "_law_f", "_law_many", "_law_calm", "_law_row", "_law_k"] ["_law_cells", "_law_spot", "_law_at_here", "_law_scope", "_law_deep", "_law_n"] (defScope s__law_call) := sc_mk ⟨rfl, rfl, rfl, rfl⟩ (by decide +kernel)
abbrev f__law_expression : Nat := 22
abbrev s__law_expression : Stmt := topS 26
theorem sc__law_expression : FnScope ["_law_cells", "_law_spot", "_law_at_here", "_law_scope", "_law_deep", "_law_n", "_law_way", "_law_more", "_law_name", "_law_one", "_law_inner", "_law_other", "_law_k"] ["_law_cells", "_law_spot", "_law_at_here", "_law_scope", "_law_deep"] (defScope s__law_expression) := sc_mk ⟨rfl, rfl, rfl, rfl⟩ (by decide +kernel)
abbrev f__law_program : Nat := 23
abbrev s__law_program : Stmt := topS 27
theorem sc__law_program : FnScope ["_law_cells", "_law_spot", "_law_most", "_law_n", "_law_ahead", "_law_modules", "_law_k", "_law_names_here", "_law_rooms", "_law_room", "_law_j", "_law_more", "_law_params", "_law_at_here", "_law_body", "_law_name", "_law_i"] ["_law_cells", "_law_spot", "_law_most"] (defScope s__law_program) := sc_mk ⟨rfl, rfl, rfl, rfl⟩ (by decide +kernel)
abbrev f__law_spots : Nat := 24
abbrev s__law_spots : Stmt := topS 28
theorem sc__law_spots : FnScope ["_law_e", "_law_some"] ["_law_e"] (defScope s__law_spots) := sc_mk ⟨rfl, rfl, rfl, rfl⟩ (by decide +kernel)
abbrev f__law_parts : Nat := 25
abbrev s__law_parts : Stmt := topS 29
theorem sc__law_parts : FnScope ["_law_e", "_law_spot"] ["_law_e"] (defScope s__law_parts) := sc_mk ⟨rfl, rfl, rfl, rfl⟩ (by decide +kernel)
abbrev f__law_rows : Nat := 26
abbrev s__law_rows : Stmt := topS 30
theorem sc__law_rows : FnScope ["_law_e", "_law_found_here", "_law_k", "_law_part", "_law_row"] ["_law_e"] (defScope s__law_rows) := sc_mk ⟨rfl, rfl, rfl, rfl⟩ (by decide +kernel)
abbrev f__law_found : Nat := 27
abbrev s__law_found : Stmt := topS 31
theorem sc__law_found : FnScope ["_law_program_here", "_law_m", "_law_f", "_law_name", "_law_room", "_law_one"] ["_law_program_here", "_law_m", "_law_f"] (defScope s__law_found) := sc_mk ⟨rfl, rfl, rfl, rfl⟩ (by decide +kernel)
abbrev f__law_at : Nat := 28
abbrev s__law_at : Stmt := topS 32
theorem sc__law_at : FnScope ["_law_body", "_law_row", "_law_k"] ["_law_body", "_law_row"] (defScope s__law_at) := sc_mk ⟨rfl, rfl, rfl, rfl⟩ (by decide +kernel)
abbrev f__law_nearest : Nat := 29
abbrev s__law_nearest : Stmt := topS 33
theorem sc__law_nearest : FnScope ["_law_way", "_law_params", "_law_body", "_law_row", "_law_name", "_law_e", "_law_k"] ["_law_way", "_law_params", "_law_body"] (defScope s__law_nearest) := sc_mk ⟨rfl, rfl, rfl, rfl⟩ (by decide +kernel)
abbrev f__law_all : Nat := 30
abbrev s__law_all : Stmt := topS 34
theorem sc__law_all : FnScope ["_law_m", "_law_f", "_law_params", "_law_body", "_law_found_here", "_law_row", "_law_e", "_law_k", "_law_name"] ["_law_m", "_law_f", "_law_params", "_law_body"] (defScope s__law_all) := sc_mk ⟨rfl, rfl, rfl, rfl⟩ (by decide +kernel)
abbrev f__law_right : Nat := 31
abbrev s__law_right : Stmt := topS 35
theorem sc__law_right : FnScope ["_law_program_here", "_law_m", "_law_f", "_law_ways", "_law_due", "_law_seen", "_law_name", "_law_params", "_law_body", "_law_binder", "_law_called", "_law_some", "_law_again", "_law_row", "_law_way", "_law_told", "_law_one"] ["_law_program_here", "_law_m", "_law_f"] (defScope s__law_right) := sc_mk ⟨rfl, rfl, rfl, rfl⟩ (by decide +kernel)
abbrev f_law : Nat := 32
abbrev s_law : Stmt := topS 36
theorem sc_law : FnScope ["_law_script", "_law_turn", "_law_cells", "_law_spot", "_law_program_here", "_law_m", "_law_rows_here", "_law_row"] ["_law_script"] (defScope s_law) := sc_mk ⟨rfl, rfl, rfl, rfl⟩ (by decide +kernel)
def el_parts_0 (Φ : Nat → Fn) : FD := (dEF (dOp2 idxD (dVarB 0) (dVarB 1)))
theorem el_parts_0_eq (Φ : Nat → Fn) (ρ : EnvD) (M : Store) : el_parts_0 Φ ρ M = (dEF (dOp2 idxD (dVarB 0) (dVarB 1))) ρ M := rfl
def m_parts (Φ : Nat → Fn) : FS := (sSeq (sIf (dBo (dOp2 eqD (dEF (dOp2 idxD (dVarB 0) (dC (.int 0)))) (dC (.str "call")))) (sSeq (sRet (dPr listD (dCons (dEF (dOp2 idxD (dVarB 0) (dC (.int 3)))) dNil))) sNil) sNil) (sSeq (sRet (dLc (dIt (dTab k_SPOTS (dEF (dOp2 idxD (dVarB 0) (dC (.int 0)))))) (bName 1) dYes (el_parts_0 Φ) [1])) sNil))
def el_functions_0 (Φ : Nat → Fn) : FD := (dEF (dOp2 addD (dTup (dCons (dVar 2) dNil)) (dVarB 4)))
theorem el_functions_0_eq (Φ : Nat → Fn) (ρ : EnvD) (M : Store) : el_functions_0 Φ ρ M = (dEF (dOp2 addD (dTup (dCons (dVar 2) dNil)) (dVarB 4))) ρ M := rfl
def lp_functions_0 (Φ : Nat → Fn) : FS := (sSeq (sExt 1 (dEF (dLc (dIt (dVar 3)) (bName 4) dYes (el_functions_0 Φ) [4]))) sNil)
theorem lp_functions_0_eq (Φ : Nat → Fn) (ρ : EnvD) (M : Store) : lp_functions_0 Φ ρ M = (sSeq (sExt 1 (dEF (dLc (dIt (dVar 3)) (bName 4) dYes (el_functions_0 Φ) [4]))) sNil) ρ M := rfl
def m_functions (Φ : Nat → Fn) : FS := (sSeq (sSet 1 (dLst dNil)) (sSeq (sFor (dIt (dVar 0)) (bTup [2, 3]) (lp_functions_0 Φ)) (sSeq (sRetV 1) sNil)))
def lp_function_0 (Φ : Nat → Fn) : FS := (sSeq (sIf (dAnd (dBo (dOp2 eqD (dEF (dOp2 idxD (dVarB 3) (dC (.int 0)))) (dVarB 1))) (dBo (dOp2 eqD (dEF (dOp2 idxD (dVarB 3) (dC (.int 1)))) (dVarB 2)))) (sSeq (sRet (dSl slD (dVarB 3) (dSo (dC (.int 2))) dNo)) sNil) sNil) sNil)
theorem lp_function_0_eq (Φ : Nat → Fn) (ρ : EnvD) (M : Store) : lp_function_0 Φ ρ M = (sSeq (sIf (dAnd (dBo (dOp2 eqD (dEF (dOp2 idxD (dVarB 3) (dC (.int 0)))) (dVarB 1))) (dBo (dOp2 eqD (dEF (dOp2 idxD (dVarB 3) (dC (.int 1)))) (dVarB 2)))) (sSeq (sRet (dSl slD (dVarB 3) (dSo (dC (.int 2))) dNo)) sNil) sNil) sNil) ρ M := rfl
def m_function (Φ : Nat → Fn) : FS := (sSeq (sFor (dIt (dEF (dCall 1 (Φ f_functions) (dCons (dVar 0) dNil)))) (bName 3) (lp_function_0 Φ)) (sSeq (sRet (dFE (dC .non))) sNil))
def m_is_spot (Φ : Nat → Fn) : FS := (sSeq (sRet (dAndV (dOp1 (isiD "int") (dVarB 0)) (dAndV (dNotV (dOp1 (isiD "bool") (dVarB 0))) (dChain (cmpD fun i j => decide (i ≤ j)) (cmpD fun i j => decide (i < j)) (dC (.int 0)) (dVarB 0) (dVarB 1))))) sNil)
def lp_part_at_0 (Φ : Nat → Fn) : FS := (sSeq (sSet 3 (dFE (dEF (dCall 1 (Φ f_parts) (dCons (dVar 0) dNil))))) (sSeq (sIf (dNot (dTru (dEF (dCall 2 (Φ f_is_spot) (dCons (dVar 2) (dCons (dEF (dPr lenD (dCons (dVarB 3) dNil))) dNil)))))) (sSeq (sRet (dFE (dC .non))) sNil) sNil) (sSeq (sSet 0 (dFE (dEF (dOp2 idxD (dVarB 3) (dVarB 2))))) sNil)))
theorem lp_part_at_0_eq (Φ : Nat → Fn) (ρ : EnvD) (M : Store) : lp_part_at_0 Φ ρ M = (sSeq (sSet 3 (dFE (dEF (dCall 1 (Φ f_parts) (dCons (dVar 0) dNil))))) (sSeq (sIf (dNot (dTru (dEF (dCall 2 (Φ f_is_spot) (dCons (dVar 2) (dCons (dEF (dPr lenD (dCons (dVarB 3) dNil))) dNil)))))) (sSeq (sRet (dFE (dC .non))) sNil) sNil) (sSeq (sSet 0 (dFE (dEF (dOp2 idxD (dVarB 3) (dVarB 2))))) sNil))) ρ M := rfl
def m_part_at (Φ : Nat → Fn) : FS := (sSeq (sFor (dIt (dVar 1)) (bName 2) (lp_part_at_0 Φ)) (sSeq (sRetV 0) sNil))
def el_at_way_0 (Φ : Nat → Fn) : FD := (dEF (dOp1 (isiD "str") (dVarB 3)))
theorem el_at_way_0_eq (Φ : Nat → Fn) (ρ : EnvD) (M : Store) : el_at_way_0 Φ ρ M = (dEF (dOp1 (isiD "str") (dVarB 3))) ρ M := rfl
def m_at_way (Φ : Nat → Fn) : FS := (sSeq (sIf (dOr (dNot (dTru (dEF (dOp1 (isiD "tuple") (dVarB 1))))) (dOr (dBo (dOp2 (cmpD fun i j => decide (i < j)) (dEF (dPr lenD (dCons (dVarB 1) dNil))) (dC (.int 2)))) (dNot (dTru (dEF (dPr allD (dCons (dEF (dLc (dIt (dEF (dSl slD (dVarB 1) dNo (dSo (dC (.int 2)))))) (bName 3) dYes (el_at_way_0 Φ) [3])) dNil))))))) (sSeq (sRet (dFE (dC .non))) sNil) sNil) (sSeq (sSet 2 (dFE (dEF (dCall 3 (Φ f_function) (dCons (dVar 0) (dCons (dEF (dOp2 idxD (dVarB 1) (dC (.int 0)))) (dCons (dEF (dOp2 idxD (dVarB 1) (dC (.int 1)))) dNil))))))) (sSeq (sRet (dIf (dBo (dOp2 isD (dVarB 2) (dC .non))) (dFE (dC .non)) (dCall 2 (Φ f_part_at) (dCons (dEF (dOp2 idxD (dVarB 2) (dC (.int 1)))) (dCons (dEF (dSl slD (dVarB 1) (dSo (dC (.int 2))) dNo)) dNil))))) sNil)))
def m_more_round (Φ : Nat → Fn) : FS := (sSeq (sSet 4 (dFE (dNewD copyD (dVarB 2)))) (sSeq (sIf (dAnd (dBo (dOp2 eqD (dEF (dOp2 idxD (dVarB 0) (dC (.int 0)))) (dC (.str "let")))) (dBo (dOp2 eqD (dVarB 3) (dC (.int 1))))) (sSeq (sPutD (dTup (dCons (dC (.str "let")) (dCons (dVar 1) dNil))) (dVarB 4) (dEF (dOp2 idxD (dVarB 0) (dC (.int 1))))) sNil) sNil) (sSeq (sIf (dAnd (dBo (dOp2 eqD (dEF (dOp2 idxD (dVarB 0) (dC (.int 0)))) (dC (.str "times")))) (dBo (dOp2 eqD (dVarB 3) (dC (.int 2))))) (sSeq (sPutD (dTup (dCons (dC (.str "count")) (dCons (dVar 1) dNil))) (dVarB 4) (dEF (dOp2 idxD (dVarB 0) (dC (.int 2))))) (sSeq (sPutD (dTup (dCons (dC (.str "sum")) (dCons (dVar 1) dNil))) (dVarB 4) (dEF (dOp2 idxD (dVarB 0) (dC (.int 3))))) sNil)) sNil) (sSeq (sRetV 4) sNil))))
def lp_uses_in_0 (Φ : Nat → Fn) : FS := (sSeq (sExt 3 (dEF (dCall 3 (Φ f_uses_in) (dCons (dVar 5) (dCons (dEF (dOp2 addD (dVarB 1) (dTup (dCons (dVar 4) dNil)))) (dCons (dEF (dCall 4 (Φ f_more_round) (dCons (dVar 0) (dCons (dVar 1) (dCons (dVar 2) (dCons (dVar 4) dNil)))))) dNil)))))) sNil)
theorem lp_uses_in_0_eq (Φ : Nat → Fn) (ρ : EnvD) (M : Store) : lp_uses_in_0 Φ ρ M = (sSeq (sExt 3 (dEF (dCall 3 (Φ f_uses_in) (dCons (dVar 5) (dCons (dEF (dOp2 addD (dVarB 1) (dTup (dCons (dVar 4) dNil)))) (dCons (dEF (dCall 4 (Φ f_more_round) (dCons (dVar 0) (dCons (dVar 1) (dCons (dVar 2) (dCons (dVar 4) dNil)))))) dNil)))))) sNil) ρ M := rfl
def m_uses_in (Φ : Nat → Fn) : FS := (sSeq (sIf (dBo (dOp2 eqD (dEF (dOp2 idxD (dVarB 0) (dC (.int 0)))) (dC (.str "use")))) (sSeq (sRet (dLst (dCons (dTup (dCons (dVar 1) (dCons (dGet1 (dVarB 2) (dEF (dOp2 idxD (dVarB 0) (dC (.int 1))))) dNil))) dNil))) sNil) sNil) (sSeq (sSet 3 (dLst dNil)) (sSeq (sFor (dEnumA (dCons (dEF (dCall 1 (Φ f_parts) (dCons (dVar 0) dNil))) dNil)) (bTup [4, 5]) (lp_uses_in_0 Φ)) (sSeq (sRetV 3) sNil))))
def el_params_round_0 (Φ : Nat → Fn) : FD := (dTup (dCons (dVar 4) (dCons (dTup (dCons (dC (.str "param")) (dCons (dVar 0) (dCons (dVar 1) (dCons (dVar 3) dNil))))) dNil)))
theorem el_params_round_0_eq (Φ : Nat → Fn) (ρ : EnvD) (M : Store) : el_params_round_0 Φ ρ M = (dTup (dCons (dVar 4) (dCons (dTup (dCons (dC (.str "param")) (dCons (dVar 0) (dCons (dVar 1) (dCons (dVar 3) dNil))))) dNil))) ρ M := rfl
def m_params_round (Φ : Nat → Fn) : FS := (sSeq (sRet (dFE (dNewD pairKD (dEF (dLc (dEnumA (dCons (dVar 2) dNil)) (bTup [3, 4]) dYes (el_params_round_0 Φ) [3, 4]))))) sNil)
def lp_round_way_0 (Φ : Nat → Fn) : FS := (sSeq (sSet 2 (dFE (dEF (dCall 4 (Φ f_more_round) (dCons (dVar 8) (dCons (dVar 3) (dCons (dVar 2) (dCons (dVar 4) dNil)))))))) (sSeq (sSet 8 (dFE (dEF (dOp2 idxD (dEF (dCall 1 (Φ f_parts) (dCons (dVar 8) dNil))) (dVarB 4))))) (sSeq (sSet 3 (dFE (dEF (dOp2 addD (dVarB 3) (dTup (dCons (dVar 4) dNil)))))) sNil)))
theorem lp_round_way_0_eq (Φ : Nat → Fn) (ρ : EnvD) (M : Store) : lp_round_way_0 Φ ρ M = (sSeq (sSet 2 (dFE (dEF (dCall 4 (Φ f_more_round) (dCons (dVar 8) (dCons (dVar 3) (dCons (dVar 2) (dCons (dVar 4) dNil)))))))) (sSeq (sSet 8 (dFE (dEF (dOp2 idxD (dEF (dCall 1 (Φ f_parts) (dCons (dVar 8) dNil))) (dVarB 4))))) (sSeq (sSet 3 (dFE (dEF (dOp2 addD (dVarB 3) (dTup (dCons (dVar 4) dNil)))))) sNil))) ρ M := rfl
def m_round_way (Φ : Nat → Fn) : FS := (sSeq (sAsg (bTup [5, 6]) (dEF (dSl slD (dVarB 1) dNo (dSo (dC (.int 2)))))) (sSeq (sAsg (bTup [7, 8]) (dEF (dCall 3 (Φ f_function) (dCons (dVar 0) (dCons (dVar 5) (dCons (dVar 6) dNil)))))) (sSeq (sSet 2 (dFE (dEF (dCall 3 (Φ f_params_round) (dCons (dVar 5) (dCons (dVar 6) (dCons (dVar 7) dNil))))))) (sSeq (sSet 3 (dFE (dTup (dCons (dVar 5) (dCons (dVar 6) dNil))))) (sSeq (sFor (dIt (dEF (dSl slD (dVarB 1) (dSo (dC (.int 2))) dNo))) (bName 4) (lp_round_way_0 Φ)) (sSeq (sRetV 2) sNil))))))
def m_all_uses (Φ : Nat → Fn) : FS := (sSeq (sAsg (bTup [3, 4]) (dEF (dCall 3 (Φ f_function) (dCons (dVar 0) (dCons (dVar 1) (dCons (dVar 2) dNil)))))) (sSeq (sRet (dCall 3 (Φ f_uses_in) (dCons (dVar 4) (dCons (dTup (dCons (dVar 1) (dCons (dVar 2) dNil))) (dCons (dEF (dCall 3 (Φ f_params_round) (dCons (dVar 1) (dCons (dVar 2) (dCons (dVar 3) dNil))))) dNil))))) sNil))
def m_binder_of (Φ : Nat → Fn) : FS := (sSeq (sRet (dOp2 dgetD (dEF (dCall 2 (Φ f_round_way) (dCons (dVar 0) (dCons (dVar 1) dNil)))) (dEF (dOp2 idxD (dEF (dCall 2 (Φ f_at_way) (dCons (dVar 0) (dCons (dVar 1) dNil)))) (dC (.int 1)))))) sNil)
def m_home_of (Φ : Nat → Fn) : FS := (sSeq (sIf (dOr (dNot (dTru (dEF (dOp1 (isiD "tuple") (dVarB 1))))) (dOr (dBo (dOp2 (cmpD fun i j => decide (i < j)) (dEF (dPr lenD (dCons (dVarB 1) dNil))) (dC (.int 2)))) (dBo (dOp2 notInWD (dEF (dOp2 idxD (dVarB 1) (dC (.int 0)))) (dTup (dCons (dC (.str "param")) (dCons (dC (.str "let")) (dCons (dC (.str "count")) (dCons (dC (.str "sum")) dNil))))))))) (sSeq (sRet (dFE (dC .non))) sNil) sNil) (sSeq (sIf (dBo (dOp2 eqD (dEF (dOp2 idxD (dVarB 1) (dC (.int 0)))) (dC (.str "param")))) (sSeq (sIf (dOr (dBo (dOp2 neD (dEF (dPr lenD (dCons (dVarB 1) dNil))) (dC (.int 4)))) (dOr (dNot (dTru (dEF (dOp1 (isiD "str") (dEF (dOp2 idxD (dVarB 1) (dC (.int 1)))))))) (dNot (dTru (dEF (dOp1 (isiD "str") (dEF (dOp2 idxD (dVarB 1) (dC (.int 2)))))))))) (sSeq (sRet (dFE (dC .non))) sNil) sNil) (sSeq (sSet 2 (dFE (dEF (dCall 3 (Φ f_function) (dCons (dVar 0) (dCons (dEF (dOp2 idxD (dVarB 1) (dC (.int 1)))) (dCons (dEF (dOp2 idxD (dVarB 1) (dC (.int 2)))) dNil))))))) (sSeq (sRet (dIf (dAnd (dBo (dOp2 isntD (dVarB 2) (dC .non))) (dTru (dEF (dCall 2 (Φ f_is_spot) (dCons (dEF (dOp2 idxD (dVarB 1) (dC (.int 3)))) (dCons (dEF (dPr lenD (dCons (dEF (dOp2 idxD (dVarB 2) (dC (.int 0)))) dNil))) dNil)))))) (dSl slD (dVarB 1) (dSo (dC (.int 1))) (dSo (dC (.int 3)))) (dFE (dC .non)))) sNil))) sNil) (sSeq (sSet 2 (dFE (dEF (dIf (dBo (dOp2 eqD (dEF (dPr lenD (dCons (dVarB 1) dNil))) (dC (.int 2)))) (dCall 2 (Φ f_at_way) (dCons (dVar 0) (dCons (dEF (dOp2 idxD (dVarB 1) (dC (.int 1)))) dNil))) (dFE (dC .non)))))) (sSeq (sIf (dOr (dBo (dOp2 isD (dVarB 2) (dC .non))) (dBo (dOp2 neD (dEF (dOp2 idxD (dVarB 2) (dC (.int 0)))) (dEF (dOp2 dgetD (dDisp ["let", "count", "sum"] [(dC (.str "let")), (dC (.str "times")), (dC (.str "times"))]) (dEF (dOp2 idxD (dVarB 1) (dC (.int 0))))))))) (sSeq (sRet (dFE (dC .non))) sNil) sNil) (sSeq (sRet (dSl slD (dEF (dOp2 idxD (dVarB 1) (dC (.int 1)))) dNo (dSo (dC (.int 2))))) sNil)))))
def el_uses_of_0 (Φ : Nat → Fn) : FD := (dVar 3)
theorem el_uses_of_0_eq (Φ : Nat → Fn) (ρ : EnvD) (M : Store) : el_uses_of_0 Φ ρ M = (dVar 3) ρ M := rfl
def cd_uses_of_0 (Φ : Nat → Fn) : FB := (dBo (dOp2 eqD (dVarB 4) (dVarB 1)))
theorem cd_uses_of_0_eq (Φ : Nat → Fn) (ρ : EnvD) (M : Store) : cd_uses_of_0 Φ ρ M = (dBo (dOp2 eqD (dVarB 4) (dVarB 1))) ρ M := rfl
def m_uses_of (Φ : Nat → Fn) : FS := (sSeq (sSet 2 (dFE (dEF (dCall 2 (Φ f_home_of) (dCons (dVar 0) (dCons (dVar 1) dNil)))))) (sSeq (sIf (dBo (dOp2 isD (dVarB 2) (dC .non))) (sSeq (sRet (dFE (dC .non))) sNil) sNil) (sSeq (sRet (dLc (dIt (dEF (dCall 3 (Φ f_all_uses) (dCons (dVar 0) (dCons (dEF (dOp2 idxD (dVarB 2) (dC (.int 0)))) (dCons (dEF (dOp2 idxD (dVarB 2) (dC (.int 1)))) dNil)))))) (bTup [3, 4]) (cd_uses_of_0 Φ) (el_uses_of_0 Φ) [3, 4])) sNil)))
def m_name_of (Φ : Nat → Fn) : FS := (sSeq (sIf (dBo (dOp2 eqD (dEF (dOp2 idxD (dVarB 1) (dC (.int 0)))) (dC (.str "param")))) (sSeq (sRet (dOp2 idxD (dEF (dOp2 idxD (dEF (dCall 3 (Φ f_function) (dCons (dVar 0) (dCons (dEF (dOp2 idxD (dVarB 1) (dC (.int 1)))) (dCons (dEF (dOp2 idxD (dVarB 1) (dC (.int 2)))) dNil))))) (dC (.int 0)))) (dEF (dOp2 idxD (dVarB 1) (dC (.int 3)))))) sNil) sNil) (sSeq (sSet 2 (dFE (dEF (dCall 2 (Φ f_at_way) (dCons (dVar 0) (dCons (dEF (dOp2 idxD (dVarB 1) (dC (.int 1)))) dNil)))))) (sSeq (sRet (dOp2 idxD (dVarB 2) (dEF (dOp2 dgetD (dDisp ["let", "count", "sum"] [(dC (.int 1)), (dC (.int 2)), (dC (.int 3))]) (dEF (dOp2 idxD (dVarB 1) (dC (.int 0)))))))) sNil)))
def lp__law_cell_0 (Φ : Nat → Fn) : FS := (sSeq (sSet 4 (dFE (dEF (dOp2 fdivD (dVarB 4) (dC (.int 306783379)))))) sNil)
def m__law_cell (Φ : Nat → Fn) : FS := (sSeq (sPutR (dEF (dOp2 addD (dEF (dOp2 idxD (dVarB 1) (dC (.int 0)))) (dC (.int 1)))) (dVarB 1) (dC (.int 0))) (sSeq (sSet 2 (dFE (dEF (dOp2 idxD (dVarB 1) (dC (.int 0)))))) (sSeq (sSet 3 (dFE (dEF (dOp2 addD (dEF (dOp2 mulD (dEF (dOp2 mulD (dC (.int 31)) (dVarB 2))) (dVarB 2))) (dEF (dOp2 mulD (dC (.int 7919)) (dVarB 2))))))) (sSeq (sIf (dAnd (dBo (dOp2 (cmpD fun i j => decide (j < i)) (dEF (dPr lenD (dCons (dVarB 0) dNil))) (dC (.int 0)))) (dAnd (dBo (dOp2 (cmpD fun i j => decide (j ≤ i)) (dEF (dOp2 idxD (dVarB 0) (dEF (dOp2 modD (dVarB 2) (dEF (dPr lenD (dCons (dVarB 0) dNil))))))) (dEF (dOp2 powD (dC (.int 10)) (dC (.int 18)))))) (dBo (dOp2 (cmpD fun i j => decide (i < j)) (dEF (dOp2 fdivD (dVarB 2) (dEF (dPr lenD (dCons (dVarB 0) dNil))))) (dC (.int 60)))))) (sSeq (sSet 4 (dFE (dEF (dOp2 idxD (dVarB 0) (dEF (dOp2 modD (dVarB 2) (dEF (dPr lenD (dCons (dVarB 0) dNil))))))))) (sSeq (sFor (dRng1 (dCons (dEF (dOp2 fdivD (dVarB 2) (dEF (dPr lenD (dCons (dVarB 0) dNil))))) dNil)) (bName 5) (lp__law_cell_0 Φ)) (sSeq (sIf (dBo (dOp2 (cmpD fun i j => decide (j < i)) (dVarB 4) (dC (.int 0)))) (sSeq (sRet (dOp2 modD (dVarB 4) (dC (.int 306783379)))) sNil) sNil) sNil))) sNil) (sSeq (sIf (dBo (dOp2 (cmpD fun i j => decide (j < i)) (dEF (dPr lenD (dCons (dVarB 0) dNil))) (dC (.int 0)))) (sSeq (sSet 3 (dFE (dEF (dOp2 addD (dVarB 3) (dEF (dOp2 mulD (dEF (dOp2 modD (dEF (dOp2 idxD (dVarB 0) (dEF (dOp2 modD (dVarB 2) (dEF (dPr lenD (dCons (dVarB 0) dNil))))))) (dC (.int 2147483629)))) (dEF (dOp2 addD (dC (.int 1)) (dEF (dOp2 fdivD (dVarB 2) (dEF (dPr lenD (dCons (dVarB 0) dNil))))))))))))) sNil) sNil) (sSeq (sRet (dOp2 fdivD (dEF (dOp2 modD (dEF (dOp2 mulD (dEF (dOp2 modD (dEF (dOp2 mulD (dVarB 3) (dC (.int 48271)))) (dC (.int 2147483647)))) (dC (.int 69621)))) (dC (.int 2147483629)))) (dC (.int 7)))) sNil))))))
def el__law_names_0 (Φ : Nat → Fn) : FD := (dEF (dOp2 addD (dEF (dOp2 addD (dC (.str "n")) (dVarB 4))) (dC (.str "or"))))
def el__law_names_1 (Φ : Nat → Fn) : FD := (dVar 4)
def el__law_names_2 (Φ : Nat → Fn) : FD := (dEF (dSl slD (dC (.str "graphite")) dNo (dSo (dEF (dOp2 addD (dVarB 3) (dC (.int 1)))))))
def el__law_names_3 (Φ : Nat → Fn) : FD := (dEF (dSl slD (dC (.str "sandwich")) dNo (dSo (dEF (dOp2 addD (dVarB 3) (dC (.int 1)))))))
def el__law_names_4 (Φ : Nat → Fn) : FD := (dEF (dOp2 idxD (dVarB 2) (dEF (dOp2 modD (dEF (dOp2 addD (dEF (dOp2 fdivD (dVarB 0) (dC (.int 3)))) (dEF (dOp2 mulD (dEF (dOp2 addD (dEF (dOp2 mulD (dC (.int 2)) (dEF (dOp2 modD (dEF (dOp2 fdivD (dVarB 0) (dC (.int 48)))) (dC (.int 8)))))) (dC (.int 1)))) (dVarB 3))))) (dC (.int 16))))))
theorem el__law_names_4_eq (Φ : Nat → Fn) (ρ : EnvD) (M : Store) : el__law_names_4 Φ ρ M = (dEF (dOp2 idxD (dVarB 2) (dEF (dOp2 modD (dEF (dOp2 addD (dEF (dOp2 fdivD (dVarB 0) (dC (.int 3)))) (dEF (dOp2 mulD (dEF (dOp2 addD (dEF (dOp2 mulD (dC (.int 2)) (dEF (dOp2 modD (dEF (dOp2 fdivD (dVarB 0) (dC (.int 48)))) (dC (.int 8)))))) (dC (.int 1)))) (dVarB 3))))) (dC (.int 16)))))) ρ M := rfl
def m__law_names (Φ : Nat → Fn) : FS := (sSeq (sSet 1 (dFE (dC (.str "qzbmxkcwhvjpgyld")))) (sSeq (sSet 2 (dLst (dCons (dEF (dLc (dIt (dVar 1)) (bName 4) dYes (el__law_names_1 Φ) [4])) (dCons (dEF (dLc (dIt (dVar 1)) (bName 4) dYes (el__law_names_0 Φ) [4])) dNil)))) (sSeq (sApp 2 (dEF (dOp2 addD (dEF (dLc (dRng1 (dCons (dC (.int 8)) dNil)) (bName 3) dYes (el__law_names_2 Φ) [3])) (dEF (dLc (dRng1 (dCons (dC (.int 8)) dNil)) (bName 3) dYes (el__law_names_3 Φ) [3]))))) (sSeq (sSet 2 (dOp2 idxD (dVarB 2) (dEF (dOp2 modD (dVarB 0) (dC (.int 3)))))) (sSeq (sRet (dLc (dRng1 (dCons (dC (.int 16)) dNil)) (bName 3) dYes (el__law_names_4 Φ) [3])) sNil)))))
def m__law_number (Φ : Nat → Fn) : FS := (sSeq (sRet (dOp2 idxD (dEF (dLst (dCons (dEF (dOp2 modD (dEF (dOp2 fdivD (dVarB 0) (dC (.int 12)))) (dC (.int 5)))) (dCons (dEF (dOp2 subD (dEF (dOp2 modD (dEF (dOp2 fdivD (dVarB 0) (dC (.int 12)))) (dC (.int 5)))) (dC (.int 2)))) (dCons (dEF (dOp2 modD (dEF (dOp2 fdivD (dVarB 0) (dC (.int 12)))) (dC (.int 100)))) (dCons (dEF (dOp2 idxD (dEF (dLst (dCons (dEF (dOp2 powD (dC (.int 10)) (dC (.int 30)))) (dCons (dEF (dOp1 negD (dEF (dOp2 powD (dC (.int 10)) (dC (.int 30)))))) (dCons (dC (.int 1001)) (dCons (dC (.int 0)) dNil)))))) (dEF (dOp2 modD (dEF (dOp2 fdivD (dVarB 0) (dC (.int 12)))) (dC (.int 4)))))) dNil)))))) (dEF (dOp2 fdivD (dEF (dOp2 modD (dVarB 0) (dC (.int 12)))) (dC (.int 3)))))) sNil)
def m__law_leaf (Φ : Nat → Fn) : FS := (sSeq (sIf (dAnd (dBo (dOp2 neD (dVarB 1) (dEF (dLst dNil)))) (dBo (dOp2 (cmpD fun i j => decide (j < i)) (dEF (dOp2 modD (dVarB 2) (dC (.int 4)))) (dC (.int 0))))) (sSeq (sRet (dFE (dTup (dCons (dC (.str "use")) (dCons (dEF (dOp2 idxD (dVarB 1) (dEF (dOp2 modD (dEF (dOp2 fdivD (dVarB 2) (dC (.int 4)))) (dEF (dPr lenD (dCons (dVarB 1) dNil))))))) dNil))))) sNil) sNil) (sSeq (sRet (dFE (dTup (dCons (dC (.str "num")) (dCons (dEF (dCall 1 (Φ f__law_number) (dCons (dEF (dOp2 fdivD (dVarB 2) (dC (.int 4)))) dNil))) dNil))))) sNil))
def m__law_op (Φ : Nat → Fn) : FS := (sSeq (sSet 6 (dFE (dEF (dOp2 idxD (dC (.str "+-*=</&")) (dEF (dOp2 modD (dVarB 5) (dEF (dOp2 idxD (dEF (dLst (dCons (dC (.int 7)) (dCons (dC (.int 5)) dNil)))) (dEF (dPr intD (dCons (dEF (dOp2 dgetD (dVarB 2) (dC (.str "quiet")))) dNil))))))))))) (sSeq (sSet 7 (dFE (dEF (dCall 5 (Φ f__law_expression) (dCons (dVar 0) (dCons (dVar 1) (dCons (dVar 2) (dCons (dVar 3) (dCons (dEF (dOp2 subD (dVarB 4) (dC (.int 1)))) dNil))))))))) (sSeq (sIf (dBo (dOp2 eqD (dVarB 6) (dC (.str "*")))) (sSeq (sRet (dFE (dTup (dCons (dC (.str "op")) (dCons (dVar 6) (dCons (dVar 7) (dCons (dTup (dCons (dC (.str "num")) (dCons (dEF (dOp2 subD (dEF (dOp2 modD (dEF (dOp2 fdivD (dVarB 5) (dC (.int 7)))) (dC (.int 1000)))) (dC (.int 3)))) dNil))) dNil))))))) sNil) sNil) (sSeq (sRet (dFE (dTup (dCons (dC (.str "op")) (dCons (dVar 6) (dCons (dVar 7) (dCons (dEF (dCall 5 (Φ f__law_expression) (dCons (dVar 0) (dCons (dVar 1) (dCons (dVar 2) (dCons (dVar 3) (dCons (dEF (dOp2 subD (dVarB 4) (dC (.int 1)))) dNil))))))) dNil))))))) sNil))))
def el__law_times_0 (Φ : Nat → Fn) : FD := (dVar 14)
theorem el__law_times_0_eq (Φ : Nat → Fn) (ρ : EnvD) (M : Store) : el__law_times_0 Φ ρ M = (dVar 14) ρ M := rfl
def cd__law_times_0 (Φ : Nat → Fn) : FB := (dBo (dOp2 notInD (dVarB 14) (dTup (dCons (dEF (dOp2 idxD (dVarB 6) (dVarB 12))) (dCons (dEF (dOp2 idxD (dVarB 6) (dVarB 7))) dNil)))))
theorem cd__law_times_0_eq (Φ : Nat → Fn) (ρ : EnvD) (M : Store) : cd__law_times_0 Φ ρ M = (dBo (dOp2 notInD (dVarB 14) (dTup (dCons (dEF (dOp2 idxD (dVarB 6) (dVarB 12))) (dCons (dEF (dOp2 idxD (dVarB 6) (dVarB 7))) dNil))))) ρ M := rfl
def m__law_times (Φ : Nat → Fn) : FS := (sSeq (sSet 6 (dFE (dEF (dOp2 dgetD (dVarB 2) (dC (.str "names")))))) (sSeq (sAsg (bTup [12, 13]) (dTup (dCons (dEF (dOp2 modD (dEF (dOp2 fdivD (dVarB 5) (dC (.int 7)))) (dC (.int 5)))) (dCons (dEF (dOp2 modD (dEF (dOp2 fdivD (dVarB 5) (dC (.int 35)))) (dC (.int 4)))) dNil)))) (sSeq (sSet 7 (dFE (dEF (dOp2 modD (dEF (dOp2 addD (dEF (dOp2 addD (dVarB 12) (dC (.int 1)))) (dVarB 13))) (dC (.int 5)))))) (sSeq (sSet 8 (dFE (dTup (dCons (dC (.str "num")) (dCons (dEF (dOp2 modD (dVarB 5) (dC (.int 4)))) dNil))))) (sSeq (sIf (dAnd (dNot (dTru (dEF (dOp2 dgetD (dVarB 2) (dC (.str "quiet")))))) (dBo (dOp2 eqD (dEF (dOp2 modD (dEF (dOp2 fdivD (dVarB 5) (dC (.int 140)))) (dC (.int 3)))) (dC (.int 1))))) (sSeq (sSet 8 (dFE (dTup (dCons (dC (.str "op")) (dCons (dC (.str "&")) (dCons (dEF (dCall 5 (Φ f__law_expression) (dCons (dVar 0) (dCons (dVar 1) (dCons (dVar 2) (dCons (dVar 3) (dCons (dEF (dOp2 subD (dVarB 4) (dC (.int 2)))) dNil))))))) (dCons (dTup (dCons (dC (.str "num")) (dCons (dC (.int 4)) dNil))) dNil))))))) sNil) (sSeq (sIf (dAnd (dNot (dTru (dEF (dOp2 dgetD (dVarB 2) (dC (.str "quiet")))))) (dBo (dOp2 eqD (dEF (dOp2 modD (dEF (dOp2 fdivD (dVarB 5) (dC (.int 140)))) (dC (.int 12)))) (dC (.int 2))))) (sSeq (sSet 8 (dFE (dTup (dCons (dC (.str "num")) (dCons (dEF (dOp2 addD (dC (.int 1000)) (dEF (dOp2 modD (dEF (dOp2 fdivD (dVarB 5) (dC (.int 1680)))) (dC (.int 3)))))) dNil))))) sNil) sNil) sNil)) (sSeq (sSet 9 (dFE (dEF (dCall 5 (Φ f__law_expression) (dCons (dVar 0) (dCons (dVar 1) (dCons (dVar 2) (dCons (dVar 3) (dCons (dEF (dOp2 subD (dVarB 4) (dC (.int 1)))) dNil))))))))) (sSeq (sSet 10 (dFE (dEF (dOp2 addD (dEF (dLc (dIt (dVar 3)) (bName 14) (cd__law_times_0 Φ) (el__law_times_0 Φ) [14])) (dEF (dLst (dCons (dEF (dOp2 idxD (dVarB 6) (dVarB 12))) (dCons (dEF (dOp2 idxD (dVarB 6) (dVarB 7))) dNil)))))))) (sSeq (sSet 11 (dFE (dEF (dCall 5 (Φ f__law_expression) (dCons (dVar 0) (dCons (dVar 1) (dCons (dVar 2) (dCons (dVar 10) (dCons (dEF (dOp2 subD (dVarB 4) (dC (.int 1)))) dNil))))))))) (sSeq (sRet (dFE (dTup (dCons (dC (.str "times")) (dCons (dVar 8) (dCons (dEF (dOp2 idxD (dVarB 6) (dVarB 12))) (dCons (dEF (dOp2 idxD (dVarB 6) (dVarB 7))) (dCons (dVar 9) (dCons (dVar 11) dNil))))))))) sNil)))))))))
def el__law_call_0 (Φ : Nat → Fn) : FD := (dVar 11)
theorem el__law_call_0_eq (Φ : Nat → Fn) (ρ : EnvD) (M : Store) : el__law_call_0 Φ ρ M = (dVar 11) ρ M := rfl
def cd__law_call_0 (Φ : Nat → Fn) : FB := (dOr (dTru (dEF (dOp2 idxD (dVarB 11) (dC (.int 3))))) (dNot (dTru (dEF (dOp2 dgetD (dVarB 2) (dC (.str "quiet")))))))
theorem cd__law_call_0_eq (Φ : Nat → Fn) (ρ : EnvD) (M : Store) : cd__law_call_0 Φ ρ M = (dOr (dTru (dEF (dOp2 idxD (dVarB 11) (dC (.int 3))))) (dNot (dTru (dEF (dOp2 dgetD (dVarB 2) (dC (.str "quiet"))))))) ρ M := rfl
def el__law_call_1 (Φ : Nat → Fn) : FD := (dEF (dCall 5 (Φ f__law_expression) (dCons (dVar 0) (dCons (dVar 1) (dCons (dVar 2) (dCons (dVar 3) (dCons (dEF (dOp2 subD (dVarB 4) (dC (.int 1)))) dNil)))))))
theorem el__law_call_1_eq (Φ : Nat → Fn) (ρ : EnvD) (M : Store) : el__law_call_1 Φ ρ M = (dEF (dCall 5 (Φ f__law_expression) (dCons (dVar 0) (dCons (dVar 1) (dCons (dVar 2) (dCons (dVar 3) (dCons (dEF (dOp2 subD (dVarB 4) (dC (.int 1)))) dNil))))))) ρ M := rfl
def m__law_call (Φ : Nat → Fn) : FS := (sSeq (sSet 6 (dLc (dIt (dEF (dOp2 dgetD (dVarB 2) (dC (.str "ahead"))))) (bName 11) (cd__law_call_0 Φ) (el__law_call_0 Φ) [11])) (sSeq (sIf (dBo (dOp2 eqD (dVarB 6) (dEF (dLst dNil)))) (sSeq (sRet (dCall 3 (Φ f__law_leaf) (dCons (dVar 2) (dCons (dVar 3) (dCons (dVar 5) dNil))))) sNil) sNil) (sSeq (sAsg (bTup [7, 8, 9, 10]) (dEF (dOp2 idxD (dVarB 6) (dEF (dOp2 modD (dVarB 5) (dEF (dPr lenD (dCons (dVarB 6) dNil)))))))) (sSeq (sRet (dFE (dTup (dCons (dC (.str "call")) (dCons (dVar 7) (dCons (dVar 8) (dCons (dEF (dPr tupleD (dCons (dEF (dLc (dRng1 (dCons (dVarB 9) dNil)) (bName 12) dYes (el__law_call_1 Φ) [12])) dNil))) dNil))))))) sNil))))
def el__law_expression_0 (Φ : Nat → Fn) : FD := (dVar 11)
theorem el__law_expression_0_eq (Φ : Nat → Fn) (ρ : EnvD) (M : Store) : el__law_expression_0 Φ ρ M = (dVar 11) ρ M := rfl
def cd__law_expression_0 (Φ : Nat → Fn) : FB := (dBo (dOp2 neD (dVarB 11) (dVarB 8)))
theorem cd__law_expression_0_eq (Φ : Nat → Fn) (ρ : EnvD) (M : Store) : cd__law_expression_0 Φ ρ M = (dBo (dOp2 neD (dVarB 11) (dVarB 8))) ρ M := rfl
def el__law_expression_1 (Φ : Nat → Fn) : FD := (dEF (dCall 5 (Φ f__law_expression) (dCons (dVar 0) (dCons (dVar 1) (dCons (dVar 2) (dCons (dVar 3) (dCons (dEF (dOp2 subD (dVarB 4) (dC (.int 1)))) dNil)))))))
theorem el__law_expression_1_eq (Φ : Nat → Fn) (ρ : EnvD) (M : Store) : el__law_expression_1 Φ ρ M = (dEF (dCall 5 (Φ f__law_expression) (dCons (dVar 0) (dCons (dVar 1) (dCons (dVar 2) (dCons (dVar 3) (dCons (dEF (dOp2 subD (dVarB 4) (dC (.int 1)))) dNil))))))) ρ M := rfl
def m__law_expression (Φ : Nat → Fn) : FS := (sSeq (sSet 5 (dFE (dEF (dCall 2 (Φ f__law_cell) (dCons (dVar 0) (dCons (dVar 1) dNil)))))) (sSeq (sPar 6 7 (dCons (dEF (dOp2 modD (dVarB 5) (dC (.int 16)))) (dCons (dEF (dOp2 fdivD (dVarB 5) (dC (.int 16)))) dNil))) (sSeq (sIf (dOr (dBo (dOp2 (cmpD fun i j => decide (i < j)) (dVarB 4) (dC (.int 2)))) (dBo (dOp2 (cmpD fun i j => decide (i < j)) (dVarB 6) (dC (.int 3))))) (sSeq (sRet (dCall 3 (Φ f__law_leaf) (dCons (dVar 2) (dCons (dVar 3) (dCons (dVar 7) dNil))))) sNil) sNil) (sSeq (sIf (dBo (dOp2 (cmpD fun i j => decide (i < j)) (dVarB 6) (dC (.int 5)))) (sSeq (sRet (dCall 6 (Φ f__law_call) (dCons (dVar 0) (dCons (dVar 1) (dCons (dVar 2) (dCons (dVar 3) (dCons (dVar 4) (dCons (dVar 7) dNil)))))))) sNil) sNil) (sSeq (sIf (dBo (dOp2 eqD (dVarB 6) (dC (.int 5)))) (sSeq (sRet (dCall 6 (Φ f__law_times) (dCons (dVar 0) (dCons (dVar 1) (dCons (dVar 2) (dCons (dVar 3) (dCons (dVar 4) (dCons (dVar 7) dNil)))))))) sNil) sNil) (sSeq (sIf (dBo (dOp2 (cmpD fun i j => decide (i < j)) (dVarB 6) (dC (.int 9)))) (sSeq (sSet 8 (dFE (dEF (dOp2 idxD (dEF (dOp2 dgetD (dVarB 2) (dC (.str "names")))) (dEF (dOp2 modD (dVarB 7) (dC (.int 5)))))))) (sSeq (sSet 9 (dFE (dEF (dCall 5 (Φ f__law_expression) (dCons (dVar 0) (dCons (dVar 1) (dCons (dVar 2) (dCons (dVar 3) (dCons (dEF (dOp2 subD (dVarB 4) (dC (.int 1)))) dNil))))))))) (sSeq (sSet 10 (dFE (dEF (dOp2 addD (dEF (dLc (dIt (dVar 3)) (bName 11) (cd__law_expression_0 Φ) (el__law_expression_0 Φ) [11])) (dEF (dLst (dCons (dVar 8) dNil))))))) (sSeq (sRet (dFE (dTup (dCons (dC (.str "let")) (dCons (dVar 8) (dCons (dVar 9) (dCons (dEF (dCall 5 (Φ f__law_expression) (dCons (dVar 0) (dCons (dVar 1) (dCons (dVar 2) (dCons (dVar 10) (dCons (dEF (dOp2 subD (dVarB 4) (dC (.int 1)))) dNil))))))) dNil))))))) sNil)))) sNil) (sSeq (sIf (dBo (dOp2 eqD (dVarB 6) (dC (.int 9)))) (sSeq (sRet (dOp2 addD (dTup (dCons (dC (.str "if")) dNil)) (dEF (dPr tupleD (dCons (dEF (dLc (dRng1 (dCons (dC (.int 3)) dNil)) (bName 12) dYes (el__law_expression_1 Φ) [12])) dNil))))) sNil) sNil) (sSeq (sIf (dAnd (dBo (dOp2 (cmpD fun i j => decide (i < j)) (dVarB 6) (dC (.int 12)))) (dNot (dTru (dEF (dOp2 dgetD (dVarB 2) (dC (.str "quiet"))))))) (sSeq (sSet 9 (dFE (dEF (dCall 5 (Φ f__law_expression) (dCons (dVar 0) (dCons (dVar 1) (dCons (dVar 2) (dCons (dVar 3) (dCons (dEF (dOp2 subD (dVarB 4) (dC (.int 1)))) dNil))))))))) (sSeq (sRet (dFE (dTup (dCons (dC (.str "tell")) (dCons (dVar 9) (dCons (dEF (dCall 5 (Φ f__law_expression) (dCons (dVar 0) (dCons (dVar 1) (dCons (dVar 2) (dCons (dVar 3) (dCons (dEF (dOp2 subD (dVarB 4) (dC (.int 1)))) dNil))))))) dNil)))))) sNil)) sNil) (sSeq (sIf (dAnd (dBo (dOp2 eqD (dVarB 6) (dC (.int 12)))) (dAnd (dNot (dTru (dEF (dOp2 dgetD (dVarB 2) (dC (.str "quiet")))))) (dBo (dOp2 eqD (dEF (dOp2 modD (dVarB 7) (dC (.int 4)))) (dC (.int 1)))))) (sSeq (sRet (dFE (dTup (dCons (dC (.str "stop")) (dCons (dEF (dCall 5 (Φ f__law_expression) (dCons (dVar 0) (dCons (dVar 1) (dCons (dVar 2) (dCons (dVar 3) (dCons (dEF (dOp2 subD (dVarB 4) (dC (.int 1)))) dNil))))))) dNil))))) sNil) sNil) (sSeq (sRet (dCall 6 (Φ f__law_op) (dCons (dVar 0) (dCons (dVar 1) (dCons (dVar 2) (dCons (dVar 3) (dCons (dVar 4) (dCons (dVar 7) dNil)))))))) sNil))))))))))
def el__law_program_0 (Φ : Nat → Fn) : FD := (dEF (dOp2 idxD (dVarB 7) (dEF (dOp2 modD (dEF (dOp2 addD (dVarB 11) (dEF (dOp2 mulD (dC (.int 3)) (dVarB 16))))) (dC (.int 5))))))
theorem el__law_program_0_eq (Φ : Nat → Fn) (ρ : EnvD) (M : Store) : el__law_program_0 Φ ρ M = (dEF (dOp2 idxD (dVarB 7) (dEF (dOp2 modD (dEF (dOp2 addD (dVarB 11) (dEF (dOp2 mulD (dC (.int 3)) (dVarB 16))))) (dC (.int 5)))))) ρ M := rfl
def lp__law_program_0 (Φ : Nat → Fn) : FS := (sSeq (sSet 11 (dFE (dEF (dCall 2 (Φ f__law_cell) (dCons (dVar 0) (dCons (dVar 1) dNil)))))) (sSeq (sSet 12 (dLc (dRng1 (dCons (dEF (dOp2 modD (dEF (dOp2 fdivD (dVarB 11) (dC (.int 5)))) (dC (.int 4)))) dNil)) (bName 16) dYes (el__law_program_0 Φ) [16])) (sSeq (sSet 13 (dFE (dDisp ["names", "ahead", "quiet"] [(dVar 7), (dVar 4), (dEF (dOp2 eqD (dEF (dOp2 modD (dEF (dOp2 fdivD (dVarB 11) (dC (.int 20)))) (dC (.int 3)))) (dC (.int 0))))]))) (sSeq (sFz 12 (sSet 14 (dFE (dEF (dCall 5 (Φ f__law_expression) (dCons (dVar 0) (dCons (dVar 1) (dCons (dVar 13) (dCons (dVar 12) (dCons (dEF (dOp2 addD (dC (.int 2)) (dEF (dOp2 modD (dEF (dOp2 fdivD (dVarB 11) (dC (.int 60)))) (dC (.int 4)))))) dNil)))))))))) (sSeq (sSet 15 (dFE (dEF (dOp2 idxD (dVarB 8) (dEF (dOp2 modD (dEF (dOp2 addD (dEF (dOp2 addD (dEF (dOp2 modD (dEF (dOp2 fdivD (dVarB 11) (dC (.int 240)))) (dC (.int 3)))) (dC (.int 5)))) (dEF (dOp2 mulD (dC (.int 3)) (dVarB 10))))) (dC (.int 16)))))))) (sSeq (sApp 9 (dTup (dCons (dVar 15) (dCons (dEF (dPr tupleD (dCons (dVarB 12) dNil))) (dCons (dVar 14) dNil))))) (sSeq (sSet 4 (dFE (dEF (dOp2 addD (dVarB 4) (dEF (dLst (dCons (dTup (dCons (dEF (dOp2 idxD (dVarB 8) (dVarB 6))) (dCons (dVar 15) (dCons (dEF (dPr lenD (dCons (dVarB 12) dNil))) (dCons (dEF (dOp2 dgetD (dVarB 13) (dC (.str "quiet")))) dNil))))) dNil))))))) sNil)))))))
theorem lp__law_program_0_eq (Φ : Nat → Fn) (ρ : EnvD) (M : Store) : lp__law_program_0 Φ ρ M = (sSeq (sSet 11 (dFE (dEF (dCall 2 (Φ f__law_cell) (dCons (dVar 0) (dCons (dVar 1) dNil)))))) (sSeq (sSet 12 (dLc (dRng1 (dCons (dEF (dOp2 modD (dEF (dOp2 fdivD (dVarB 11) (dC (.int 5)))) (dC (.int 4)))) dNil)) (bName 16) dYes (el__law_program_0 Φ) [16])) (sSeq (sSet 13 (dFE (dDisp ["names", "ahead", "quiet"] [(dVar 7), (dVar 4), (dEF (dOp2 eqD (dEF (dOp2 modD (dEF (dOp2 fdivD (dVarB 11) (dC (.int 20)))) (dC (.int 3)))) (dC (.int 0))))]))) (sSeq (sFz 12 (sSet 14 (dFE (dEF (dCall 5 (Φ f__law_expression) (dCons (dVar 0) (dCons (dVar 1) (dCons (dVar 13) (dCons (dVar 12) (dCons (dEF (dOp2 addD (dC (.int 2)) (dEF (dOp2 modD (dEF (dOp2 fdivD (dVarB 11) (dC (.int 60)))) (dC (.int 4)))))) dNil)))))))))) (sSeq (sSet 15 (dFE (dEF (dOp2 idxD (dVarB 8) (dEF (dOp2 modD (dEF (dOp2 addD (dEF (dOp2 addD (dEF (dOp2 modD (dEF (dOp2 fdivD (dVarB 11) (dC (.int 240)))) (dC (.int 3)))) (dC (.int 5)))) (dEF (dOp2 mulD (dC (.int 3)) (dVarB 10))))) (dC (.int 16)))))))) (sSeq (sApp 9 (dTup (dCons (dVar 15) (dCons (dEF (dPr tupleD (dCons (dVarB 12) dNil))) (dCons (dVar 14) dNil))))) (sSeq (sSet 4 (dFE (dEF (dOp2 addD (dVarB 4) (dEF (dLst (dCons (dTup (dCons (dEF (dOp2 idxD (dVarB 8) (dVarB 6))) (dCons (dVar 15) (dCons (dEF (dPr lenD (dCons (dVarB 12) dNil))) (dCons (dEF (dOp2 dgetD (dVarB 13) (dC (.str "quiet")))) dNil))))) dNil))))))) sNil))))))) ρ M := rfl
def lp__law_program_1 (Φ : Nat → Fn) : FS := (sSeq (sSet 9 (dLst dNil)) (sSeq (sFor (dRng1 (dCons (dEF (dPr max2D (dCons (dEF (dPr intD (dCons (dEF (dOp2 eqD (dVarB 6) (dC (.int 0)))) dNil))) (dCons (dEF (dOp2 modD (dEF (dOp2 fdivD (dEF (dCall 2 (Φ f__law_cell) (dCons (dVar 0) (dCons (dVar 1) dNil)))) (dC (.int 5)))) (dEF (dOp2 addD (dVarB 2) (dC (.int 1)))))) dNil)))) dNil)) (bName 10) (lp__law_program_0 Φ)) (sSeq (sApp 5 (dTup (dCons (dEF (dOp2 idxD (dVarB 8) (dVarB 6))) (dCons (dEF (dPr tupleD (dCons (dVarB 9) dNil))) dNil)))) sNil)))
theorem lp__law_program_1_eq (Φ : Nat → Fn) (ρ : EnvD) (M : Store) : lp__law_program_1 Φ ρ M = (sSeq (sSet 9 (dLst dNil)) (sSeq (sFor (dRng1 (dCons (dEF (dPr max2D (dCons (dEF (dPr intD (dCons (dEF (dOp2 eqD (dVarB 6) (dC (.int 0)))) dNil))) (dCons (dEF (dOp2 modD (dEF (dOp2 fdivD (dEF (dCall 2 (Φ f__law_cell) (dCons (dVar 0) (dCons (dVar 1) dNil)))) (dC (.int 5)))) (dEF (dOp2 addD (dVarB 2) (dC (.int 1)))))) dNil)))) dNil)) (bName 10) (lp__law_program_0 Φ)) (sSeq (sApp 5 (dTup (dCons (dEF (dOp2 idxD (dVarB 8) (dVarB 6))) (dCons (dEF (dPr tupleD (dCons (dVarB 9) dNil))) dNil)))) sNil))) ρ M := rfl
def m__law_program (Φ : Nat → Fn) : FS := (sSeq (sSet 3 (dFE (dEF (dCall 2 (Φ f__law_cell) (dCons (dVar 0) (dCons (dVar 1) dNil)))))) (sSeq (sAsg (bTup [7, 8]) (dTup (dCons (dEF (dCall 1 (Φ f__law_names) (dCons (dVar 3) dNil))) (dCons (dEF (dCall 1 (Φ f__law_names) (dCons (dEF (dOp2 fdivD (dVarB 3) (dC (.int 7)))) dNil))) dNil)))) (sSeq (sSet 4 (dFE (dEF (dLst dNil)))) (sSeq (sSet 5 (dLst dNil)) (sSeq (sFor (dRng1 (dCons (dEF (dOp2 addD (dC (.int 1)) (dEF (dOp2 modD (dEF (dOp2 fdivD (dVarB 3) (dC (.int 384)))) (dC (.int 3)))))) dNil)) (bName 6) (lp__law_program_1 Φ)) (sSeq (sRet (dPr tupleD (dCons (dVarB 5) dNil))) sNil))))))
def m__law_spots (Φ : Nat → Fn) : FS := (sSeq (sSet 1 (dFE (dDisp ["op", "let", "if", "tell", "stop", "times"] [(dTup (dCons (dC (.int 2)) (dCons (dC (.int 3)) dNil))), (dTup (dCons (dC (.int 2)) (dCons (dC (.int 3)) dNil))), (dTup (dCons (dC (.int 1)) (dCons (dC (.int 2)) (dCons (dC (.int 3)) dNil)))), (dTup (dCons (dC (.int 1)) (dCons (dC (.int 2)) dNil))), (dTup (dCons (dC (.int 1)) dNil)), (dTup (dCons (dC (.int 1)) (dCons (dC (.int 4)) (dCons (dC (.int 5)) dNil))))]))) (sSeq (sRet (dFE (dGet2 (dVarB 1) (dEF (dOp2 idxD (dVarB 0) (dC (.int 0)))) (dTup dNil)))) sNil))
def el__law_parts_0 (Φ : Nat → Fn) : FD := (dEF (dOp2 idxD (dVarB 0) (dVarB 1)))
theorem el__law_parts_0_eq (Φ : Nat → Fn) (ρ : EnvD) (M : Store) : el__law_parts_0 Φ ρ M = (dEF (dOp2 idxD (dVarB 0) (dVarB 1))) ρ M := rfl
def m__law_parts (Φ : Nat → Fn) : FS := (sSeq (sRet (dIf (dBo (dOp2 eqD (dEF (dOp2 idxD (dVarB 0) (dC (.int 0)))) (dC (.str "call")))) (dPr listD (dCons (dEF (dOp2 idxD (dVarB 0) (dC (.int 3)))) dNil)) (dLc (dIt (dEF (dCall 1 (Φ f__law_spots) (dCons (dVar 0) dNil)))) (bName 1) dYes (el__law_parts_0 Φ) [1]))) sNil)
def el__law_rows_0 (Φ : Nat → Fn) : FD := (dEF (dOp2 addD (dTup (dCons (dVar 2) dNil)) (dVarB 4)))
theorem el__law_rows_0_eq (Φ : Nat → Fn) (ρ : EnvD) (M : Store) : el__law_rows_0 Φ ρ M = (dEF (dOp2 addD (dTup (dCons (dVar 2) dNil)) (dVarB 4))) ρ M := rfl
def lp__law_rows_0 (Φ : Nat → Fn) : FS := (sSeq (sExt 1 (dEF (dLc (dIt (dEF (dCall 1 (Φ f__law_rows) (dCons (dVar 3) dNil)))) (bName 4) dYes (el__law_rows_0 Φ) [4]))) sNil)
theorem lp__law_rows_0_eq (Φ : Nat → Fn) (ρ : EnvD) (M : Store) : lp__law_rows_0 Φ ρ M = (sSeq (sExt 1 (dEF (dLc (dIt (dEF (dCall 1 (Φ f__law_rows) (dCons (dVar 3) dNil)))) (bName 4) dYes (el__law_rows_0 Φ) [4]))) sNil) ρ M := rfl
def m__law_rows (Φ : Nat → Fn) : FS := (sSeq (sSet 1 (dLst (dCons (dTup dNil) dNil))) (sSeq (sFor (dEnumA (dCons (dEF (dCall 1 (Φ f__law_parts) (dCons (dVar 0) dNil))) dNil)) (bTup [2, 3]) (lp__law_rows_0 Φ)) (sSeq (sRetV 1) sNil)))
def lp__law_found_0 (Φ : Nat → Fn) : FS := (sSeq (sIf (dBo (dOp2 eqD (dTup (dCons (dVar 3) (dCons (dEF (dOp2 idxD (dVarB 5) (dC (.int 0)))) dNil))) (dTup (dCons (dVar 1) (dCons (dVar 2) dNil))))) (sSeq (sRetV 5) sNil) sNil) sNil)
theorem lp__law_found_0_eq (Φ : Nat → Fn) (ρ : EnvD) (M : Store) : lp__law_found_0 Φ ρ M = (sSeq (sIf (dBo (dOp2 eqD (dTup (dCons (dVar 3) (dCons (dEF (dOp2 idxD (dVarB 5) (dC (.int 0)))) dNil))) (dTup (dCons (dVar 1) (dCons (dVar 2) dNil))))) (sSeq (sRetV 5) sNil) sNil) sNil) ρ M := rfl
def lp__law_found_1 (Φ : Nat → Fn) : FS := (sSeq (sFor (dIt (dVar 4)) (bName 5) (lp__law_found_0 Φ)) sNil)
theorem lp__law_found_1_eq (Φ : Nat → Fn) (ρ : EnvD) (M : Store) : lp__law_found_1 Φ ρ M = (sSeq (sFor (dIt (dVar 4)) (bName 5) (lp__law_found_0 Φ)) sNil) ρ M := rfl
def m__law_found (Φ : Nat → Fn) : FS := (sSeq (sFor (dIt (dVar 0)) (bTup [3, 4]) (lp__law_found_1 Φ)) (sSeq (sRet (dFE (dC .non))) sNil))
def lp__law_at_0 (Φ : Nat → Fn) : FS := (sSeq (sSet 0 (dFE (dEF (dOp2 idxD (dEF (dCall 1 (Φ f__law_parts) (dCons (dVar 0) dNil))) (dVarB 2))))) sNil)
theorem lp__law_at_0_eq (Φ : Nat → Fn) (ρ : EnvD) (M : Store) : lp__law_at_0 Φ ρ M = (sSeq (sSet 0 (dFE (dEF (dOp2 idxD (dEF (dCall 1 (Φ f__law_parts) (dCons (dVar 0) dNil))) (dVarB 2))))) sNil) ρ M := rfl
def m__law_at (Φ : Nat → Fn) : FS := (sSeq (sFor (dIt (dVar 1)) (bName 2) (lp__law_at_0 Φ)) (sSeq (sRetV 0) sNil))
def wh__law_nearest_0 (Φ : Nat → Fn) : FS := (sSeq (sPar 3 6 (dCons (dEF (dSl slD (dVarB 3) dNo (dSo (dEF (dOp1 negD (dC (.int 1))))))) (dCons (dEF (dOp2 idxD (dVarB 3) (dEF (dOp1 negD (dC (.int 1)))))) dNil))) (sSeq (sSet 5 (dFE (dEF (dCall 2 (Φ f__law_at) (dCons (dVar 2) (dCons (dVar 3) dNil)))))) (sSeq (sIf (dAnd (dBo (dOp2 eqD (dEF (dOp2 idxD (dVarB 5) (dC (.int 0)))) (dC (.str "let")))) (dAnd (dBo (dOp2 eqD (dVarB 6) (dC (.int 1)))) (dBo (dOp2 eqD (dEF (dOp2 idxD (dVarB 5) (dC (.int 1)))) (dVarB 4))))) (sSeq (sRet (dFE (dTup (dCons (dC (.str "let")) (dCons (dEF (dOp2 addD (dEF (dSl slD (dVarB 0) dNo (dSo (dC (.int 2))))) (dVarB 3))) dNil))))) sNil) sNil) (sSeq (sIf (dAnd (dBo (dOp2 eqD (dEF (dOp2 idxD (dVarB 5) (dC (.int 0)))) (dC (.str "times")))) (dAnd (dBo (dOp2 eqD (dVarB 6) (dC (.int 2)))) (dBo (dOp2 inD (dVarB 4) (dEF (dSl slD (dVarB 5) (dSo (dC (.int 2))) (dSo (dC (.int 4))))))))) (sSeq (sRet (dFE (dTup (dCons (dEF (dOp2 idxD (dEF (dLst (dCons (dC (.str "count")) (dCons (dC (.str "sum")) dNil)))) (dEF (dMethK tupIdxE (dEF (dSl slD (dVarB 5) (dSo (dC (.int 2))) (dSo (dC (.int 4))))) (dCons (dVarB 4) dNil))))) (dCons (dEF (dOp2 addD (dEF (dSl slD (dVarB 0) dNo (dSo (dC (.int 2))))) (dVarB 3))) dNil))))) sNil) sNil) sNil))))
theorem wh__law_nearest_0_eq (Φ : Nat → Fn) (ρ : EnvD) (M : Store) : wh__law_nearest_0 Φ ρ M = (sSeq (sPar 3 6 (dCons (dEF (dSl slD (dVarB 3) dNo (dSo (dEF (dOp1 negD (dC (.int 1))))))) (dCons (dEF (dOp2 idxD (dVarB 3) (dEF (dOp1 negD (dC (.int 1)))))) dNil))) (sSeq (sSet 5 (dFE (dEF (dCall 2 (Φ f__law_at) (dCons (dVar 2) (dCons (dVar 3) dNil)))))) (sSeq (sIf (dAnd (dBo (dOp2 eqD (dEF (dOp2 idxD (dVarB 5) (dC (.int 0)))) (dC (.str "let")))) (dAnd (dBo (dOp2 eqD (dVarB 6) (dC (.int 1)))) (dBo (dOp2 eqD (dEF (dOp2 idxD (dVarB 5) (dC (.int 1)))) (dVarB 4))))) (sSeq (sRet (dFE (dTup (dCons (dC (.str "let")) (dCons (dEF (dOp2 addD (dEF (dSl slD (dVarB 0) dNo (dSo (dC (.int 2))))) (dVarB 3))) dNil))))) sNil) sNil) (sSeq (sIf (dAnd (dBo (dOp2 eqD (dEF (dOp2 idxD (dVarB 5) (dC (.int 0)))) (dC (.str "times")))) (dAnd (dBo (dOp2 eqD (dVarB 6) (dC (.int 2)))) (dBo (dOp2 inD (dVarB 4) (dEF (dSl slD (dVarB 5) (dSo (dC (.int 2))) (dSo (dC (.int 4))))))))) (sSeq (sRet (dFE (dTup (dCons (dEF (dOp2 idxD (dEF (dLst (dCons (dC (.str "count")) (dCons (dC (.str "sum")) dNil)))) (dEF (dMethK tupIdxE (dEF (dSl slD (dVarB 5) (dSo (dC (.int 2))) (dSo (dC (.int 4))))) (dCons (dVarB 4) dNil))))) (dCons (dEF (dOp2 addD (dEF (dSl slD (dVarB 0) dNo (dSo (dC (.int 2))))) (dVarB 3))) dNil))))) sNil) sNil) sNil)))) ρ M := rfl
def wc__law_nearest_0 (Φ : Nat → Fn) : FB := (dBo (dOp2 neD (dVarB 3) (dTup dNil)))
theorem wc__law_nearest_0_eq (Φ : Nat → Fn) (ρ : EnvD) (M : Store) : wc__law_nearest_0 Φ ρ M = (dBo (dOp2 neD (dVarB 3) (dTup dNil))) ρ M := rfl
def m__law_nearest (Φ : Nat → Fn) : FS := (sSeq (sSet 3 (dFE (dEF (dSl slD (dVarB 0) (dSo (dC (.int 2))) dNo)))) (sSeq (sSet 4 (dFE (dEF (dOp2 idxD (dEF (dCall 2 (Φ f__law_at) (dCons (dVar 2) (dCons (dVar 3) dNil)))) (dC (.int 1)))))) (sSeq (sWhile Lw (wc__law_nearest_0 Φ) (wh__law_nearest_0 Φ)) (sSeq (sRet (dOp2 addD (dEF (dOp2 addD (dTup (dCons (dC (.str "param")) dNil)) (dEF (dSl slD (dVarB 0) dNo (dSo (dC (.int 2))))))) (dTup (dCons (dEF (dMethK tupIdxE (dVarB 1) (dCons (dVarB 4) dNil))) dNil)))) sNil))))
def el__law_all_0 (Φ : Nat → Fn) : FD := (dTup (dCons (dTup (dCons (dC (.str "param")) (dCons (dVar 0) (dCons (dVar 1) (dCons (dVar 7) dNil))))) (dCons (dVar 8) dNil)))
theorem el__law_all_0_eq (Φ : Nat → Fn) (ρ : EnvD) (M : Store) : el__law_all_0 Φ ρ M = (dTup (dCons (dTup (dCons (dC (.str "param")) (dCons (dVar 0) (dCons (dVar 1) (dCons (dVar 7) dNil))))) (dCons (dVar 8) dNil))) ρ M := rfl
def lp__law_all_0 (Φ : Nat → Fn) : FS := (sSeq (sSet 6 (dFE (dEF (dCall 2 (Φ f__law_at) (dCons (dVar 3) (dCons (dVar 5) dNil)))))) (sSeq (sIf (dBo (dOp2 eqD (dEF (dOp2 idxD (dVarB 6) (dC (.int 0)))) (dC (.str "let")))) (sSeq (sApp 4 (dTup (dCons (dTup (dCons (dC (.str "let")) (dCons (dEF (dOp2 addD (dTup (dCons (dVar 0) (dCons (dVar 1) dNil))) (dVarB 5))) dNil))) (dCons (dEF (dOp2 idxD (dVarB 6) (dC (.int 1)))) dNil)))) sNil) sNil) (sSeq (sIf (dBo (dOp2 eqD (dEF (dOp2 idxD (dVarB 6) (dC (.int 0)))) (dC (.str "times")))) (sSeq (sSet 4 (dOp2 addD (dVarB 4) (dEF (dLst (dCons (dTup (dCons (dTup (dCons (dC (.str "count")) (dCons (dEF (dOp2 addD (dTup (dCons (dVar 0) (dCons (dVar 1) dNil))) (dVarB 5))) dNil))) (dCons (dEF (dOp2 idxD (dVarB 6) (dC (.int 2)))) dNil))) (dCons (dTup (dCons (dTup (dCons (dC (.str "sum")) (dCons (dEF (dOp2 addD (dTup (dCons (dVar 0) (dCons (dVar 1) dNil))) (dVarB 5))) dNil))) (dCons (dEF (dOp2 idxD (dVarB 6) (dC (.int 3)))) dNil))) dNil)))))) sNil) sNil) sNil)))
theorem lp__law_all_0_eq (Φ : Nat → Fn) (ρ : EnvD) (M : Store) : lp__law_all_0 Φ ρ M = (sSeq (sSet 6 (dFE (dEF (dCall 2 (Φ f__law_at) (dCons (dVar 3) (dCons (dVar 5) dNil)))))) (sSeq (sIf (dBo (dOp2 eqD (dEF (dOp2 idxD (dVarB 6) (dC (.int 0)))) (dC (.str "let")))) (sSeq (sApp 4 (dTup (dCons (dTup (dCons (dC (.str "let")) (dCons (dEF (dOp2 addD (dTup (dCons (dVar 0) (dCons (dVar 1) dNil))) (dVarB 5))) dNil))) (dCons (dEF (dOp2 idxD (dVarB 6) (dC (.int 1)))) dNil)))) sNil) sNil) (sSeq (sIf (dBo (dOp2 eqD (dEF (dOp2 idxD (dVarB 6) (dC (.int 0)))) (dC (.str "times")))) (sSeq (sSet 4 (dOp2 addD (dVarB 4) (dEF (dLst (dCons (dTup (dCons (dTup (dCons (dC (.str "count")) (dCons (dEF (dOp2 addD (dTup (dCons (dVar 0) (dCons (dVar 1) dNil))) (dVarB 5))) dNil))) (dCons (dEF (dOp2 idxD (dVarB 6) (dC (.int 2)))) dNil))) (dCons (dTup (dCons (dTup (dCons (dC (.str "sum")) (dCons (dEF (dOp2 addD (dTup (dCons (dVar 0) (dCons (dVar 1) dNil))) (dVarB 5))) dNil))) (dCons (dEF (dOp2 idxD (dVarB 6) (dC (.int 3)))) dNil))) dNil)))))) sNil) sNil) sNil))) ρ M := rfl
def m__law_all (Φ : Nat → Fn) : FS := (sSeq (sSet 4 (dLc (dEnumA (dCons (dVar 2) dNil)) (bTup [7, 8]) dYes (el__law_all_0 Φ) [7, 8])) (sSeq (sFor (dIt (dEF (dCall 1 (Φ f__law_rows) (dCons (dVar 3) dNil)))) (bName 5) (lp__law_all_0 Φ)) (sSeq (sRetV 4) sNil)))
def el__law_right_0 (Φ : Nat → Fn) : FD := (dEF (dOp2 addD (dTup (dCons (dVar 1) (dCons (dVar 2) dNil))) (dVarB 13)))
theorem el__law_right_0_eq (Φ : Nat → Fn) (ρ : EnvD) (M : Store) : el__law_right_0 Φ ρ M = (dEF (dOp2 addD (dTup (dCons (dVar 1) (dCons (dVar 2) dNil))) (dVarB 13))) ρ M := rfl
def cd__law_right_0 (Φ : Nat → Fn) : FB := (dBo (dOp2 eqD (dEF (dOp2 idxD (dEF (dCall 2 (Φ f__law_at) (dCons (dVar 8) (dCons (dVar 13) dNil)))) (dC (.int 0)))) (dC (.str "use"))))
theorem cd__law_right_0_eq (Φ : Nat → Fn) (ρ : EnvD) (M : Store) : cd__law_right_0 Φ ρ M = (dBo (dOp2 eqD (dEF (dOp2 idxD (dEF (dCall 2 (Φ f__law_at) (dCons (dVar 8) (dCons (dVar 13) dNil)))) (dC (.int 0)))) (dC (.str "use")))) ρ M := rfl
def el__law_right_1 (Φ : Nat → Fn) : FD := (dTup (dCons (dVar 14) (dCons (dEF (dCall 3 (Φ f__law_nearest) (dCons (dVar 14) (dCons (dVar 7) (dCons (dVar 8) dNil))))) dNil)))
theorem el__law_right_1_eq (Φ : Nat → Fn) (ρ : EnvD) (M : Store) : el__law_right_1 Φ ρ M = (dTup (dCons (dVar 14) (dCons (dEF (dCall 3 (Φ f__law_nearest) (dCons (dVar 14) (dCons (dVar 7) (dCons (dVar 8) dNil))))) dNil))) ρ M := rfl
def el__law_right_2 (Φ : Nat → Fn) : FD := (dEF (dCall 2 (Φ f_binder_of) (dCons (dVar 0) (dCons (dVar 14) dNil))))
theorem el__law_right_2_eq (Φ : Nat → Fn) (ρ : EnvD) (M : Store) : el__law_right_2 Φ ρ M = (dEF (dCall 2 (Φ f_binder_of) (dCons (dVar 0) (dCons (dVar 14) dNil)))) ρ M := rfl
def el__law_right_3 (Φ : Nat → Fn) : FD := (dVar 16)
theorem el__law_right_3_eq (Φ : Nat → Fn) (ρ : EnvD) (M : Store) : el__law_right_3 Φ ρ M = (dVar 16) ρ M := rfl
def el__law_right_4 (Φ : Nat → Fn) : FD := (dVar 14)
theorem el__law_right_4_eq (Φ : Nat → Fn) (ρ : EnvD) (M : Store) : el__law_right_4 Φ ρ M = (dVar 14) ρ M := rfl
def cd__law_right_1 (Φ : Nat → Fn) : FB := (dBo (dOp2 eqD (dVarB 16) (dVarB 9)))
theorem cd__law_right_1_eq (Φ : Nat → Fn) (ρ : EnvD) (M : Store) : cd__law_right_1 Φ ρ M = (dBo (dOp2 eqD (dVarB 16) (dVarB 9))) ρ M := rfl
def lp__law_right_0 (Φ : Nat → Fn) : FS := (sSeq (sSet 15 (dCall 2 (Φ f_uses_of) (dCons (dVar 0) (dCons (dVar 9) dNil)))) (sSeq (sIf (dOr (dNot (dTru (dEF (dOp1 (isiD "list") (dVarB 15))))) (dOr (dBo (dOp2 neD (dEF (dPr reprD (dCons (dVarB 15) dNil))) (dEF (dPr reprD (dCons (dVarB 11) dNil))))) (dBo (dOp2 neD (dEF (dCall 2 (Φ f_name_of) (dCons (dVar 0) (dCons (dVar 9) dNil)))) (dVarB 10))))) (sSeq (sRet (dFE (dC (.bl false)))) sNil) sNil) (sSeq (sApp 15 (dTup dNil)) sNil)))
theorem lp__law_right_0_eq (Φ : Nat → Fn) (ρ : EnvD) (M : Store) : lp__law_right_0 Φ ρ M = (sSeq (sSet 15 (dCall 2 (Φ f_uses_of) (dCons (dVar 0) (dCons (dVar 9) dNil)))) (sSeq (sIf (dOr (dNot (dTru (dEF (dOp1 (isiD "list") (dVarB 15))))) (dOr (dBo (dOp2 neD (dEF (dPr reprD (dCons (dVarB 15) dNil))) (dEF (dPr reprD (dCons (dVarB 11) dNil))))) (dBo (dOp2 neD (dEF (dCall 2 (Φ f_name_of) (dCons (dVar 0) (dCons (dVar 9) dNil)))) (dVarB 10))))) (sSeq (sRet (dFE (dC (.bl false)))) sNil) sNil) (sSeq (sApp 15 (dTup dNil)) sNil))) ρ M := rfl
def lp__law_right_1 (Φ : Nat → Fn) : FS := (sSeq (sFz 4 (sSet 11 (dLc (dIt (dVar 4)) (bTup [14, 16]) (cd__law_right_1 Φ) (el__law_right_4 Φ) [14, 16]))) (sSeq (sFor (dRng1 (dCons (dC (.int 2)) dNil)) (bName 12) (lp__law_right_0 Φ)) (sSeq (sSet 5 (dFE (dEF (dOp2 addD (dVarB 5) (dVarB 11))))) sNil)))
theorem lp__law_right_1_eq (Φ : Nat → Fn) (ρ : EnvD) (M : Store) : lp__law_right_1 Φ ρ M = (sSeq (sFz 4 (sSet 11 (dLc (dIt (dVar 4)) (bTup [14, 16]) (cd__law_right_1 Φ) (el__law_right_4 Φ) [14, 16]))) (sSeq (sFor (dRng1 (dCons (dC (.int 2)) dNil)) (bName 12) (lp__law_right_0 Φ)) (sSeq (sSet 5 (dFE (dEF (dOp2 addD (dVarB 5) (dVarB 11))))) sNil))) ρ M := rfl
def m__law_right (Φ : Nat → Fn) : FS := (sSeq (sAsg (bTup [6, 7, 8]) (dEF (dCall 3 (Φ f__law_found) (dCons (dVar 0) (dCons (dVar 1) (dCons (dVar 2) dNil)))))) (sSeq (sSet 3 (dLc (dIt (dEF (dCall 1 (Φ f__law_rows) (dCons (dVar 8) dNil)))) (bName 13) (cd__law_right_0 Φ) (el__law_right_0 Φ) [13])) (sSeq (sFz 3 (sSet 4 (dLc (dIt (dVar 3)) (bName 14) dYes (el__law_right_1 Φ) [14]))) (sSeq (sFz 4 (sFz 3 (sIf (dBo (dOp2 neD (dEF (dLc (dIt (dVar 3)) (bName 14) dYes (el__law_right_2 Φ) [14])) (dEF (dLc (dIt (dVar 4)) (bTup [14, 16]) dYes (el__law_right_3 Φ) [14, 16])))) (sSeq (sRet (dFE (dC (.bl false)))) sNil) sNil))) (sSeq (sSet 5 (dFE (dEF (dLst dNil)))) (sSeq (sFor (dIt (dEF (dCall 4 (Φ f__law_all) (dCons (dVar 1) (dCons (dVar 2) (dCons (dVar 7) (dCons (dVar 8) dNil))))))) (bTup [9, 10]) (lp__law_right_1 Φ)) (sSeq (sRet (dOp2 eqD (dEF (dPr sortWD (dCons (dVarB 5) dNil))) (dEF (dPr sortWD (dCons (dVarB 3) dNil))))) sNil)))))))
def lp_law_0 (Φ : Nat → Fn) : FS := (sSeq (sIf (dNot (dTru (dEF (dCall 3 (Φ f__law_right) (dCons (dVar 4) (dCons (dVar 5) (dCons (dEF (dOp2 idxD (dVarB 7) (dC (.int 0)))) dNil))))))) (sSeq (sRet (dFE (dC (.bl false)))) sNil) sNil) sNil)
theorem lp_law_0_eq (Φ : Nat → Fn) (ρ : EnvD) (M : Store) : lp_law_0 Φ ρ M = (sSeq (sIf (dNot (dTru (dEF (dCall 3 (Φ f__law_right) (dCons (dVar 4) (dCons (dVar 5) (dCons (dEF (dOp2 idxD (dVarB 7) (dC (.int 0)))) dNil))))))) (sSeq (sRet (dFE (dC (.bl false)))) sNil) sNil) sNil) ρ M := rfl
def lp_law_1 (Φ : Nat → Fn) : FS := (sSeq (sFor (dIt (dVar 6)) (bName 7) (lp_law_0 Φ)) sNil)
theorem lp_law_1_eq (Φ : Nat → Fn) (ρ : EnvD) (M : Store) : lp_law_1 Φ ρ M = (sSeq (sFor (dIt (dVar 6)) (bName 7) (lp_law_0 Φ)) sNil) ρ M := rfl
def lp_law_2 (Φ : Nat → Fn) : FS := (sSeq (sSet 4 (dFE (dEF (dCall 3 (Φ f__law_program) (dCons (dVar 2) (dCons (dVar 3) (dCons (dC (.int 3)) dNil))))))) (sSeq (sFor (dIt (dVar 4)) (bTup [5, 6]) (lp_law_1 Φ)) sNil))
theorem lp_law_2_eq (Φ : Nat → Fn) (ρ : EnvD) (M : Store) : lp_law_2 Φ ρ M = (sSeq (sSet 4 (dFE (dEF (dCall 3 (Φ f__law_program) (dCons (dVar 2) (dCons (dVar 3) (dCons (dC (.int 3)) dNil))))))) (sSeq (sFor (dIt (dVar 4)) (bTup [5, 6]) (lp_law_1 Φ)) sNil)) ρ M := rfl
def m_law (Φ : Nat → Fn) : FS := (sSeq (sPar 2 3 (dCons (dEF (dPr listD (dCons (dVarB 0) dNil))) (dCons (dEF (dRef (dLst (dCons (dEF (dOp1 negD (dC (.int 1)))) dNil)))) dNil))) (sSeq (sFor (dRng1 (dCons (dEF (dOp2 addD (dC (.int 1)) (dEF (dPr min2D (dCons (dC (.int 5)) (dCons (dEF (dPr lenD (dCons (dVarB 0) dNil))) dNil)))))) dNil)) (bName 1) (lp_law_2 Φ)) (sSeq (sRet (dFE (dC (.bl true)))) sNil)))
def semS (Φ : Nat → Fn) (i : Nat) : Fn := match i with
    | 0 => runF 2 (m_parts Φ)
    | 1 => runF 5 (m_functions Φ)
    | 2 => runF 4 (m_function Φ)
    | 3 => runF 2 (m_is_spot Φ)
    | 4 => runF 4 (m_part_at Φ)
    | 5 => runF 4 (m_at_way Φ)
    | 6 => runF 5 (m_more_round Φ)
    | 7 => runF 6 (m_uses_in Φ)
    | 8 => runF 5 (m_params_round Φ)
    | 9 => runF 9 (m_round_way Φ)
    | 10 => runF 5 (m_all_uses Φ)
    | 11 => runF 2 (m_binder_of Φ)
    | 12 => runF 3 (m_home_of Φ)
    | 13 => runF 5 (m_uses_of Φ)
    | 14 => runF 3 (m_name_of Φ)
    | 15 => runF 6 (m__law_cell Φ)
    | 16 => runF 5 (m__law_names Φ)
    | 17 => runF 1 (m__law_number Φ)
    | 18 => runF 3 (m__law_leaf Φ)
    | 19 => runF 8 (m__law_op Φ)
    | 20 => runF 15 (m__law_times Φ)
    | 21 => runF 13 (m__law_call Φ)
    | 22 => runF 13 (m__law_expression Φ)
    | 23 => runF 17 (m__law_program Φ)
    | 24 => runF 2 (m__law_spots Φ)
    | 25 => runF 2 (m__law_parts Φ)
    | 26 => runF 5 (m__law_rows Φ)
    | 27 => runF 6 (m__law_found Φ)
    | 28 => runF 3 (m__law_at Φ)
    | 29 => runF 7 (m__law_nearest Φ)
    | 30 => runF 9 (m__law_all Φ)
    | 31 => runF 17 (m__law_right Φ)
    | 32 => runF 8 (m_law Φ)
    | _ => fun _ _ => .bad
def sem : Nat → Nat → Fn
  | 0 => fun _ _ _ => .bad
  | k + 1 => semS (sem k)
theorem e_parts (k : Nat) : sem (k + 1) f_parts = runF 2 (m_parts (sem k)) := rfl
theorem e_functions (k : Nat) : sem (k + 1) f_functions = runF 5 (m_functions (sem k)) := rfl
theorem e_function (k : Nat) : sem (k + 1) f_function = runF 4 (m_function (sem k)) := rfl
theorem e_is_spot (k : Nat) : sem (k + 1) f_is_spot = runF 2 (m_is_spot (sem k)) := rfl
theorem e_part_at (k : Nat) : sem (k + 1) f_part_at = runF 4 (m_part_at (sem k)) := rfl
theorem e_at_way (k : Nat) : sem (k + 1) f_at_way = runF 4 (m_at_way (sem k)) := rfl
theorem e_more_round (k : Nat) : sem (k + 1) f_more_round = runF 5 (m_more_round (sem k)) := rfl
theorem e_uses_in (k : Nat) : sem (k + 1) f_uses_in = runF 6 (m_uses_in (sem k)) := rfl
theorem e_params_round (k : Nat) : sem (k + 1) f_params_round = runF 5 (m_params_round (sem k)) := rfl
theorem e_round_way (k : Nat) : sem (k + 1) f_round_way = runF 9 (m_round_way (sem k)) := rfl
theorem e_all_uses (k : Nat) : sem (k + 1) f_all_uses = runF 5 (m_all_uses (sem k)) := rfl
theorem e_binder_of (k : Nat) : sem (k + 1) f_binder_of = runF 2 (m_binder_of (sem k)) := rfl
theorem e_home_of (k : Nat) : sem (k + 1) f_home_of = runF 3 (m_home_of (sem k)) := rfl
theorem e_uses_of (k : Nat) : sem (k + 1) f_uses_of = runF 5 (m_uses_of (sem k)) := rfl
theorem e_name_of (k : Nat) : sem (k + 1) f_name_of = runF 3 (m_name_of (sem k)) := rfl
theorem e__law_cell (k : Nat) : sem (k + 1) f__law_cell = runF 6 (m__law_cell (sem k)) := rfl
theorem e__law_names (k : Nat) : sem (k + 1) f__law_names = runF 5 (m__law_names (sem k)) := rfl
theorem e__law_number (k : Nat) : sem (k + 1) f__law_number = runF 1 (m__law_number (sem k)) := rfl
theorem e__law_leaf (k : Nat) : sem (k + 1) f__law_leaf = runF 3 (m__law_leaf (sem k)) := rfl
theorem e__law_op (k : Nat) : sem (k + 1) f__law_op = runF 8 (m__law_op (sem k)) := rfl
theorem e__law_times (k : Nat) : sem (k + 1) f__law_times = runF 15 (m__law_times (sem k)) := rfl
theorem e__law_call (k : Nat) : sem (k + 1) f__law_call = runF 13 (m__law_call (sem k)) := rfl
theorem e__law_expression (k : Nat) : sem (k + 1) f__law_expression = runF 13 (m__law_expression (sem k)) := rfl
theorem e__law_program (k : Nat) : sem (k + 1) f__law_program = runF 17 (m__law_program (sem k)) := rfl
theorem e__law_spots (k : Nat) : sem (k + 1) f__law_spots = runF 2 (m__law_spots (sem k)) := rfl
theorem e__law_parts (k : Nat) : sem (k + 1) f__law_parts = runF 2 (m__law_parts (sem k)) := rfl
theorem e__law_rows (k : Nat) : sem (k + 1) f__law_rows = runF 5 (m__law_rows (sem k)) := rfl
theorem e__law_found (k : Nat) : sem (k + 1) f__law_found = runF 6 (m__law_found (sem k)) := rfl
theorem e__law_at (k : Nat) : sem (k + 1) f__law_at = runF 3 (m__law_at (sem k)) := rfl
theorem e__law_nearest (k : Nat) : sem (k + 1) f__law_nearest = runF 7 (m__law_nearest (sem k)) := rfl
theorem e__law_all (k : Nat) : sem (k + 1) f__law_all = runF 9 (m__law_all (sem k)) := rfl
theorem e__law_right (k : Nat) : sem (k + 1) f__law_right = runF 17 (m__law_right (sem k)) := rfl
theorem e_law (k : Nat) : sem (k + 1) f_law = runF 8 (m_law (sem k)) := rfl
structure Top (w : World) (K : W.Frag) (mg : Str → Option Value) where
  a_parts : Addr
  d_parts : FuncData
  F_parts : Fun K "parts" "parts" s_parts a_parts d_parts
  b_parts : Binds K d_parts ["expression"] []
  m_parts : mg "parts" = some (.ref a_parts)
  a_functions : Addr
  d_functions : FuncData
  F_functions : Fun K "functions" "functions" s_functions a_functions d_functions
  b_functions : Binds K d_functions ["program"] []
  m_functions : mg "functions" = some (.ref a_functions)
  a_function : Addr
  d_function : FuncData
  F_function : Fun K "function" "function" s_function a_function d_function
  b_function : Binds K d_function ["program", "m", "f"] []
  m_function : mg "function" = some (.ref a_function)
  a_is_spot : Addr
  d_is_spot : FuncData
  F_is_spot : Fun K "is_spot" "is_spot" s_is_spot a_is_spot d_is_spot
  b_is_spot : Binds K d_is_spot ["thing", "many"] []
  m_is_spot : mg "is_spot" = some (.ref a_is_spot)
  a_part_at : Addr
  d_part_at : FuncData
  F_part_at : Fun K "part_at" "part_at" s_part_at a_part_at d_part_at
  b_part_at : Binds K d_part_at ["expression", "row"] []
  m_part_at : mg "part_at" = some (.ref a_part_at)
  a_at_way : Addr
  d_at_way : FuncData
  F_at_way : Fun K "at_way" "at_way" s_at_way a_at_way d_at_way
  b_at_way : Binds K d_at_way ["program", "way"] []
  m_at_way : mg "at_way" = some (.ref a_at_way)
  a_more_round : Addr
  d_more_round : FuncData
  F_more_round : Fun K "more_round" "more_round" s_more_round a_more_round d_more_round
  b_more_round : Binds K d_more_round ["expression", "way", "around", "spot"] []
  m_more_round : mg "more_round" = some (.ref a_more_round)
  a_uses_in : Addr
  d_uses_in : FuncData
  F_uses_in : Fun K "uses_in" "uses_in" s_uses_in a_uses_in d_uses_in
  b_uses_in : Binds K d_uses_in ["expression", "way", "around"] []
  m_uses_in : mg "uses_in" = some (.ref a_uses_in)
  a_params_round : Addr
  d_params_round : FuncData
  F_params_round : Fun K "params_round" "params_round" s_params_round a_params_round d_params_round
  b_params_round : Binds K d_params_round ["m", "f", "params"] []
  m_params_round : mg "params_round" = some (.ref a_params_round)
  a_round_way : Addr
  d_round_way : FuncData
  F_round_way : Fun K "round_way" "round_way" s_round_way a_round_way d_round_way
  b_round_way : Binds K d_round_way ["program", "way"] []
  m_round_way : mg "round_way" = some (.ref a_round_way)
  a_all_uses : Addr
  d_all_uses : FuncData
  F_all_uses : Fun K "all_uses" "all_uses" s_all_uses a_all_uses d_all_uses
  b_all_uses : Binds K d_all_uses ["program", "m", "f"] []
  m_all_uses : mg "all_uses" = some (.ref a_all_uses)
  a_binder_of : Addr
  d_binder_of : FuncData
  F_binder_of : Fun K "binder_of" "binder_of" s_binder_of a_binder_of d_binder_of
  b_binder_of : Binds K d_binder_of ["program", "way"] []
  m_binder_of : mg "binder_of" = some (.ref a_binder_of)
  a_home_of : Addr
  d_home_of : FuncData
  F_home_of : Fun K "home_of" "home_of" s_home_of a_home_of d_home_of
  b_home_of : Binds K d_home_of ["program", "thing"] []
  m_home_of : mg "home_of" = some (.ref a_home_of)
  a_uses_of : Addr
  d_uses_of : FuncData
  F_uses_of : Fun K "uses_of" "uses_of" s_uses_of a_uses_of d_uses_of
  b_uses_of : Binds K d_uses_of ["program", "binder"] []
  m_uses_of : mg "uses_of" = some (.ref a_uses_of)
  a_name_of : Addr
  d_name_of : FuncData
  F_name_of : Fun K "name_of" "name_of" s_name_of a_name_of d_name_of
  b_name_of : Binds K d_name_of ["program", "binder"] []
  m_name_of : mg "name_of" = some (.ref a_name_of)
  a__law_cell : Addr
  d__law_cell : FuncData
  F__law_cell : Fun K "_law_cell" "_law_cell" s__law_cell a__law_cell d__law_cell
  b__law_cell : Binds K d__law_cell ["_law_cells", "_law_spot"] []
  m__law_cell : mg "_law_cell" = some (.ref a__law_cell)
  a__law_names : Addr
  d__law_names : FuncData
  F__law_names : Fun K "_law_names" "_law_names" s__law_names a__law_names d__law_names
  b__law_names : Binds K d__law_names ["_law_n"] []
  m__law_names : mg "_law_names" = some (.ref a__law_names)
  a__law_number : Addr
  d__law_number : FuncData
  F__law_number : Fun K "_law_number" "_law_number" s__law_number a__law_number d__law_number
  b__law_number : Binds K d__law_number ["_law_n"] []
  m__law_number : mg "_law_number" = some (.ref a__law_number)
  a__law_leaf : Addr
  d__law_leaf : FuncData
  F__law_leaf : Fun K "_law_leaf" "_law_leaf" s__law_leaf a__law_leaf d__law_leaf
  b__law_leaf : Binds K d__law_leaf ["_law_at_here", "_law_scope", "_law_n"] []
  m__law_leaf : mg "_law_leaf" = some (.ref a__law_leaf)
  a__law_op : Addr
  d__law_op : FuncData
  F__law_op : Fun K "_law_op" "_law_op" s__law_op a__law_op d__law_op
  b__law_op : Binds K d__law_op ["_law_cells", "_law_spot", "_law_at_here", "_law_scope", "_law_deep", "_law_n"] []
  m__law_op : mg "_law_op" = some (.ref a__law_op)
  a__law_times : Addr
  d__law_times : FuncData
  F__law_times : Fun K "_law_times" "_law_times" s__law_times a__law_times d__law_times
  b__law_times : Binds K d__law_times ["_law_cells", "_law_spot", "_law_at_here", "_law_scope", "_law_deep", "_law_n"] []
  m__law_times : mg "_law_times" = some (.ref a__law_times)
  a__law_call : Addr
  d__law_call : FuncData
  F__law_call : Fun K "_law_call" "_law_call" s__law_call a__law_call d__law_call
  b__law_call : Binds K d__law_call ["_law_cells", "_law_spot", "_law_at_here", "_law_scope", "_law_deep", "_law_n"] []
  m__law_call : mg "_law_call" = some (.ref a__law_call)
  a__law_expression : Addr
  d__law_expression : FuncData
  F__law_expression : Fun K "_law_expression" "_law_expression" s__law_expression a__law_expression d__law_expression
  b__law_expression : Binds K d__law_expression ["_law_cells", "_law_spot", "_law_at_here", "_law_scope", "_law_deep"] []
  m__law_expression : mg "_law_expression" = some (.ref a__law_expression)
  a__law_program : Addr
  d__law_program : FuncData
  F__law_program : Fun K "_law_program" "_law_program" s__law_program a__law_program d__law_program
  b__law_program : Binds K d__law_program ["_law_cells", "_law_spot", "_law_most"] []
  m__law_program : mg "_law_program" = some (.ref a__law_program)
  a__law_spots : Addr
  d__law_spots : FuncData
  F__law_spots : Fun K "_law_spots" "_law_spots" s__law_spots a__law_spots d__law_spots
  b__law_spots : Binds K d__law_spots ["_law_e"] []
  m__law_spots : mg "_law_spots" = some (.ref a__law_spots)
  a__law_parts : Addr
  d__law_parts : FuncData
  F__law_parts : Fun K "_law_parts" "_law_parts" s__law_parts a__law_parts d__law_parts
  b__law_parts : Binds K d__law_parts ["_law_e"] []
  m__law_parts : mg "_law_parts" = some (.ref a__law_parts)
  a__law_rows : Addr
  d__law_rows : FuncData
  F__law_rows : Fun K "_law_rows" "_law_rows" s__law_rows a__law_rows d__law_rows
  b__law_rows : Binds K d__law_rows ["_law_e"] []
  m__law_rows : mg "_law_rows" = some (.ref a__law_rows)
  a__law_found : Addr
  d__law_found : FuncData
  F__law_found : Fun K "_law_found" "_law_found" s__law_found a__law_found d__law_found
  b__law_found : Binds K d__law_found ["_law_program_here", "_law_m", "_law_f"] []
  m__law_found : mg "_law_found" = some (.ref a__law_found)
  a__law_at : Addr
  d__law_at : FuncData
  F__law_at : Fun K "_law_at" "_law_at" s__law_at a__law_at d__law_at
  b__law_at : Binds K d__law_at ["_law_body", "_law_row"] []
  m__law_at : mg "_law_at" = some (.ref a__law_at)
  a__law_nearest : Addr
  d__law_nearest : FuncData
  F__law_nearest : Fun K "_law_nearest" "_law_nearest" s__law_nearest a__law_nearest d__law_nearest
  b__law_nearest : Binds K d__law_nearest ["_law_way", "_law_params", "_law_body"] []
  m__law_nearest : mg "_law_nearest" = some (.ref a__law_nearest)
  a__law_all : Addr
  d__law_all : FuncData
  F__law_all : Fun K "_law_all" "_law_all" s__law_all a__law_all d__law_all
  b__law_all : Binds K d__law_all ["_law_m", "_law_f", "_law_params", "_law_body"] []
  m__law_all : mg "_law_all" = some (.ref a__law_all)
  a__law_right : Addr
  d__law_right : FuncData
  F__law_right : Fun K "_law_right" "_law_right" s__law_right a__law_right d__law_right
  b__law_right : Binds K d__law_right ["_law_program_here", "_law_m", "_law_f"] []
  m__law_right : mg "_law_right" = some (.ref a__law_right)
  a_law : Addr
  d_law : FuncData
  F_law : Fun K "law" "law" s_law a_law d_law
  b_law : Binds K d_law ["_law_script"] []
  m_law : mg "law" = some (.ref a_law)
  bb_law : ∀ (s : Shared) (v : Value), BindsTo s d_law ⟨[v], []⟩ [("_law_script", v)]
  z_list : mg "list" = none
  z_isinstance : mg "isinstance" = none
  z_bool : mg "bool" = none
  z_int : mg "int" = none
  z_len : mg "len" = none
  z_all : mg "all" = none
  z_str : mg "str" = none
  z_tuple : mg "tuple" = none
  z_dict : mg "dict" = none
  z_enumerate : mg "enumerate" = none
  z_range : mg "range" = none
  z_max : mg "max" = none
  z_repr : mg "repr" = none
  z_sorted : mg "sorted" = none
  z_min : mg "min" = none
  q_SPOTS : Addr
  c_SPOTS : mg "SPOTS" = some (.ref q_SPOTS)
  t_SPOTS : TabOk K w q_SPOTS k_SPOTS
section
variable {P : Program} {w : World} {K : W.Frag} {mg : Str → Option Value} {base : Heap}
structure Oks (P : Program) (w : World) (base : Heap) (T : Top w K mg) (k : Nat) : Prop where
  i_parts : GOk P w K mg base CX0 k T.a_parts T.d_parts ["expression"] (spD K W0 1 (sem k f_parts))
  i_functions : GOk P w K mg base CX0 k T.a_functions T.d_functions ["program"] (spD K W0 1 (sem k f_functions))
  i_function : GOk P w K mg base CX0 k T.a_function T.d_function ["program", "m", "f"] (spD K W0 3 (sem k f_function))
  i_is_spot : GOk P w K mg base CX0 k T.a_is_spot T.d_is_spot ["thing", "many"] (spD K W0 2 (sem k f_is_spot))
  i_part_at : GOk P w K mg base CX0 k T.a_part_at T.d_part_at ["expression", "row"] (spD K W0 2 (sem k f_part_at))
  i_at_way : GOk P w K mg base CX0 k T.a_at_way T.d_at_way ["program", "way"] (spD K W0 2 (sem k f_at_way))
  i_more_round : GOk P w K mg base CX0 k T.a_more_round T.d_more_round ["expression", "way", "around", "spot"] (spD K W0 4 (sem k f_more_round))
  i_uses_in : GOk P w K mg base CX0 k T.a_uses_in T.d_uses_in ["expression", "way", "around"] (spD K W0 3 (sem k f_uses_in))
  i_params_round : GOk P w K mg base CX0 k T.a_params_round T.d_params_round ["m", "f", "params"] (spD K W0 3 (sem k f_params_round))
  i_round_way : GOk P w K mg base CX0 k T.a_round_way T.d_round_way ["program", "way"] (spD K W0 2 (sem k f_round_way))
  i_all_uses : GOk P w K mg base CX0 k T.a_all_uses T.d_all_uses ["program", "m", "f"] (spD K W0 3 (sem k f_all_uses))
  i_binder_of : GOk P w K mg base CX0 k T.a_binder_of T.d_binder_of ["program", "way"] (spD K W0 2 (sem k f_binder_of))
  i_home_of : GOk P w K mg base CX0 k T.a_home_of T.d_home_of ["program", "thing"] (spD K W0 2 (sem k f_home_of))
  i_uses_of : GOk P w K mg base CX0 k T.a_uses_of T.d_uses_of ["program", "binder"] (spD K W0 2 (sem k f_uses_of))
  i_name_of : GOk P w K mg base CX0 k T.a_name_of T.d_name_of ["program", "binder"] (spD K W0 2 (sem k f_name_of))
  i__law_cell : GOk P w K mg base CX0 k T.a__law_cell T.d__law_cell ["_law_cells", "_law_spot"] (spD K W0 2 (sem k f__law_cell))
  i__law_names : GOk P w K mg base CX0 k T.a__law_names T.d__law_names ["_law_n"] (spD K W0 1 (sem k f__law_names))
  i__law_number : GOk P w K mg base CX0 k T.a__law_number T.d__law_number ["_law_n"] (spD K W0 1 (sem k f__law_number))
  i__law_leaf : GOk P w K mg base CX0 k T.a__law_leaf T.d__law_leaf ["_law_at_here", "_law_scope", "_law_n"] (spD K W0 3 (sem k f__law_leaf))
  i__law_op : GOk P w K mg base CX0 k T.a__law_op T.d__law_op ["_law_cells", "_law_spot", "_law_at_here", "_law_scope", "_law_deep", "_law_n"] (spD K W0 6 (sem k f__law_op))
  i__law_times : GOk P w K mg base CX0 k T.a__law_times T.d__law_times ["_law_cells", "_law_spot", "_law_at_here", "_law_scope", "_law_deep", "_law_n"] (spD K W0 6 (sem k f__law_times))
  i__law_call : GOk P w K mg base CX0 k T.a__law_call T.d__law_call ["_law_cells", "_law_spot", "_law_at_here", "_law_scope", "_law_deep", "_law_n"] (spD K W0 6 (sem k f__law_call))
  i__law_expression : GOk P w K mg base CX0 k T.a__law_expression T.d__law_expression ["_law_cells", "_law_spot", "_law_at_here", "_law_scope", "_law_deep"] (spD K W0 5 (sem k f__law_expression))
  i__law_program : GOk P w K mg base CX0 k T.a__law_program T.d__law_program ["_law_cells", "_law_spot", "_law_most"] (spD K W0 3 (sem k f__law_program))
  i__law_spots : GOk P w K mg base CX0 k T.a__law_spots T.d__law_spots ["_law_e"] (spD K W0 1 (sem k f__law_spots))
  i__law_parts : GOk P w K mg base CX0 k T.a__law_parts T.d__law_parts ["_law_e"] (spD K W0 1 (sem k f__law_parts))
  i__law_rows : GOk P w K mg base CX0 k T.a__law_rows T.d__law_rows ["_law_e"] (spD K W0 1 (sem k f__law_rows))
  i__law_found : GOk P w K mg base CX0 k T.a__law_found T.d__law_found ["_law_program_here", "_law_m", "_law_f"] (spD K W0 3 (sem k f__law_found))
  i__law_at : GOk P w K mg base CX0 k T.a__law_at T.d__law_at ["_law_body", "_law_row"] (spD K W0 2 (sem k f__law_at))
  i__law_nearest : GOk P w K mg base CX0 k T.a__law_nearest T.d__law_nearest ["_law_way", "_law_params", "_law_body"] (spD K W0 3 (sem k f__law_nearest))
  i__law_all : GOk P w K mg base CX0 k T.a__law_all T.d__law_all ["_law_m", "_law_f", "_law_params", "_law_body"] (spD K W0 4 (sem k f__law_all))
  i__law_right : GOk P w K mg base CX0 k T.a__law_right T.d__law_right ["_law_program_here", "_law_m", "_law_f"] (spD K W0 3 (sem k f__law_right))
  i_law : GOk P w K mg base CX0 k T.a_law T.d_law ["_law_script"] (spD K W0 1 (sem k f_law))
theorem ok_parts (T : Top w K mg) {k : Nat} (ih : Oks P w base T k) : GOk P w K mg base CX0 (k + 1) T.a_parts T.d_parts ["expression"] (spD K W0 1 (sem (k + 1) f_parts)) := by
  rw [e_parts]
  refine g_fn (N := ["expression", "spot"]) (ps := ["expression"]) (g := m_parts (sem k)) T.F_parts sc_parts (fun cdv A outer s H EX hr hq => ?_)
  have hc := hr
  exact (s_seq (pss_cons (s_if (ps_if (x_test2 (pt_cmpR (op_eqW (un_of hr)) (c_EB (x_ix (pe_ix ix_seq (x_varB (pv 0)) (c_FB (x_c pe_int fun _ _ => .int _)) (fun _ _ => rfl)))) (c_FB (x_c pe_str fun _ _ => .str _)) rfl) p_eq) (s_seq (pss_cons (s_ret (ps_ret (x_prim (pe_callTy call_list_of (by rfl) T.z_list bt_list (xr_cons (pa_cons (c_EB (x_ix (pe_ix ix_seq (x_varB (pv 0)) (c_FB (x_c pe_int fun _ _ => .int _)) (fun _ _ => rfl)))) (xr_nil pa_nil)))) p_list))) (s_nil pss_nil))) (s_nil pss_nil))) (s_seq (pss_cons (s_ret (ps_ret (x_lc (by decide) (pe_lc (own := [("spot", 1)]) rfl sc_parts.nd (x_it (PI.or (pi_list (x_tab T.t_SPOTS rfl (pe_ix ix_kdict (pe_glob (v := .ref T.q_SPOTS) (by rfl) T.c_SPOTS rfl) (c_EB (x_ix (pe_ix ix_seq (x_varB (pv 0)) (c_FB (x_c pe_int fun _ _ => .int _)) (fun _ _ => rfl)))) (fun _ _ => rfl)))) (PI.or (pi_tup (x_tab T.t_SPOTS rfl (pe_ix ix_kdict (pe_glob (v := .ref T.q_SPOTS) (by rfl) T.c_SPOTS rfl) (c_EB (x_ix (pe_ix ix_seq (x_varB (pv 0)) (c_FB (x_c pe_int fun _ _ => .int _)) (fun _ _ => rfl)))) (fun _ _ => rfl)))) (pi_str (x_tab T.t_SPOTS rfl (pe_ix ix_kdict (pe_glob (v := .ref T.q_SPOTS) (by rfl) T.c_SPOTS rfl) (c_EB (x_ix (pe_ix ix_seq (x_varB (pv 0)) (c_FB (x_c pe_int fun _ _ => .int _)) (fun _ _ => rfl)))) (fun _ _ => rfl))))))) (blkOk_by (N := ["expression", "spot"]) (sc := defScope s_parts) (by decide +kernel)) (fun _ _ _ _ _ => (x_gname (pg_name (i := 1) sc_parts.nd rfl (by first | exact Or.inl rfl | exact Or.inr rfl)))) (fun _ _ _ _ _ => x_yes) (fun _ _ _ _ _ => (c_EF (x_ix (pe_ix ix_seq (x_varB (pv 0)) (x_varB (pv 1)) (fun _ _ => rfl))))))))) (s_nil pss_nil)))))
theorem ok_functions (T : Top w K mg) {k : Nat} (ih : Oks P w base T k) : GOk P w K mg base CX0 (k + 1) T.a_functions T.d_functions ["program"] (spD K W0 1 (sem (k + 1) f_functions)) := by
  rw [e_functions]
  refine g_fn (N := ["program", "found", "m", "rows", "row"]) (ps := ["program"]) (g := m_functions (sem k)) T.F_functions sc_functions (fun cdv A outer s H EX hr hq => ?_)
  have hc := hr
  exact (s_seq (pss_cons (s_set (ps_set (i := 1) sc_functions.nd rfl (by first | exact Or.inl rfl | exact Or.inr rfl) (x_lst (pe_lst (xa_nil pa_nil))))) (s_seq (pss_cons (s_for (ps_for PassesOwn.never rfl (x_it (PI.or (pi_list (x_var (pv 0))) (PI.or (pi_tup (x_var (pv 0))) (pi_str (x_var (pv 0)))))) (x_gtup (is := [2, 3]) rfl (pg_tup rfl (pgs_cons (pg_name (i := 2) sc_functions.nd rfl (by first | exact Or.inl rfl | exact Or.inr rfl)) (pgs_cons (pg_name (i := 3) sc_functions.nd rfl (by first | exact Or.inl rfl | exact Or.inr rfl)) pgs_nil)))) (s_seq (pss_cons (s_ext (ps_expr (pe_bm PySem.F.plainAttrs_list PySem.F.slot_list_extend PySem.F.type_list_extend mt_extend (pv 1) (pa_cons (c_EF (x_lc (by decide) (pe_lc (own := [("row", 4)]) rfl sc_functions.nd (x_it (PI.or (pi_list (x_var (pv 3))) (PI.or (pi_tup (x_var (pv 3))) (pi_str (x_var (pv 3)))))) (blkOk_by (N := ["program", "found", "m", "rows", "row"]) (sc := defScope s_functions) (by decide +kernel)) (fun _ _ _ _ _ => (x_gname (pg_name (i := 4) sc_functions.nd rfl (by first | exact Or.inl rfl | exact Or.inr rfl)))) (fun _ _ _ _ _ => x_yes) (fun _ _ _ _ _ => (c_EF (x_op2 (pe_op op_addA (c_FB (x_tup (pe_tupX (xa_cons (pa_cons (x_var (pv 2)) (xa_nil pa_nil)))))) (x_varB (pv 4))) p_add)))))) pa_nil)))) (s_nil pss_nil))))) (s_seq (pss_cons (s_retV (ps_ret (pv 1))) (s_nil pss_nil)))))))
theorem ok_function (T : Top w K mg) {k : Nat} (ih : Oks P w base T k) : GOk P w K mg base CX0 (k + 1) T.a_function T.d_function ["program", "m", "f"] (spD K W0 3 (sem (k + 1) f_function)) := by
  rw [e_function]
  refine g_fn (N := ["program", "m", "f", "row"]) (ps := ["program", "m", "f"]) (g := m_function (sem k)) T.F_function sc_function (fun cdv A outer s H EX hr hq => ?_)
  have hc := hr
  exact (s_seq (pss_cons (s_for (ps_for PassesOwn.never rfl (x_it (PI.or (pi_list (c_EF (x_call rfl (g_call ih.i_functions hc hq (by rfl) T.m_functions T.F_functions.kp T.b_functions pass0 (xa_cons (pa_cons (x_var (pv 0)) (xa_nil pa_nil))))))) (PI.or (pi_tup (c_EF (x_call rfl (g_call ih.i_functions hc hq (by rfl) T.m_functions T.F_functions.kp T.b_functions pass0 (xa_cons (pa_cons (x_var (pv 0)) (xa_nil pa_nil))))))) (pi_str (c_EF (x_call rfl (g_call ih.i_functions hc hq (by rfl) T.m_functions T.F_functions.kp T.b_functions pass0 (xa_cons (pa_cons (x_var (pv 0)) (xa_nil pa_nil)))))))))) (x_gname (pg_name (i := 3) sc_function.nd rfl (by first | exact Or.inl rfl | exact Or.inr rfl))) (s_seq (pss_cons (s_if (ps_if (PW.pt (x_and (pw_and (x_test2 (pt_cmpR (op_eqW (un_of hr)) (c_EB (x_ix (pe_ix ix_seq (x_varB (pv 3)) (c_FB (x_c pe_int fun _ _ => .int _)) (fun _ _ => rfl)))) (x_varB (pv 1)) rfl) p_eq) (pw_and1 (x_test2 (pt_cmpR (op_eqW (un_of hr)) (c_EB (x_ix (pe_ix ix_seq (x_varB (pv 3)) (c_FB (x_c pe_int fun _ _ => .int _)) (fun _ _ => rfl)))) (x_varB (pv 2)) rfl) p_eq))))) (s_seq (pss_cons (s_ret (ps_ret (x_sl (pe_slice sl_A3 (x_varB (pv 3)) (x_so (c_FB (x_c pe_int fun _ _ => .int _))) x_no) p_sl))) (s_nil pss_nil))) (s_nil pss_nil))) (s_nil pss_nil))))) (s_seq (pss_cons (s_ret (ps_ret (c_FE (x_c pe_non fun _ _ => .non)))) (s_nil pss_nil)))))
theorem ok_is_spot (T : Top w K mg) {k : Nat} (ih : Oks P w base T k) : GOk P w K mg base CX0 (k + 1) T.a_is_spot T.d_is_spot ["thing", "many"] (spD K W0 2 (sem (k + 1) f_is_spot)) := by
  rw [e_is_spot]
  refine g_fn (N := ["thing", "many"]) (ps := ["thing", "many"]) (g := m_is_spot (sem k)) T.F_is_spot sc_is_spot (fun cdv A outer s H EX hr hq => ?_)
  have hc := hr
  exact (s_seq (pss_cons (s_ret (ps_ret (x_andV (pe_and (x_isi (by decide) (pe_callB call_isi (by rfl) T.z_isinstance bt_isinstance (pa_cons (x_varB (pv 0)) (pa_cons (pe_bltn (by rfl) T.z_int bt_int rfl) pa_nil)))) (x_andV (pe_and (x_notV (pe_not (x_isi (by decide) (pe_callB call_isi (by rfl) T.z_isinstance bt_isinstance (pa_cons (x_varB (pv 0)) (pa_cons (pe_bltn (by rfl) T.z_bool bt_bool rfl) pa_nil)))))) (pe_one (x_chain (pe_chain op_le op_lt (c_FB (x_c pe_int fun _ _ => .int _)) (x_varB (pv 0)) (x_varB (pv 1))) (p_cmp fun i j => decide (i ≤ j)) (p_cmp fun i j => decide (i < j)))))))))) (s_nil pss_nil)))
theorem ok_part_at (T : Top w K mg) {k : Nat} (ih : Oks P w base T k) : GOk P w K mg base CX0 (k + 1) T.a_part_at T.d_part_at ["expression", "row"] (spD K W0 2 (sem (k + 1) f_part_at)) := by
  rw [e_part_at]
  refine g_fn (N := ["expression", "row", "spot", "inside"]) (ps := ["expression", "row"]) (g := m_part_at (sem k)) T.F_part_at sc_part_at (fun cdv A outer s H EX hr hq => ?_)
  have hc := hr
  exact (s_seq (pss_cons (s_for (ps_for PassesOwn.never rfl (x_it (PI.or (pi_list (x_var (pv 1))) (PI.or (pi_tup (x_var (pv 1))) (pi_str (x_var (pv 1)))))) (x_gname (pg_name (i := 2) sc_part_at.nd rfl (by first | exact Or.inl rfl | exact Or.inr rfl))) (s_seq (pss_cons (s_set (ps_set (i := 3) sc_part_at.nd rfl (by first | exact Or.inl rfl | exact Or.inr rfl) (c_FE (c_EF (x_call rfl (g_call ih.i_parts hc hq (by rfl) T.m_parts T.F_parts.kp T.b_parts pass0 (xa_cons (pa_cons (x_var (pv 0)) (xa_nil pa_nil))))))))) (s_seq (pss_cons (s_if (ps_if (x_not (pt_not (x_truth (pt_truth (c_EB (x_call rfl (g_call ih.i_is_spot hc hq (by rfl) T.m_is_spot T.F_is_spot.kp T.b_is_spot pass0 (xa_cons (pa_cons (x_var (pv 2)) (xa_cons (pa_cons (c_EF (x_prim (pe_callB call_lenA (by rfl) T.z_len bt_len (xr_cons (pa_cons (x_varB (pv 3)) (xr_nil pa_nil)))) p_len)) (xa_nil pa_nil)))))))) (fun _ => rfl))))) (s_seq (pss_cons (s_ret (ps_ret (c_FE (x_c pe_non fun _ _ => .non)))) (s_nil pss_nil))) (s_nil pss_nil))) (s_seq (pss_cons (s_set (ps_set (i := 0) sc_part_at.nd rfl (by first | exact Or.inl rfl | exact Or.inr rfl) (c_FE (c_EF (x_ix (pe_ix ix_seq (x_varB (pv 3)) (x_varB (pv 2)) (fun _ _ => rfl))))))) (s_nil pss_nil))))))))) (s_seq (pss_cons (s_retV (ps_ret (pv 0))) (s_nil pss_nil)))))
theorem ok_at_way (T : Top w K mg) {k : Nat} (ih : Oks P w base T k) : GOk P w K mg base CX0 (k + 1) T.a_at_way T.d_at_way ["program", "way"] (spD K W0 2 (sem (k + 1) f_at_way)) := by
  rw [e_at_way]
  refine g_fn (N := ["program", "way", "found", "name"]) (ps := ["program", "way"]) (g := m_at_way (sem k)) T.F_at_way sc_at_way (fun cdv A outer s H EX hr hq => ?_)
  have hc := hr
  exact (s_seq (pss_cons (s_if (ps_if (PW.pt (x_or (pw_or (x_not (pt_not (x_truth (pt_truth (c_EB (x_isi (by decide) (pe_callB call_isi (by rfl) T.z_isinstance bt_isinstance (pa_cons (x_varB (pv 1)) (pa_cons (pe_bltn (by rfl) T.z_tuple bt_tuple rfl) pa_nil))))) (fun _ => rfl))))) (x_or (pw_or (x_test2 (pt_cmpR op_lt (c_EB (x_prim (pe_callB call_lenA (by rfl) T.z_len bt_len (xr_cons (pa_cons (x_varB (pv 1)) (xr_nil pa_nil)))) p_len)) (c_FB (x_c pe_int fun _ _ => .int _)) rfl) (p_cmp fun i j => decide (i < j))) (pw_or1 (x_not (pt_not (x_truth (pt_truth (c_EB (x_prim (pe_callB (cr_all rfl) (by rfl) T.z_all bt_all (xr_cons (pa_cons (c_EB (x_lc (by decide) (pe_lc (own := [("name", 3)]) rfl sc_at_way.nd (x_it (PI.or (pi_list (c_EF (x_sl (pe_slice sl_A3 (x_varB (pv 1)) x_no (x_so (c_FB (x_c pe_int fun _ _ => .int _)))) p_sl))) (PI.or (pi_tup (c_EF (x_sl (pe_slice sl_A3 (x_varB (pv 1)) x_no (x_so (c_FB (x_c pe_int fun _ _ => .int _)))) p_sl))) (pi_str (c_EF (x_sl (pe_slice sl_A3 (x_varB (pv 1)) x_no (x_so (c_FB (x_c pe_int fun _ _ => .int _)))) p_sl)))))) (blkOk_by (N := ["program", "way", "found", "name"]) (sc := defScope s_at_way) (by decide +kernel)) (fun _ _ _ _ _ => (x_gname (pg_name (i := 3) sc_at_way.nd rfl (by first | exact Or.inl rfl | exact Or.inr rfl)))) (fun _ _ _ _ _ => x_yes) (fun _ _ _ _ _ => (c_EF (x_isi (by decide) (pe_callB call_isi (by rfl) T.z_isinstance bt_isinstance (pa_cons (x_varB (pv 3)) (pa_cons (pe_bltn (by rfl) T.z_str bt_str rfl) pa_nil))))))))) (xr_nil pa_nil)))) p_all)) (fun _ => rfl))))))))))) (s_seq (pss_cons (s_ret (ps_ret (c_FE (x_c pe_non fun _ _ => .non)))) (s_nil pss_nil))) (s_nil pss_nil))) (s_seq (pss_cons (s_set (ps_set (i := 2) sc_at_way.nd rfl (by first | exact Or.inl rfl | exact Or.inr rfl) (c_FE (c_EF (x_call rfl (g_call ih.i_function hc hq (by rfl) T.m_function T.F_function.kp T.b_function pass0 (xa_cons (pa_cons (x_var (pv 0)) (xa_cons (pa_cons (c_EF (x_ix (pe_ix ix_seq (x_varB (pv 1)) (c_FB (x_c pe_int fun _ _ => .int _)) (fun _ _ => rfl)))) (xa_cons (pa_cons (c_EF (x_ix (pe_ix ix_seq (x_varB (pv 1)) (c_FB (x_c pe_int fun _ _ => .int _)) (fun _ _ => rfl)))) (xa_nil pa_nil))))))))))))) (s_seq (pss_cons (s_ret (ps_ret (x_if (pe_ifExp (x_test2 (pt_cmpR op_isA (x_varB (pv 2)) (c_FB (x_c pe_non fun _ _ => .non)) rfl) p_is) (c_FE (x_c pe_non fun _ _ => .non)) (x_call rfl (g_call ih.i_part_at hc hq (by rfl) T.m_part_at T.F_part_at.kp T.b_part_at pass0 (xa_cons (pa_cons (c_EF (x_ix (pe_ix ix_seq (x_varB (pv 2)) (c_FB (x_c pe_int fun _ _ => .int _)) (fun _ _ => rfl)))) (xa_cons (pa_cons (c_EF (x_sl (pe_slice sl_A3 (x_varB (pv 1)) (x_so (c_FB (x_c pe_int fun _ _ => .int _))) x_no) p_sl)) (xa_nil pa_nil))))))))))) (s_nil pss_nil)))))))
theorem ok_more_round (T : Top w K mg) {k : Nat} (ih : Oks P w base T k) : GOk P w K mg base CX0 (k + 1) T.a_more_round T.d_more_round ["expression", "way", "around", "spot"] (spD K W0 4 (sem (k + 1) f_more_round)) := by
  rw [e_more_round]
  refine g_fn (N := ["expression", "way", "around", "spot", "found"]) (ps := ["expression", "way", "around", "spot"]) (g := m_more_round (sem k)) T.F_more_round sc_more_round (fun cdv A outer s H EX hr hq => ?_)
  have hc := hr
  exact (s_seq (pss_cons (s_set (ps_set (i := 4) sc_more_round.nd rfl (by first | exact Or.inl rfl | exact Or.inr rfl) (c_FE (x_newD (pe_callTy call_dictD (by rfl) T.z_dict bt_dict (xr_cons (pa_cons (x_varB (pv 2)) (xr_nil pa_nil)))) p_copyD)))) (s_seq (pss_cons (s_if (ps_if (PW.pt (x_and (pw_and (x_test2 (pt_cmpR (op_eqW (un_of hr)) (c_EB (x_ix (pe_ix ix_seq (x_varB (pv 0)) (c_FB (x_c pe_int fun _ _ => .int _)) (fun _ _ => rfl)))) (c_FB (x_c pe_str fun _ _ => .str _)) rfl) p_eq) (pw_and1 (x_test2 (pt_cmpR (op_eqW (un_of hr)) (x_varB (pv 3)) (c_FB (x_c pe_int fun _ _ => .int _)) rfl) p_eq))))) (s_seq (pss_cons (s_putD (ps_dput (hu_of hr) (x_varB (pv 4)) (c_EB (x_ix (pe_ix ix_seq (x_varB (pv 0)) (c_FB (x_c pe_int fun _ _ => .int _)) (fun _ _ => rfl)))) (x_tup (pe_tupX (xa_cons (pa_cons (x_c pe_str fun _ _ => .str _) (xa_cons (pa_cons (x_var (pv 1)) (xa_nil pa_nil))))))) rfl)) (s_nil pss_nil))) (s_nil pss_nil))) (s_seq (pss_cons (s_if (ps_if (PW.pt (x_and (pw_and (x_test2 (pt_cmpR (op_eqW (un_of hr)) (c_EB (x_ix (pe_ix ix_seq (x_varB (pv 0)) (c_FB (x_c pe_int fun _ _ => .int _)) (fun _ _ => rfl)))) (c_FB (x_c pe_str fun _ _ => .str _)) rfl) p_eq) (pw_and1 (x_test2 (pt_cmpR (op_eqW (un_of hr)) (x_varB (pv 3)) (c_FB (x_c pe_int fun _ _ => .int _)) rfl) p_eq))))) (s_seq (pss_cons (s_putD (ps_dput (hu_of hr) (x_varB (pv 4)) (c_EB (x_ix (pe_ix ix_seq (x_varB (pv 0)) (c_FB (x_c pe_int fun _ _ => .int _)) (fun _ _ => rfl)))) (x_tup (pe_tupX (xa_cons (pa_cons (x_c pe_str fun _ _ => .str _) (xa_cons (pa_cons (x_var (pv 1)) (xa_nil pa_nil))))))) rfl)) (s_seq (pss_cons (s_putD (ps_dput (hu_of hr) (x_varB (pv 4)) (c_EB (x_ix (pe_ix ix_seq (x_varB (pv 0)) (c_FB (x_c pe_int fun _ _ => .int _)) (fun _ _ => rfl)))) (x_tup (pe_tupX (xa_cons (pa_cons (x_c pe_str fun _ _ => .str _) (xa_cons (pa_cons (x_var (pv 1)) (xa_nil pa_nil))))))) rfl)) (s_nil pss_nil))))) (s_nil pss_nil))) (s_seq (pss_cons (s_retV (ps_ret (pv 4))) (s_nil pss_nil)))))))))
theorem ok_uses_in (T : Top w K mg) {k : Nat} (ih : Oks P w base T k) : GOk P w K mg base CX0 (k + 1) T.a_uses_in T.d_uses_in ["expression", "way", "around"] (spD K W0 3 (sem (k + 1) f_uses_in)) := by
  rw [e_uses_in]
  refine g_fn (N := ["expression", "way", "around", "found", "spot", "part"]) (ps := ["expression", "way", "around"]) (g := m_uses_in (sem k)) T.F_uses_in sc_uses_in (fun cdv A outer s H EX hr hq => ?_)
  have hc := hr
  exact (s_seq (pss_cons (s_if (ps_if (x_test2 (pt_cmpR (op_eqW (un_of hr)) (c_EB (x_ix (pe_ix ix_seq (x_varB (pv 0)) (c_FB (x_c pe_int fun _ _ => .int _)) (fun _ _ => rfl)))) (c_FB (x_c pe_str fun _ _ => .str _)) rfl) p_eq) (s_seq (pss_cons (s_ret (ps_ret (x_lst (pe_lst (xa_cons (pa_cons (x_tup (pe_tupX (xa_cons (pa_cons (x_var (pv 1)) (xa_cons (pa_cons (x_dget1 (pe_dget1 (hu_of hr) (x_varB (pv 2)) (c_EB (x_ix (pe_ix ix_seq (x_varB (pv 0)) (c_FB (x_c pe_int fun _ _ => .int _)) (fun _ _ => rfl)))) ⟨rfl, rfl, rfl, rfl⟩)) (xa_nil pa_nil))))))) (xa_nil pa_nil))))))) (s_nil pss_nil))) (s_nil pss_nil))) (s_seq (pss_cons (s_set (ps_set (i := 3) sc_uses_in.nd rfl (by first | exact Or.inl rfl | exact Or.inr rfl) (x_lst (pe_lst (xa_nil pa_nil))))) (s_seq (pss_cons (s_for (ps_for PassesOwn.never rfl (x_enumA (pi_enumA (by rfl) T.z_enumerate (xa_cons (pa_cons (c_EF (x_call rfl (g_call ih.i_parts hc hq (by rfl) T.m_parts T.F_parts.kp T.b_parts pass0 (xa_cons (pa_cons (x_var (pv 0)) (xa_nil pa_nil)))))) (xa_nil pa_nil))))) (x_gtup (is := [4, 5]) rfl (pg_tup rfl (pgs_cons (pg_name (i := 4) sc_uses_in.nd rfl (by first | exact Or.inl rfl | exact Or.inr rfl)) (pgs_cons (pg_name (i := 5) sc_uses_in.nd rfl (by first | exact Or.inl rfl | exact Or.inr rfl)) pgs_nil)))) (s_seq (pss_cons (s_ext (ps_expr (pe_bm PySem.F.plainAttrs_list PySem.F.slot_list_extend PySem.F.type_list_extend mt_extend (pv 3) (pa_cons (c_EF (x_call rfl (g_call ih.i_uses_in hc hq (by rfl) T.m_uses_in T.F_uses_in.kp T.b_uses_in pass0 (xa_cons (pa_cons (x_var (pv 5)) (xa_cons (pa_cons (c_EF (x_op2 (pe_op op_addA (x_varB (pv 1)) (c_FB (x_tup (pe_tupX (xa_cons (pa_cons (x_var (pv 4)) (xa_nil pa_nil))))))) p_add)) (xa_cons (pa_cons (c_EF (x_call rfl (g_call ih.i_more_round hc hq (by rfl) T.m_more_round T.F_more_round.kp T.b_more_round pass0 (xa_cons (pa_cons (x_var (pv 0)) (xa_cons (pa_cons (x_var (pv 1)) (xa_cons (pa_cons (x_var (pv 2)) (xa_cons (pa_cons (x_var (pv 4)) (xa_nil pa_nil)))))))))))) (xa_nil pa_nil)))))))))) pa_nil)))) (s_nil pss_nil))))) (s_seq (pss_cons (s_retV (ps_ret (pv 3))) (s_nil pss_nil)))))))))
theorem ok_params_round (T : Top w K mg) {k : Nat} (ih : Oks P w base T k) : GOk P w K mg base CX0 (k + 1) T.a_params_round T.d_params_round ["m", "f", "params"] (spD K W0 3 (sem (k + 1) f_params_round)) := by
  rw [e_params_round]
  refine g_fn (N := ["m", "f", "params", "place", "name"]) (ps := ["m", "f", "params"]) (g := m_params_round (sem k)) T.F_params_round sc_params_round (fun cdv A outer s H EX hr hq => ?_)
  have hc := hr
  exact (s_seq (pss_cons (s_ret (ps_ret (c_FE (x_newD (pe_callTy (call_dictP rfl) (by rfl) T.z_dict bt_dict (xr_cons (pa_cons (c_EB (x_lc (by decide) (pe_lc (own := [("place", 3), ("name", 4)]) rfl sc_params_round.nd (x_enumA (pi_enumA (by rfl) T.z_enumerate (xa_cons (pa_cons (x_var (pv 2)) (xa_nil pa_nil))))) (blkOk_by (N := ["m", "f", "params", "place", "name"]) (sc := defScope s_params_round) (by decide +kernel)) (fun _ _ _ _ _ => (x_gtup (is := [3, 4]) rfl (pg_tup rfl (pgs_cons (pg_name (i := 3) sc_params_round.nd rfl (by first | exact Or.inl rfl | exact Or.inr rfl)) (pgs_cons (pg_name (i := 4) sc_params_round.nd rfl (by first | exact Or.inl rfl | exact Or.inr rfl)) pgs_nil))))) (fun _ _ _ _ _ => x_yes) (fun _ _ _ _ _ => (x_tup (pe_tupX (xa_cons (pa_cons (x_var (pv 4)) (xa_cons (pa_cons (x_tup (pe_tupX (xa_cons (pa_cons (x_c pe_str fun _ _ => .str _) (xa_cons (pa_cons (x_var (pv 0)) (xa_cons (pa_cons (x_var (pv 1)) (xa_cons (pa_cons (x_var (pv 3)) (xa_nil pa_nil))))))))))) (xa_nil pa_nil))))))))))) (xr_nil pa_nil)))) p_pairKD)))) (s_nil pss_nil)))
theorem ok_round_way (T : Top w K mg) {k : Nat} (ih : Oks P w base T k) : GOk P w K mg base CX0 (k + 1) T.a_round_way T.d_round_way ["program", "way"] (spD K W0 2 (sem (k + 1) f_round_way)) := by
  rw [e_round_way]
  refine g_fn (N := ["program", "way", "around", "here", "spot", "m", "f", "params", "expression"]) (ps := ["program", "way"]) (g := m_round_way (sem k)) T.F_round_way sc_round_way (fun cdv A outer s H EX hr hq => ?_)
  have hc := hr
  exact (s_seq (pss_cons (s_asg (ps_asg (c_EF (x_sl (pe_slice sl_A3 (x_varB (pv 1)) x_no (x_so (c_FB (x_c pe_int fun _ _ => .int _)))) p_sl)) (x_gtup (is := [5, 6]) rfl (pg_tup rfl (pgs_cons (pg_name (i := 5) sc_round_way.nd rfl (by first | exact Or.inl rfl | exact Or.inr rfl)) (pgs_cons (pg_name (i := 6) sc_round_way.nd rfl (by first | exact Or.inl rfl | exact Or.inr rfl)) pgs_nil)))))) (s_seq (pss_cons (s_asg (ps_asg (c_EF (x_call rfl (g_call ih.i_function hc hq (by rfl) T.m_function T.F_function.kp T.b_function pass0 (xa_cons (pa_cons (x_var (pv 0)) (xa_cons (pa_cons (x_var (pv 5)) (xa_cons (pa_cons (x_var (pv 6)) (xa_nil pa_nil)))))))))) (x_gtup (is := [7, 8]) rfl (pg_tup rfl (pgs_cons (pg_name (i := 7) sc_round_way.nd rfl (by first | exact Or.inl rfl | exact Or.inr rfl)) (pgs_cons (pg_name (i := 8) sc_round_way.nd rfl (by first | exact Or.inl rfl | exact Or.inr rfl)) pgs_nil)))))) (s_seq (pss_cons (s_set (ps_set (i := 2) sc_round_way.nd rfl (by first | exact Or.inl rfl | exact Or.inr rfl) (c_FE (c_EF (x_call rfl (g_call ih.i_params_round hc hq (by rfl) T.m_params_round T.F_params_round.kp T.b_params_round pass0 (xa_cons (pa_cons (x_var (pv 5)) (xa_cons (pa_cons (x_var (pv 6)) (xa_cons (pa_cons (x_var (pv 7)) (xa_nil pa_nil))))))))))))) (s_seq (pss_cons (s_set (ps_set (i := 3) sc_round_way.nd rfl (by first | exact Or.inl rfl | exact Or.inr rfl) (c_FE (x_tup (pe_tupX (xa_cons (pa_cons (x_var (pv 5)) (xa_cons (pa_cons (x_var (pv 6)) (xa_nil pa_nil)))))))))) (s_seq (pss_cons (s_for (ps_for PassesOwn.never rfl (x_it (PI.or (pi_list (c_EF (x_sl (pe_slice sl_A3 (x_varB (pv 1)) (x_so (c_FB (x_c pe_int fun _ _ => .int _))) x_no) p_sl))) (PI.or (pi_tup (c_EF (x_sl (pe_slice sl_A3 (x_varB (pv 1)) (x_so (c_FB (x_c pe_int fun _ _ => .int _))) x_no) p_sl))) (pi_str (c_EF (x_sl (pe_slice sl_A3 (x_varB (pv 1)) (x_so (c_FB (x_c pe_int fun _ _ => .int _))) x_no) p_sl)))))) (x_gname (pg_name (i := 4) sc_round_way.nd rfl (by first | exact Or.inl rfl | exact Or.inr rfl))) (s_seq (pss_cons (s_set (ps_set (i := 2) sc_round_way.nd rfl (by first | exact Or.inl rfl | exact Or.inr rfl) (c_FE (c_EF (x_call rfl (g_call ih.i_more_round hc hq (by rfl) T.m_more_round T.F_more_round.kp T.b_more_round pass0 (xa_cons (pa_cons (x_var (pv 8)) (xa_cons (pa_cons (x_var (pv 3)) (xa_cons (pa_cons (x_var (pv 2)) (xa_cons (pa_cons (x_var (pv 4)) (xa_nil pa_nil))))))))))))))) (s_seq (pss_cons (s_set (ps_set (i := 8) sc_round_way.nd rfl (by first | exact Or.inl rfl | exact Or.inr rfl) (c_FE (c_EF (x_ix (pe_ix ix_seq (c_EB (x_call rfl (g_call ih.i_parts hc hq (by rfl) T.m_parts T.F_parts.kp T.b_parts pass0 (xa_cons (pa_cons (x_var (pv 8)) (xa_nil pa_nil)))))) (x_varB (pv 4)) (fun _ _ => rfl))))))) (s_seq (pss_cons (s_set (ps_set (i := 3) sc_round_way.nd rfl (by first | exact Or.inl rfl | exact Or.inr rfl) (c_FE (c_EF (x_op2 (pe_op op_addA (x_varB (pv 3)) (c_FB (x_tup (pe_tupX (xa_cons (pa_cons (x_var (pv 4)) (xa_nil pa_nil))))))) p_add))))) (s_nil pss_nil))))))))) (s_seq (pss_cons (s_retV (ps_ret (pv 2))) (s_nil pss_nil)))))))))))))
theorem ok_all_uses (T : Top w K mg) {k : Nat} (ih : Oks P w base T k) : GOk P w K mg base CX0 (k + 1) T.a_all_uses T.d_all_uses ["program", "m", "f"] (spD K W0 3 (sem (k + 1) f_all_uses)) := by
  rw [e_all_uses]
  refine g_fn (N := ["program", "m", "f", "params", "body"]) (ps := ["program", "m", "f"]) (g := m_all_uses (sem k)) T.F_all_uses sc_all_uses (fun cdv A outer s H EX hr hq => ?_)
  have hc := hr
  exact (s_seq (pss_cons (s_asg (ps_asg (c_EF (x_call rfl (g_call ih.i_function hc hq (by rfl) T.m_function T.F_function.kp T.b_function pass0 (xa_cons (pa_cons (x_var (pv 0)) (xa_cons (pa_cons (x_var (pv 1)) (xa_cons (pa_cons (x_var (pv 2)) (xa_nil pa_nil)))))))))) (x_gtup (is := [3, 4]) rfl (pg_tup rfl (pgs_cons (pg_name (i := 3) sc_all_uses.nd rfl (by first | exact Or.inl rfl | exact Or.inr rfl)) (pgs_cons (pg_name (i := 4) sc_all_uses.nd rfl (by first | exact Or.inl rfl | exact Or.inr rfl)) pgs_nil)))))) (s_seq (pss_cons (s_ret (ps_ret (x_call rfl (g_call ih.i_uses_in hc hq (by rfl) T.m_uses_in T.F_uses_in.kp T.b_uses_in pass0 (xa_cons (pa_cons (x_var (pv 4)) (xa_cons (pa_cons (x_tup (pe_tupX (xa_cons (pa_cons (x_var (pv 1)) (xa_cons (pa_cons (x_var (pv 2)) (xa_nil pa_nil))))))) (xa_cons (pa_cons (c_EF (x_call rfl (g_call ih.i_params_round hc hq (by rfl) T.m_params_round T.F_params_round.kp T.b_params_round pass0 (xa_cons (pa_cons (x_var (pv 1)) (xa_cons (pa_cons (x_var (pv 2)) (xa_cons (pa_cons (x_var (pv 3)) (xa_nil pa_nil)))))))))) (xa_nil pa_nil))))))))))) (s_nil pss_nil)))))
theorem ok_binder_of (T : Top w K mg) {k : Nat} (ih : Oks P w base T k) : GOk P w K mg base CX0 (k + 1) T.a_binder_of T.d_binder_of ["program", "way"] (spD K W0 2 (sem (k + 1) f_binder_of)) := by
  rw [e_binder_of]
  refine g_fn (N := ["program", "way"]) (ps := ["program", "way"]) (g := m_binder_of (sem k)) T.F_binder_of sc_binder_of (fun cdv A outer s H EX hr hq => ?_)
  have hc := hr
  exact (s_seq (pss_cons (s_ret (ps_ret (x_dget (pe_dget (hu_of hr) (c_EB (x_call rfl (g_call ih.i_round_way hc hq (by rfl) T.m_round_way T.F_round_way.kp T.b_round_way pass0 (xa_cons (pa_cons (x_var (pv 0)) (xa_cons (pa_cons (x_var (pv 1)) (xa_nil pa_nil)))))))) (c_EB (x_ix (pe_ix ix_seq (c_EB (x_call rfl (g_call ih.i_at_way hc hq (by rfl) T.m_at_way T.F_at_way.kp T.b_at_way pass0 (xa_cons (pa_cons (x_var (pv 0)) (xa_cons (pa_cons (x_var (pv 1)) (xa_nil pa_nil)))))))) (c_FB (x_c pe_int fun _ _ => .int _)) (fun _ _ => rfl)))) (fun _ _ => rfl))))) (s_nil pss_nil)))
theorem ok_home_of (T : Top w K mg) {k : Nat} (ih : Oks P w base T k) : GOk P w K mg base CX0 (k + 1) T.a_home_of T.d_home_of ["program", "thing"] (spD K W0 2 (sem (k + 1) f_home_of)) := by
  rw [e_home_of]
  refine g_fn (N := ["program", "thing", "found"]) (ps := ["program", "thing"]) (g := m_home_of (sem k)) T.F_home_of sc_home_of (fun cdv A outer s H EX hr hq => ?_)
  have hc := hr
  exact (s_seq (pss_cons (s_if (ps_if (PW.pt (x_or (pw_or (x_not (pt_not (x_truth (pt_truth (c_EB (x_isi (by decide) (pe_callB call_isi (by rfl) T.z_isinstance bt_isinstance (pa_cons (x_varB (pv 1)) (pa_cons (pe_bltn (by rfl) T.z_tuple bt_tuple rfl) pa_nil))))) (fun _ => rfl))))) (x_or (pw_or (x_test2 (pt_cmpR op_lt (c_EB (x_prim (pe_callB call_lenA (by rfl) T.z_len bt_len (xr_cons (pa_cons (x_varB (pv 1)) (xr_nil pa_nil)))) p_len)) (c_FB (x_c pe_int fun _ _ => .int _)) rfl) (p_cmp fun i j => decide (i < j))) (pw_or1 (x_test2 (pt_cmpR (op_notInW (un_of hr)) (c_EB (x_ix (pe_ix ix_seq (x_varB (pv 1)) (c_FB (x_c pe_int fun _ _ => .int _)) (fun _ _ => rfl)))) (c_FB (x_tup (pe_tupX (xa_cons (pa_cons (x_c pe_str fun _ _ => .str _) (xa_cons (pa_cons (x_c pe_str fun _ _ => .str _) (xa_cons (pa_cons (x_c pe_str fun _ _ => .str _) (xa_cons (pa_cons (x_c pe_str fun _ _ => .str _) (xa_nil pa_nil)))))))))))) rfl) p_notInW))))))) (s_seq (pss_cons (s_ret (ps_ret (c_FE (x_c pe_non fun _ _ => .non)))) (s_nil pss_nil))) (s_nil pss_nil))) (s_seq (pss_cons (s_if (ps_if (x_test2 (pt_cmpR (op_eqW (un_of hr)) (c_EB (x_ix (pe_ix ix_seq (x_varB (pv 1)) (c_FB (x_c pe_int fun _ _ => .int _)) (fun _ _ => rfl)))) (c_FB (x_c pe_str fun _ _ => .str _)) rfl) p_eq) (s_seq (pss_cons (s_if (ps_if (PW.pt (x_or (pw_or (x_test2 (pt_cmpR (op_neW (un_of hr)) (c_EB (x_prim (pe_callB call_lenA (by rfl) T.z_len bt_len (xr_cons (pa_cons (x_varB (pv 1)) (xr_nil pa_nil)))) p_len)) (c_FB (x_c pe_int fun _ _ => .int _)) rfl) p_ne) (x_or (pw_or (x_not (pt_not (x_truth (pt_truth (c_EB (x_isi (by decide) (pe_callB call_isi (by rfl) T.z_isinstance bt_isinstance (pa_cons (c_EB (x_ix (pe_ix ix_seq (x_varB (pv 1)) (c_FB (x_c pe_int fun _ _ => .int _)) (fun _ _ => rfl)))) (pa_cons (pe_bltn (by rfl) T.z_str bt_str rfl) pa_nil))))) (fun _ => rfl))))) (pw_or1 (x_not (pt_not (x_truth (pt_truth (c_EB (x_isi (by decide) (pe_callB call_isi (by rfl) T.z_isinstance bt_isinstance (pa_cons (c_EB (x_ix (pe_ix ix_seq (x_varB (pv 1)) (c_FB (x_c pe_int fun _ _ => .int _)) (fun _ _ => rfl)))) (pa_cons (pe_bltn (by rfl) T.z_str bt_str rfl) pa_nil))))) (fun _ => rfl))))))))))) (s_seq (pss_cons (s_ret (ps_ret (c_FE (x_c pe_non fun _ _ => .non)))) (s_nil pss_nil))) (s_nil pss_nil))) (s_seq (pss_cons (s_set (ps_set (i := 2) sc_home_of.nd rfl (by first | exact Or.inl rfl | exact Or.inr rfl) (c_FE (c_EF (x_call rfl (g_call ih.i_function hc hq (by rfl) T.m_function T.F_function.kp T.b_function pass0 (xa_cons (pa_cons (x_var (pv 0)) (xa_cons (pa_cons (c_EF (x_ix (pe_ix ix_seq (x_varB (pv 1)) (c_FB (x_c pe_int fun _ _ => .int _)) (fun _ _ => rfl)))) (xa_cons (pa_cons (c_EF (x_ix (pe_ix ix_seq (x_varB (pv 1)) (c_FB (x_c pe_int fun _ _ => .int _)) (fun _ _ => rfl)))) (xa_nil pa_nil))))))))))))) (s_seq (pss_cons (s_ret (ps_ret (x_if (pe_ifExp (PW.pt (x_and (pw_and (x_test2 (pt_cmpR op_isntA (x_varB (pv 2)) (c_FB (x_c pe_non fun _ _ => .non)) rfl) p_isnt) (pw_and1 (x_truth (pt_truth (c_EB (x_call rfl (g_call ih.i_is_spot hc hq (by rfl) T.m_is_spot T.F_is_spot.kp T.b_is_spot pass0 (xa_cons (pa_cons (c_EF (x_ix (pe_ix ix_seq (x_varB (pv 1)) (c_FB (x_c pe_int fun _ _ => .int _)) (fun _ _ => rfl)))) (xa_cons (pa_cons (c_EF (x_prim (pe_callB call_lenA (by rfl) T.z_len bt_len (xr_cons (pa_cons (c_EB (x_ix (pe_ix ix_seq (x_varB (pv 2)) (c_FB (x_c pe_int fun _ _ => .int _)) (fun _ _ => rfl)))) (xr_nil pa_nil)))) p_len)) (xa_nil pa_nil)))))))) (fun _ => rfl))))))) (x_sl (pe_slice sl_A3 (x_varB (pv 1)) (x_so (c_FB (x_c pe_int fun _ _ => .int _))) (x_so (c_FB (x_c pe_int fun _ _ => .int _)))) p_sl) (c_FE (x_c pe_non fun _ _ => .non)))))) (s_nil pss_nil))))))) (s_nil pss_nil))) (s_seq (pss_cons (s_set (ps_set (i := 2) sc_home_of.nd rfl (by first | exact Or.inl rfl | exact Or.inr rfl) (c_FE (c_EF (x_if (pe_ifExp (x_test2 (pt_cmpR (op_eqW (un_of hr)) (c_EB (x_prim (pe_callB call_lenA (by rfl) T.z_len bt_len (xr_cons (pa_cons (x_varB (pv 1)) (xr_nil pa_nil)))) p_len)) (c_FB (x_c pe_int fun _ _ => .int _)) rfl) p_eq) (x_call rfl (g_call ih.i_at_way hc hq (by rfl) T.m_at_way T.F_at_way.kp T.b_at_way pass0 (xa_cons (pa_cons (x_var (pv 0)) (xa_cons (pa_cons (c_EF (x_ix (pe_ix ix_seq (x_varB (pv 1)) (c_FB (x_c pe_int fun _ _ => .int _)) (fun _ _ => rfl)))) (xa_nil pa_nil))))))) (c_FE (x_c pe_non fun _ _ => .non)))))))) (s_seq (pss_cons (s_if (ps_if (PW.pt (x_or (pw_or (x_test2 (pt_cmpR op_isA (x_varB (pv 2)) (c_FB (x_c pe_non fun _ _ => .non)) rfl) p_is) (pw_or1 (x_test2 (pt_cmpR (op_neW (un_of hr)) (c_EB (x_ix (pe_ix ix_seq (x_varB (pv 2)) (c_FB (x_c pe_int fun _ _ => .int _)) (fun _ _ => rfl)))) (c_EB (x_dget (pe_dget (hu_of hr) (c_FB (x_disp (ks := ["let", "count", "sum"]) (fs := [(dC (.str "let")), (dC (.str "times")), (dC (.str "times"))]) rfl (pe_disp (pps_cons pe_str (x_c pe_str fun _ _ => .str _) (pps_cons pe_str (x_c pe_str fun _ _ => .str _) (pps_cons pe_str (x_c pe_str fun _ _ => .str _) pps_nil))) rfl rfl (by simp) (by decide)))) (c_EB (x_ix (pe_ix ix_seq (x_varB (pv 1)) (c_FB (x_c pe_int fun _ _ => .int _)) (fun _ _ => rfl)))) (fun _ _ => rfl)))) rfl) p_ne))))) (s_seq (pss_cons (s_ret (ps_ret (c_FE (x_c pe_non fun _ _ => .non)))) (s_nil pss_nil))) (s_nil pss_nil))) (s_seq (pss_cons (s_ret (ps_ret (x_sl (pe_slice sl_A3 (c_EB (x_ix (pe_ix ix_seq (x_varB (pv 1)) (c_FB (x_c pe_int fun _ _ => .int _)) (fun _ _ => rfl)))) x_no (x_so (c_FB (x_c pe_int fun _ _ => .int _)))) p_sl))) (s_nil pss_nil)))))))))))
theorem ok_uses_of (T : Top w K mg) {k : Nat} (ih : Oks P w base T k) : GOk P w K mg base CX0 (k + 1) T.a_uses_of T.d_uses_of ["program", "binder"] (spD K W0 2 (sem (k + 1) f_uses_of)) := by
  rw [e_uses_of]
  refine g_fn (N := ["program", "binder", "home", "way", "one"]) (ps := ["program", "binder"]) (g := m_uses_of (sem k)) T.F_uses_of sc_uses_of (fun cdv A outer s H EX hr hq => ?_)
  have hc := hr
  exact (s_seq (pss_cons (s_set (ps_set (i := 2) sc_uses_of.nd rfl (by first | exact Or.inl rfl | exact Or.inr rfl) (c_FE (c_EF (x_call rfl (g_call ih.i_home_of hc hq (by rfl) T.m_home_of T.F_home_of.kp T.b_home_of pass0 (xa_cons (pa_cons (x_var (pv 0)) (xa_cons (pa_cons (x_var (pv 1)) (xa_nil pa_nil))))))))))) (s_seq (pss_cons (s_if (ps_if (x_test2 (pt_cmpR op_isA (x_varB (pv 2)) (c_FB (x_c pe_non fun _ _ => .non)) rfl) p_is) (s_seq (pss_cons (s_ret (ps_ret (c_FE (x_c pe_non fun _ _ => .non)))) (s_nil pss_nil))) (s_nil pss_nil))) (s_seq (pss_cons (s_ret (ps_ret (x_lc (by decide) (pe_lc (own := [("way", 3), ("one", 4)]) rfl sc_uses_of.nd (x_it (PI.or (pi_list (c_EF (x_call rfl (g_call ih.i_all_uses hc hq (by rfl) T.m_all_uses T.F_all_uses.kp T.b_all_uses pass0 (xa_cons (pa_cons (x_var (pv 0)) (xa_cons (pa_cons (c_EF (x_ix (pe_ix ix_seq (x_varB (pv 2)) (c_FB (x_c pe_int fun _ _ => .int _)) (fun _ _ => rfl)))) (xa_cons (pa_cons (c_EF (x_ix (pe_ix ix_seq (x_varB (pv 2)) (c_FB (x_c pe_int fun _ _ => .int _)) (fun _ _ => rfl)))) (xa_nil pa_nil))))))))))) (PI.or (pi_tup (c_EF (x_call rfl (g_call ih.i_all_uses hc hq (by rfl) T.m_all_uses T.F_all_uses.kp T.b_all_uses pass0 (xa_cons (pa_cons (x_var (pv 0)) (xa_cons (pa_cons (c_EF (x_ix (pe_ix ix_seq (x_varB (pv 2)) (c_FB (x_c pe_int fun _ _ => .int _)) (fun _ _ => rfl)))) (xa_cons (pa_cons (c_EF (x_ix (pe_ix ix_seq (x_varB (pv 2)) (c_FB (x_c pe_int fun _ _ => .int _)) (fun _ _ => rfl)))) (xa_nil pa_nil))))))))))) (pi_str (c_EF (x_call rfl (g_call ih.i_all_uses hc hq (by rfl) T.m_all_uses T.F_all_uses.kp T.b_all_uses pass0 (xa_cons (pa_cons (x_var (pv 0)) (xa_cons (pa_cons (c_EF (x_ix (pe_ix ix_seq (x_varB (pv 2)) (c_FB (x_c pe_int fun _ _ => .int _)) (fun _ _ => rfl)))) (xa_cons (pa_cons (c_EF (x_ix (pe_ix ix_seq (x_varB (pv 2)) (c_FB (x_c pe_int fun _ _ => .int _)) (fun _ _ => rfl)))) (xa_nil pa_nil)))))))))))))) (blkOk_by (N := ["program", "binder", "home", "way", "one"]) (sc := defScope s_uses_of) (by decide +kernel)) (fun _ _ _ _ _ => (x_gtup (is := [3, 4]) rfl (pg_tup rfl (pgs_cons (pg_name (i := 3) sc_uses_of.nd rfl (by first | exact Or.inl rfl | exact Or.inr rfl)) (pgs_cons (pg_name (i := 4) sc_uses_of.nd rfl (by first | exact Or.inl rfl | exact Or.inr rfl)) pgs_nil))))) (fun _ _ _ _ _ => (pts_one (x_test2 (pt_cmpR (op_eqW (un_of hr)) (x_varB (pv 4)) (x_varB (pv 1)) rfl) p_eq))) (fun _ _ _ _ _ => (x_var (pv 3))))))) (s_nil pss_nil)))))))
theorem ok_name_of (T : Top w K mg) {k : Nat} (ih : Oks P w base T k) : GOk P w K mg base CX0 (k + 1) T.a_name_of T.d_name_of ["program", "binder"] (spD K W0 2 (sem (k + 1) f_name_of)) := by
  rw [e_name_of]
  refine g_fn (N := ["program", "binder", "expression"]) (ps := ["program", "binder"]) (g := m_name_of (sem k)) T.F_name_of sc_name_of (fun cdv A outer s H EX hr hq => ?_)
  have hc := hr
  exact (s_seq (pss_cons (s_if (ps_if (x_test2 (pt_cmpR (op_eqW (un_of hr)) (c_EB (x_ix (pe_ix ix_seq (x_varB (pv 1)) (c_FB (x_c pe_int fun _ _ => .int _)) (fun _ _ => rfl)))) (c_FB (x_c pe_str fun _ _ => .str _)) rfl) p_eq) (s_seq (pss_cons (s_ret (ps_ret (x_ix (pe_ix ix_seq (c_EB (x_ix (pe_ix ix_seq (c_EB (x_call rfl (g_call ih.i_function hc hq (by rfl) T.m_function T.F_function.kp T.b_function pass0 (xa_cons (pa_cons (x_var (pv 0)) (xa_cons (pa_cons (c_EF (x_ix (pe_ix ix_seq (x_varB (pv 1)) (c_FB (x_c pe_int fun _ _ => .int _)) (fun _ _ => rfl)))) (xa_cons (pa_cons (c_EF (x_ix (pe_ix ix_seq (x_varB (pv 1)) (c_FB (x_c pe_int fun _ _ => .int _)) (fun _ _ => rfl)))) (xa_nil pa_nil)))))))))) (c_FB (x_c pe_int fun _ _ => .int _)) (fun _ _ => rfl)))) (c_EB (x_ix (pe_ix ix_seq (x_varB (pv 1)) (c_FB (x_c pe_int fun _ _ => .int _)) (fun _ _ => rfl)))) (fun _ _ => rfl))))) (s_nil pss_nil))) (s_nil pss_nil))) (s_seq (pss_cons (s_set (ps_set (i := 2) sc_name_of.nd rfl (by first | exact Or.inl rfl | exact Or.inr rfl) (c_FE (c_EF (x_call rfl (g_call ih.i_at_way hc hq (by rfl) T.m_at_way T.F_at_way.kp T.b_at_way pass0 (xa_cons (pa_cons (x_var (pv 0)) (xa_cons (pa_cons (c_EF (x_ix (pe_ix ix_seq (x_varB (pv 1)) (c_FB (x_c pe_int fun _ _ => .int _)) (fun _ _ => rfl)))) (xa_nil pa_nil))))))))))) (s_seq (pss_cons (s_ret (ps_ret (x_ix (pe_ix ix_seq (x_varB (pv 2)) (c_EB (x_dget (pe_dget (hu_of hr) (c_FB (x_disp (ks := ["let", "count", "sum"]) (fs := [(dC (.int 1)), (dC (.int 2)), (dC (.int 3))]) rfl (pe_disp (pps_cons pe_str (x_c pe_int fun _ _ => .int _) (pps_cons pe_str (x_c pe_int fun _ _ => .int _) (pps_cons pe_str (x_c pe_int fun _ _ => .int _) pps_nil))) rfl rfl (by simp) (by decide)))) (c_EB (x_ix (pe_ix ix_seq (x_varB (pv 1)) (c_FB (x_c pe_int fun _ _ => .int _)) (fun _ _ => rfl)))) (fun _ _ => rfl)))) (fun _ _ => rfl))))) (s_nil pss_nil)))))))
theorem ok__law_cell (T : Top w K mg) {k : Nat} (ih : Oks P w base T k) : GOk P w K mg base CX0 (k + 1) T.a__law_cell T.d__law_cell ["_law_cells", "_law_spot"] (spD K W0 2 (sem (k + 1) f__law_cell)) := by
  rw [e__law_cell]
  refine g_fn (N := ["_law_cells", "_law_spot", "_law_k", "_law_base", "_law_own", "_law_turn"]) (ps := ["_law_cells", "_law_spot"]) (g := m__law_cell (sem k)) T.F__law_cell sc__law_cell (fun cdv A outer s H EX hr hq => ?_)
  have hc := hr
  exact (s_seq (pss_cons (s_putR (ps_asg (c_EF (x_op2 (pe_op op_addA (c_EB (x_ix (pe_ix ix_seq (x_varB (pv 1)) (c_FB (x_c pe_int fun _ _ => .int _)) (fun _ _ => rfl)))) (c_FB (x_c pe_int fun _ _ => .int _))) p_add)) (pg_sub (x_varB (pv 1)) (c_FB (x_c pe_int fun _ _ => .int _)) set_list))) (s_seq (pss_cons (s_set (ps_set (i := 2) sc__law_cell.nd rfl (by first | exact Or.inl rfl | exact Or.inr rfl) (c_FE (c_EF (x_ix (pe_ix ix_seq (x_varB (pv 1)) (c_FB (x_c pe_int fun _ _ => .int _)) (fun _ _ => rfl))))))) (s_seq (pss_cons (s_set (ps_set (i := 3) sc__law_cell.nd rfl (by first | exact Or.inl rfl | exact Or.inr rfl) (c_FE (c_EF (x_op2 (pe_op op_addA (c_EB (x_op2 (pe_op op_mulA (c_EB (x_op2 (pe_op op_mulA (c_FB (x_c pe_int fun _ _ => .int _)) (x_varB (pv 2))) p_mul)) (x_varB (pv 2))) p_mul)) (c_EB (x_op2 (pe_op op_mulA (c_FB (x_c pe_int fun _ _ => .int _)) (x_varB (pv 2))) p_mul))) p_add))))) (s_seq (pss_cons (s_if (ps_if (PW.pt (x_and (pw_and (x_test2 (pt_cmpR op_gt (c_EB (x_prim (pe_callB call_lenA (by rfl) T.z_len bt_len (xr_cons (pa_cons (x_varB (pv 0)) (xr_nil pa_nil)))) p_len)) (c_FB (x_c pe_int fun _ _ => .int _)) rfl) (p_cmp fun i j => decide (j < i))) (x_and (pw_and (x_test2 (pt_cmpR op_ge (c_EB (x_ix (pe_ix ix_seq (x_varB (pv 0)) (c_EB (x_op2 (pe_op op_modA (x_varB (pv 2)) (c_EB (x_prim (pe_callB call_lenA (by rfl) T.z_len bt_len (xr_cons (pa_cons (x_varB (pv 0)) (xr_nil pa_nil)))) p_len))) p_mod)) (fun _ _ => rfl)))) (c_EB (x_op2 (pe_op op_pow (c_FB (x_c pe_int fun _ _ => .int _)) (c_FB (x_c pe_int fun _ _ => .int _))) p_pow)) rfl) (p_cmp fun i j => decide (j ≤ i))) (pw_and1 (x_test2 (pt_cmpR op_lt (c_EB (x_op2 (pe_op op_fdivA (x_varB (pv 2)) (c_EB (x_prim (pe_callB call_lenA (by rfl) T.z_len bt_len (xr_cons (pa_cons (x_varB (pv 0)) (xr_nil pa_nil)))) p_len))) p_fdiv)) (c_FB (x_c pe_int fun _ _ => .int _)) rfl) (p_cmp fun i j => decide (i < j))))))))) (s_seq (pss_cons (s_set (ps_set (i := 4) sc__law_cell.nd rfl (by first | exact Or.inl rfl | exact Or.inr rfl) (c_FE (c_EF (x_ix (pe_ix ix_seq (x_varB (pv 0)) (c_EB (x_op2 (pe_op op_modA (x_varB (pv 2)) (c_EB (x_prim (pe_callB call_lenA (by rfl) T.z_len bt_len (xr_cons (pa_cons (x_varB (pv 0)) (xr_nil pa_nil)))) p_len))) p_mod)) (fun _ _ => rfl))))))) (s_seq (pss_cons (s_for (ps_for PassesOwn.never rfl (x_rng1 (pi_range1 (by rfl) T.z_range (xr_cons (pa_cons (c_EB (x_op2 (pe_op op_fdivA (x_varB (pv 2)) (c_EB (x_prim (pe_callB call_lenA (by rfl) T.z_len bt_len (xr_cons (pa_cons (x_varB (pv 0)) (xr_nil pa_nil)))) p_len))) p_fdiv)) (xr_nil pa_nil))))) (x_gname (pg_name (i := 5) sc__law_cell.nd rfl (by first | exact Or.inl rfl | exact Or.inr rfl))) (s_seq (pss_cons (s_set (ps_set (i := 4) sc__law_cell.nd rfl (by first | exact Or.inl rfl | exact Or.inr rfl) (c_FE (c_EF (x_op2 (pe_op op_fdivA (x_varB (pv 4)) (c_FB (x_c pe_int fun _ _ => .int _))) p_fdiv))))) (s_nil pss_nil))))) (s_seq (pss_cons (s_if (ps_if (x_test2 (pt_cmpR op_gt (x_varB (pv 4)) (c_FB (x_c pe_int fun _ _ => .int _)) rfl) (p_cmp fun i j => decide (j < i))) (s_seq (pss_cons (s_ret (ps_ret (x_op2 (pe_op op_modA (x_varB (pv 4)) (c_FB (x_c pe_int fun _ _ => .int _))) p_mod))) (s_nil pss_nil))) (s_nil pss_nil))) (s_nil pss_nil))))))) (s_nil pss_nil))) (s_seq (pss_cons (s_if (ps_if (x_test2 (pt_cmpR op_gt (c_EB (x_prim (pe_callB call_lenA (by rfl) T.z_len bt_len (xr_cons (pa_cons (x_varB (pv 0)) (xr_nil pa_nil)))) p_len)) (c_FB (x_c pe_int fun _ _ => .int _)) rfl) (p_cmp fun i j => decide (j < i))) (s_seq (pss_cons (s_set (ps_set (i := 3) sc__law_cell.nd rfl (by first | exact Or.inl rfl | exact Or.inr rfl) (c_FE (c_EF (x_op2 (pe_op op_addA (x_varB (pv 3)) (c_EB (x_op2 (pe_op op_mulA (c_EB (x_op2 (pe_op op_modA (c_EB (x_ix (pe_ix ix_seq (x_varB (pv 0)) (c_EB (x_op2 (pe_op op_modA (x_varB (pv 2)) (c_EB (x_prim (pe_callB call_lenA (by rfl) T.z_len bt_len (xr_cons (pa_cons (x_varB (pv 0)) (xr_nil pa_nil)))) p_len))) p_mod)) (fun _ _ => rfl)))) (c_FB (x_c pe_int fun _ _ => .int _))) p_mod)) (c_EB (x_op2 (pe_op op_addA (c_FB (x_c pe_int fun _ _ => .int _)) (c_EB (x_op2 (pe_op op_fdivA (x_varB (pv 2)) (c_EB (x_prim (pe_callB call_lenA (by rfl) T.z_len bt_len (xr_cons (pa_cons (x_varB (pv 0)) (xr_nil pa_nil)))) p_len))) p_fdiv))) p_add))) p_mul))) p_add))))) (s_nil pss_nil))) (s_nil pss_nil))) (s_seq (pss_cons (s_ret (ps_ret (x_op2 (pe_op op_fdivA (c_EB (x_op2 (pe_op op_modA (c_EB (x_op2 (pe_op op_mulA (c_EB (x_op2 (pe_op op_modA (c_EB (x_op2 (pe_op op_mulA (x_varB (pv 3)) (c_FB (x_c pe_int fun _ _ => .int _))) p_mul)) (c_FB (x_c pe_int fun _ _ => .int _))) p_mod)) (c_FB (x_c pe_int fun _ _ => .int _))) p_mul)) (c_FB (x_c pe_int fun _ _ => .int _))) p_mod)) (c_FB (x_c pe_int fun _ _ => .int _))) p_fdiv))) (s_nil pss_nil)))))))))))))
theorem ok__law_names (T : Top w K mg) {k : Nat} (ih : Oks P w base T k) : GOk P w K mg base CX0 (k + 1) T.a__law_names T.d__law_names ["_law_n"] (spD K W0 1 (sem (k + 1) f__law_names)) := by
  rw [e__law_names]
  refine g_fn (N := ["_law_n", "_law_letters", "_law_some", "_law_k", "_law_sign"]) (ps := ["_law_n"]) (g := m__law_names (sem k)) T.F__law_names sc__law_names (fun cdv A outer s H EX hr hq => ?_)
  have hc := hr
  exact (s_seq (pss_cons (s_set (ps_set (i := 1) sc__law_names.nd rfl (by first | exact Or.inl rfl | exact Or.inr rfl) (c_FE (x_c pe_str fun _ _ => .str _)))) (s_seq (pss_cons (s_set (ps_set (i := 2) sc__law_names.nd rfl (by first | exact Or.inl rfl | exact Or.inr rfl) (x_lst (pe_lst (xa_cons (pa_cons (c_EF (x_lc (by decide) (pe_lc (own := [("_law_sign", 4)]) rfl sc__law_names.nd (x_it (PI.or (pi_list (x_var (pv 1))) (PI.or (pi_tup (x_var (pv 1))) (pi_str (x_var (pv 1)))))) (blkOk_by (N := ["_law_n", "_law_letters", "_law_some", "_law_k", "_law_sign"]) (sc := defScope s__law_names) (by decide +kernel)) (fun _ _ _ _ _ => (x_gname (pg_name (i := 4) sc__law_names.nd rfl (by first | exact Or.inl rfl | exact Or.inr rfl)))) (fun _ _ _ _ _ => x_yes) (fun _ _ _ _ _ => (x_var (pv 4)))))) (xa_cons (pa_cons (c_EF (x_lc (by decide) (pe_lc (own := [("_law_sign", 4)]) rfl sc__law_names.nd (x_it (PI.or (pi_list (x_var (pv 1))) (PI.or (pi_tup (x_var (pv 1))) (pi_str (x_var (pv 1)))))) (blkOk_by (N := ["_law_n", "_law_letters", "_law_some", "_law_k", "_law_sign"]) (sc := defScope s__law_names) (by decide +kernel)) (fun _ _ _ _ _ => (x_gname (pg_name (i := 4) sc__law_names.nd rfl (by first | exact Or.inl rfl | exact Or.inr rfl)))) (fun _ _ _ _ _ => x_yes) (fun _ _ _ _ _ => (c_EF (x_op2 (pe_op op_addA (c_EB (x_op2 (pe_op op_addA (c_FB (x_c pe_str fun _ _ => .str _)) (x_varB (pv 4))) p_add)) (c_FB (x_c pe_str fun _ _ => .str _))) p_add)))))) (xa_nil pa_nil))))))))) (s_seq (pss_cons (s_app (ps_expr (pe_bm PySem.F.plainAttrs_list PySem.F.slot_list_append PySem.F.type_list_append mt_append (pv 2) (pa_cons (c_EF (x_op2 (pe_op op_addA (c_EB (x_lc (by decide) (pe_lc (own := [("_law_k", 3)]) rfl sc__law_names.nd (x_rng1 (pi_range1 (by rfl) T.z_range (xr_cons (pa_cons (c_FB (x_c pe_int fun _ _ => .int _)) (xr_nil pa_nil))))) (blkOk_by (N := ["_law_n", "_law_letters", "_law_some", "_law_k", "_law_sign"]) (sc := defScope s__law_names) (by decide +kernel)) (fun _ _ _ _ _ => (x_gname (pg_name (i := 3) sc__law_names.nd rfl (by first | exact Or.inl rfl | exact Or.inr rfl)))) (fun _ _ _ _ _ => x_yes) (fun _ _ _ _ _ => (c_EF (x_sl (pe_slice sl_A3 (c_FB (x_c pe_str fun _ _ => .str _)) x_no (x_so (c_EB (x_op2 (pe_op op_addA (x_varB (pv 3)) (c_FB (x_c pe_int fun _ _ => .int _))) p_add)))) p_sl)))))) (c_EB (x_lc (by decide) (pe_lc (own := [("_law_k", 3)]) rfl sc__law_names.nd (x_rng1 (pi_range1 (by rfl) T.z_range (xr_cons (pa_cons (c_FB (x_c pe_int fun _ _ => .int _)) (xr_nil pa_nil))))) (blkOk_by (N := ["_law_n", "_law_letters", "_law_some", "_law_k", "_law_sign"]) (sc := defScope s__law_names) (by decide +kernel)) (fun _ _ _ _ _ => (x_gname (pg_name (i := 3) sc__law_names.nd rfl (by first | exact Or.inl rfl | exact Or.inr rfl)))) (fun _ _ _ _ _ => x_yes) (fun _ _ _ _ _ => (c_EF (x_sl (pe_slice sl_A3 (c_FB (x_c pe_str fun _ _ => .str _)) x_no (x_so (c_EB (x_op2 (pe_op op_addA (x_varB (pv 3)) (c_FB (x_c pe_int fun _ _ => .int _))) p_add)))) p_sl))))))) p_add)) pa_nil)))) (s_seq (pss_cons (s_set (ps_set (i := 2) sc__law_names.nd rfl (by first | exact Or.inl rfl | exact Or.inr rfl) (x_ix (pe_ix ix_seq (x_varB (pv 2)) (c_EB (x_op2 (pe_op op_modA (x_varB (pv 0)) (c_FB (x_c pe_int fun _ _ => .int _))) p_mod)) (fun _ _ => rfl))))) (s_seq (pss_cons (s_ret (ps_ret (x_lc (by decide) (pe_lc (own := [("_law_k", 3)]) rfl sc__law_names.nd (x_rng1 (pi_range1 (by rfl) T.z_range (xr_cons (pa_cons (c_FB (x_c pe_int fun _ _ => .int _)) (xr_nil pa_nil))))) (blkOk_by (N := ["_law_n", "_law_letters", "_law_some", "_law_k", "_law_sign"]) (sc := defScope s__law_names) (by decide +kernel)) (fun _ _ _ _ _ => (x_gname (pg_name (i := 3) sc__law_names.nd rfl (by first | exact Or.inl rfl | exact Or.inr rfl)))) (fun _ _ _ _ _ => x_yes) (fun _ _ _ _ _ => (c_EF (x_ix (pe_ix ix_seq (x_varB (pv 2)) (c_EB (x_op2 (pe_op op_modA (c_EB (x_op2 (pe_op op_addA (c_EB (x_op2 (pe_op op_fdivA (x_varB (pv 0)) (c_FB (x_c pe_int fun _ _ => .int _))) p_fdiv)) (c_EB (x_op2 (pe_op op_mulA (c_EB (x_op2 (pe_op op_addA (c_EB (x_op2 (pe_op op_mulA (c_FB (x_c pe_int fun _ _ => .int _)) (c_EB (x_op2 (pe_op op_modA (c_EB (x_op2 (pe_op op_fdivA (x_varB (pv 0)) (c_FB (x_c pe_int fun _ _ => .int _))) p_fdiv)) (c_FB (x_c pe_int fun _ _ => .int _))) p_mod))) p_mul)) (c_FB (x_c pe_int fun _ _ => .int _))) p_add)) (x_varB (pv 3))) p_mul))) p_add)) (c_FB (x_c pe_int fun _ _ => .int _))) p_mod)) (fun _ _ => rfl))))))))) (s_nil pss_nil)))))))))))
theorem ok__law_number (T : Top w K mg) {k : Nat} (ih : Oks P w base T k) : GOk P w K mg base CX0 (k + 1) T.a__law_number T.d__law_number ["_law_n"] (spD K W0 1 (sem (k + 1) f__law_number)) := by
  rw [e__law_number]
  refine g_fn (N := ["_law_n"]) (ps := ["_law_n"]) (g := m__law_number (sem k)) T.F__law_number sc__law_number (fun cdv A outer s H EX hr hq => ?_)
  have hc := hr
  exact (s_seq (pss_cons (s_ret (ps_ret (x_ix (pe_ix ix_seq (c_EB (x_lst (pe_lst (xa_cons (pa_cons (c_EF (x_op2 (pe_op op_modA (c_EB (x_op2 (pe_op op_fdivA (x_varB (pv 0)) (c_FB (x_c pe_int fun _ _ => .int _))) p_fdiv)) (c_FB (x_c pe_int fun _ _ => .int _))) p_mod)) (xa_cons (pa_cons (c_EF (x_op2 (pe_op op_sub (c_EB (x_op2 (pe_op op_modA (c_EB (x_op2 (pe_op op_fdivA (x_varB (pv 0)) (c_FB (x_c pe_int fun _ _ => .int _))) p_fdiv)) (c_FB (x_c pe_int fun _ _ => .int _))) p_mod)) (c_FB (x_c pe_int fun _ _ => .int _))) p_sub)) (xa_cons (pa_cons (c_EF (x_op2 (pe_op op_modA (c_EB (x_op2 (pe_op op_fdivA (x_varB (pv 0)) (c_FB (x_c pe_int fun _ _ => .int _))) p_fdiv)) (c_FB (x_c pe_int fun _ _ => .int _))) p_mod)) (xa_cons (pa_cons (c_EF (x_ix (pe_ix ix_seq (c_EB (x_lst (pe_lst (xa_cons (pa_cons (c_EF (x_op2 (pe_op op_pow (c_FB (x_c pe_int fun _ _ => .int _)) (c_FB (x_c pe_int fun _ _ => .int _))) p_pow)) (xa_cons (pa_cons (c_EF (x_op1 (pe_un un_neg (c_EB (x_op2 (pe_op op_pow (c_FB (x_c pe_int fun _ _ => .int _)) (c_FB (x_c pe_int fun _ _ => .int _))) p_pow))) p_neg)) (xa_cons (pa_cons (x_c pe_int fun _ _ => .int _) (xa_cons (pa_cons (x_c pe_int fun _ _ => .int _) (xa_nil pa_nil)))))))))))) (c_EB (x_op2 (pe_op op_modA (c_EB (x_op2 (pe_op op_fdivA (x_varB (pv 0)) (c_FB (x_c pe_int fun _ _ => .int _))) p_fdiv)) (c_FB (x_c pe_int fun _ _ => .int _))) p_mod)) (fun _ _ => rfl)))) (xa_nil pa_nil)))))))))))) (c_EB (x_op2 (pe_op op_fdivA (c_EB (x_op2 (pe_op op_modA (x_varB (pv 0)) (c_FB (x_c pe_int fun _ _ => .int _))) p_mod)) (c_FB (x_c pe_int fun _ _ => .int _))) p_fdiv)) (fun _ _ => rfl))))) (s_nil pss_nil)))
theorem ok__law_leaf (T : Top w K mg) {k : Nat} (ih : Oks P w base T k) : GOk P w K mg base CX0 (k + 1) T.a__law_leaf T.d__law_leaf ["_law_at_here", "_law_scope", "_law_n"] (spD K W0 3 (sem (k + 1) f__law_leaf)) := by
  rw [e__law_leaf]
  refine g_fn (N := ["_law_at_here", "_law_scope", "_law_n"]) (ps := ["_law_at_here", "_law_scope", "_law_n"]) (g := m__law_leaf (sem k)) T.F__law_leaf sc__law_leaf (fun cdv A outer s H EX hr hq => ?_)
  have hc := hr
  exact (s_seq (pss_cons (s_if (ps_if (PW.pt (x_and (pw_and (x_test2 (pt_cmpR (op_neW (un_of hr)) (x_varB (pv 1)) (c_EB (x_lst (pe_lst (xa_nil pa_nil)))) rfl) p_ne) (pw_and1 (x_test2 (pt_cmpR op_gt (c_EB (x_op2 (pe_op op_modA (x_varB (pv 2)) (c_FB (x_c pe_int fun _ _ => .int _))) p_mod)) (c_FB (x_c pe_int fun _ _ => .int _)) rfl) (p_cmp fun i j => decide (j < i))))))) (s_seq (pss_cons (s_ret (ps_ret (c_FE (x_tup (pe_tupX (xa_cons (pa_cons (x_c pe_str fun _ _ => .str _) (xa_cons (pa_cons (c_EF (x_ix (pe_ix ix_seq (x_varB (pv 1)) (c_EB (x_op2 (pe_op op_modA (c_EB (x_op2 (pe_op op_fdivA (x_varB (pv 2)) (c_FB (x_c pe_int fun _ _ => .int _))) p_fdiv)) (c_EB (x_prim (pe_callB call_lenA (by rfl) T.z_len bt_len (xr_cons (pa_cons (x_varB (pv 1)) (xr_nil pa_nil)))) p_len))) p_mod)) (fun _ _ => rfl)))) (xa_nil pa_nil)))))))))) (s_nil pss_nil))) (s_nil pss_nil))) (s_seq (pss_cons (s_ret (ps_ret (c_FE (x_tup (pe_tupX (xa_cons (pa_cons (x_c pe_str fun _ _ => .str _) (xa_cons (pa_cons (c_EF (x_call rfl (g_call ih.i__law_number hc hq (by rfl) T.m__law_number T.F__law_number.kp T.b__law_number pass0 (xa_cons (pa_cons (c_EF (x_op2 (pe_op op_fdivA (x_varB (pv 2)) (c_FB (x_c pe_int fun _ _ => .int _))) p_fdiv)) (xa_nil pa_nil)))))) (xa_nil pa_nil)))))))))) (s_nil pss_nil)))))
theorem ok__law_op (T : Top w K mg) {k : Nat} (ih : Oks P w base T k) : GOk P w K mg base CX0 (k + 1) T.a__law_op T.d__law_op ["_law_cells", "_law_spot", "_law_at_here", "_law_scope", "_law_deep", "_law_n"] (spD K W0 6 (sem (k + 1) f__law_op)) := by
  rw [e__law_op]
  refine g_fn (N := ["_law_cells", "_law_spot", "_law_at_here", "_law_scope", "_law_deep", "_law_n", "_law_sign", "_law_one"]) (ps := ["_law_cells", "_law_spot", "_law_at_here", "_law_scope", "_law_deep", "_law_n"]) (g := m__law_op (sem k)) T.F__law_op sc__law_op (fun cdv A outer s H EX hr hq => ?_)
  have hc := hr
  exact (s_seq (pss_cons (s_set (ps_set (i := 6) sc__law_op.nd rfl (by first | exact Or.inl rfl | exact Or.inr rfl) (c_FE (c_EF (x_ix (pe_ix ix_seq (c_FB (x_c pe_str fun _ _ => .str _)) (c_EB (x_op2 (pe_op op_modA (x_varB (pv 5)) (c_EB (x_ix (pe_ix ix_seq (c_EB (x_lst (pe_lst (xa_cons (pa_cons (x_c pe_int fun _ _ => .int _) (xa_cons (pa_cons (x_c pe_int fun _ _ => .int _) (xa_nil pa_nil)))))))) (c_EB (x_prim (pe_callTy call_int1 (by rfl) T.z_int bt_int (xr_cons (pa_cons (c_EB (x_dget (pe_dget (hu_of hr) (x_varB (pv 2)) (c_FB (x_c pe_str fun _ _ => .str _)) (fun _ _ => rfl)))) (xr_nil pa_nil)))) p_int)) (fun _ _ => rfl))))) p_mod)) (fun _ _ => rfl))))))) (s_seq (pss_cons (s_set (ps_set (i := 7) sc__law_op.nd rfl (by first | exact Or.inl rfl | exact Or.inr rfl) (c_FE (c_EF (x_call rfl (g_call ih.i__law_expression hc hq (by rfl) T.m__law_expression T.F__law_expression.kp T.b__law_expression pass0 (xa_cons (pa_cons (x_var (pv 0)) (xa_cons (pa_cons (x_var (pv 1)) (xa_cons (pa_cons (x_var (pv 2)) (xa_cons (pa_cons (x_var (pv 3)) (xa_cons (pa_cons (c_EF (x_op2 (pe_op op_sub (x_varB (pv 4)) (c_FB (x_c pe_int fun _ _ => .int _))) p_sub)) (xa_nil pa_nil))))))))))))))))) (s_seq (pss_cons (s_if (ps_if (x_test2 (pt_cmpR (op_eqW (un_of hr)) (x_varB (pv 6)) (c_FB (x_c pe_str fun _ _ => .str _)) rfl) p_eq) (s_seq (pss_cons (s_ret (ps_ret (c_FE (x_tup (pe_tupX (xa_cons (pa_cons (x_c pe_str fun _ _ => .str _) (xa_cons (pa_cons (x_var (pv 6)) (xa_cons (pa_cons (x_var (pv 7)) (xa_cons (pa_cons (x_tup (pe_tupX (xa_cons (pa_cons (x_c pe_str fun _ _ => .str _) (xa_cons (pa_cons (c_EF (x_op2 (pe_op op_sub (c_EB (x_op2 (pe_op op_modA (c_EB (x_op2 (pe_op op_fdivA (x_varB (pv 5)) (c_FB (x_c pe_int fun _ _ => .int _))) p_fdiv)) (c_FB (x_c pe_int fun _ _ => .int _))) p_mod)) (c_FB (x_c pe_int fun _ _ => .int _))) p_sub)) (xa_nil pa_nil))))))) (xa_nil pa_nil)))))))))))))) (s_nil pss_nil))) (s_nil pss_nil))) (s_seq (pss_cons (s_ret (ps_ret (c_FE (x_tup (pe_tupX (xa_cons (pa_cons (x_c pe_str fun _ _ => .str _) (xa_cons (pa_cons (x_var (pv 6)) (xa_cons (pa_cons (x_var (pv 7)) (xa_cons (pa_cons (c_EF (x_call rfl (g_call ih.i__law_expression hc hq (by rfl) T.m__law_expression T.F__law_expression.kp T.b__law_expression pass0 (xa_cons (pa_cons (x_var (pv 0)) (xa_cons (pa_cons (x_var (pv 1)) (xa_cons (pa_cons (x_var (pv 2)) (xa_cons (pa_cons (x_var (pv 3)) (xa_cons (pa_cons (c_EF (x_op2 (pe_op op_sub (x_varB (pv 4)) (c_FB (x_c pe_int fun _ _ => .int _))) p_sub)) (xa_nil pa_nil)))))))))))))) (xa_nil pa_nil)))))))))))))) (s_nil pss_nil)))))))))
theorem ok__law_times (T : Top w K mg) {k : Nat} (ih : Oks P w base T k) : GOk P w K mg base CX0 (k + 1) T.a__law_times T.d__law_times ["_law_cells", "_law_spot", "_law_at_here", "_law_scope", "_law_deep", "_law_n"] (spD K W0 6 (sem (k + 1) f__law_times)) := by
  rw [e__law_times]
  refine g_fn (N := ["_law_cells", "_law_spot", "_law_at_here", "_law_scope", "_law_deep", "_law_n", "_law_names_here", "_law_second", "_law_many", "_law_one", "_law_inner", "_law_other", "_law_first", "_law_behind", "_law_name"]) (ps := ["_law_cells", "_law_spot", "_law_at_here", "_law_scope", "_law_deep", "_law_n"]) (g := m__law_times (sem k)) T.F__law_times sc__law_times (fun cdv A outer s H EX hr hq => ?_)
  have hc := hr
  exact (s_seq (pss_cons (s_set (ps_set (i := 6) sc__law_times.nd rfl (by first | exact Or.inl rfl | exact Or.inr rfl) (c_FE (c_EF (x_dget (pe_dget (hu_of hr) (x_varB (pv 2)) (c_FB (x_c pe_str fun _ _ => .str _)) (fun _ _ => rfl))))))) (s_seq (pss_cons (s_asg (ps_asg (x_tup (pe_tupX (xa_cons (pa_cons (c_EF (x_op2 (pe_op op_modA (c_EB (x_op2 (pe_op op_fdivA (x_varB (pv 5)) (c_FB (x_c pe_int fun _ _ => .int _))) p_fdiv)) (c_FB (x_c pe_int fun _ _ => .int _))) p_mod)) (xa_cons (pa_cons (c_EF (x_op2 (pe_op op_modA (c_EB (x_op2 (pe_op op_fdivA (x_varB (pv 5)) (c_FB (x_c pe_int fun _ _ => .int _))) p_fdiv)) (c_FB (x_c pe_int fun _ _ => .int _))) p_mod)) (xa_nil pa_nil))))))) (x_gtup (is := [12, 13]) rfl (pg_tup rfl (pgs_cons (pg_name (i := 12) sc__law_times.nd rfl (by first | exact Or.inl rfl | exact Or.inr rfl)) (pgs_cons (pg_name (i := 13) sc__law_times.nd rfl (by first | exact Or.inl rfl | exact Or.inr rfl)) pgs_nil)))))) (s_seq (pss_cons (s_set (ps_set (i := 7) sc__law_times.nd rfl (by first | exact Or.inl rfl | exact Or.inr rfl) (c_FE (c_EF (x_op2 (pe_op op_modA (c_EB (x_op2 (pe_op op_addA (c_EB (x_op2 (pe_op op_addA (x_varB (pv 12)) (c_FB (x_c pe_int fun _ _ => .int _))) p_add)) (x_varB (pv 13))) p_add)) (c_FB (x_c pe_int fun _ _ => .int _))) p_mod))))) (s_seq (pss_cons (s_set (ps_set (i := 8) sc__law_times.nd rfl (by first | exact Or.inl rfl | exact Or.inr rfl) (c_FE (x_tup (pe_tupX (xa_cons (pa_cons (x_c pe_str fun _ _ => .str _) (xa_cons (pa_cons (c_EF (x_op2 (pe_op op_modA (x_varB (pv 5)) (c_FB (x_c pe_int fun _ _ => .int _))) p_mod)) (xa_nil pa_nil)))))))))) (s_seq (pss_cons (s_if (ps_if (PW.pt (x_and (pw_and (x_not (pt_not (x_truth (pt_truth (c_EB (x_dget (pe_dget (hu_of hr) (x_varB (pv 2)) (c_FB (x_c pe_str fun _ _ => .str _)) (fun _ _ => rfl)))) (fun _ => rfl))))) (pw_and1 (x_test2 (pt_cmpR (op_eqW (un_of hr)) (c_EB (x_op2 (pe_op op_modA (c_EB (x_op2 (pe_op op_fdivA (x_varB (pv 5)) (c_FB (x_c pe_int fun _ _ => .int _))) p_fdiv)) (c_FB (x_c pe_int fun _ _ => .int _))) p_mod)) (c_FB (x_c pe_int fun _ _ => .int _)) rfl) p_eq))))) (s_seq (pss_cons (s_set (ps_set (i := 8) sc__law_times.nd rfl (by first | exact Or.inl rfl | exact Or.inr rfl) (c_FE (x_tup (pe_tupX (xa_cons (pa_cons (x_c pe_str fun _ _ => .str _) (xa_cons (pa_cons (x_c pe_str fun _ _ => .str _) (xa_cons (pa_cons (c_EF (x_call rfl (g_call ih.i__law_expression hc hq (by rfl) T.m__law_expression T.F__law_expression.kp T.b__law_expression pass0 (xa_cons (pa_cons (x_var (pv 0)) (xa_cons (pa_cons (x_var (pv 1)) (xa_cons (pa_cons (x_var (pv 2)) (xa_cons (pa_cons (x_var (pv 3)) (xa_cons (pa_cons (c_EF (x_op2 (pe_op op_sub (x_varB (pv 4)) (c_FB (x_c pe_int fun _ _ => .int _))) p_sub)) (xa_nil pa_nil)))))))))))))) (xa_cons (pa_cons (x_tup (pe_tupX (xa_cons (pa_cons (x_c pe_str fun _ _ => .str _) (xa_cons (pa_cons (x_c pe_int fun _ _ => .int _) (xa_nil pa_nil))))))) (xa_nil pa_nil)))))))))))))) (s_nil pss_nil))) (s_seq (pss_cons (s_if (ps_if (PW.pt (x_and (pw_and (x_not (pt_not (x_truth (pt_truth (c_EB (x_dget (pe_dget (hu_of hr) (x_varB (pv 2)) (c_FB (x_c pe_str fun _ _ => .str _)) (fun _ _ => rfl)))) (fun _ => rfl))))) (pw_and1 (x_test2 (pt_cmpR (op_eqW (un_of hr)) (c_EB (x_op2 (pe_op op_modA (c_EB (x_op2 (pe_op op_fdivA (x_varB (pv 5)) (c_FB (x_c pe_int fun _ _ => .int _))) p_fdiv)) (c_FB (x_c pe_int fun _ _ => .int _))) p_mod)) (c_FB (x_c pe_int fun _ _ => .int _)) rfl) p_eq))))) (s_seq (pss_cons (s_set (ps_set (i := 8) sc__law_times.nd rfl (by first | exact Or.inl rfl | exact Or.inr rfl) (c_FE (x_tup (pe_tupX (xa_cons (pa_cons (x_c pe_str fun _ _ => .str _) (xa_cons (pa_cons (c_EF (x_op2 (pe_op op_addA (c_FB (x_c pe_int fun _ _ => .int _)) (c_EB (x_op2 (pe_op op_modA (c_EB (x_op2 (pe_op op_fdivA (x_varB (pv 5)) (c_FB (x_c pe_int fun _ _ => .int _))) p_fdiv)) (c_FB (x_c pe_int fun _ _ => .int _))) p_mod))) p_add)) (xa_nil pa_nil)))))))))) (s_nil pss_nil))) (s_nil pss_nil))) (s_nil pss_nil))))) (s_seq (pss_cons (s_set (ps_set (i := 9) sc__law_times.nd rfl (by first | exact Or.inl rfl | exact Or.inr rfl) (c_FE (c_EF (x_call rfl (g_call ih.i__law_expression hc hq (by rfl) T.m__law_expression T.F__law_expression.kp T.b__law_expression pass0 (xa_cons (pa_cons (x_var (pv 0)) (xa_cons (pa_cons (x_var (pv 1)) (xa_cons (pa_cons (x_var (pv 2)) (xa_cons (pa_cons (x_var (pv 3)) (xa_cons (pa_cons (c_EF (x_op2 (pe_op op_sub (x_varB (pv 4)) (c_FB (x_c pe_int fun _ _ => .int _))) p_sub)) (xa_nil pa_nil))))))))))))))))) (s_seq (pss_cons (s_set (ps_set (i := 10) sc__law_times.nd rfl (by first | exact Or.inl rfl | exact Or.inr rfl) (c_FE (c_EF (x_op2 (pe_op op_addA (c_EB (x_lc (by decide) (pe_lc (own := [("_law_name", 14)]) rfl sc__law_times.nd (x_it (PI.or (pi_list (x_var (pv 3))) (PI.or (pi_tup (x_var (pv 3))) (pi_str (x_var (pv 3)))))) (blkOk_by (N := ["_law_cells", "_law_spot", "_law_at_here", "_law_scope", "_law_deep", "_law_n", "_law_names_here", "_law_second", "_law_many", "_law_one", "_law_inner", "_law_other", "_law_first", "_law_behind", "_law_name"]) (sc := defScope s__law_times) (by decide +kernel)) (fun _ _ _ _ _ => (x_gname (pg_name (i := 14) sc__law_times.nd rfl (by first | exact Or.inl rfl | exact Or.inr rfl)))) (fun _ _ _ _ _ => (pts_one (x_test2 (pt_cmpR op_notInA (x_varB (pv 14)) (c_FB (x_tup (pe_tupX (xa_cons (pa_cons (c_EF (x_ix (pe_ix ix_seq (x_varB (pv 6)) (x_varB (pv 12)) (fun _ _ => rfl)))) (xa_cons (pa_cons (c_EF (x_ix (pe_ix ix_seq (x_varB (pv 6)) (x_varB (pv 7)) (fun _ _ => rfl)))) (xa_nil pa_nil)))))))) rfl) p_notIn))) (fun _ _ _ _ _ => (x_var (pv 14)))))) (c_EB (x_lst (pe_lst (xa_cons (pa_cons (c_EF (x_ix (pe_ix ix_seq (x_varB (pv 6)) (x_varB (pv 12)) (fun _ _ => rfl)))) (xa_cons (pa_cons (c_EF (x_ix (pe_ix ix_seq (x_varB (pv 6)) (x_varB (pv 7)) (fun _ _ => rfl)))) (xa_nil pa_nil))))))))) p_add))))) (s_seq (pss_cons (s_set (ps_set (i := 11) sc__law_times.nd rfl (by first | exact Or.inl rfl | exact Or.inr rfl) (c_FE (c_EF (x_call rfl (g_call ih.i__law_expression hc hq (by rfl) T.m__law_expression T.F__law_expression.kp T.b__law_expression pass0 (xa_cons (pa_cons (x_var (pv 0)) (xa_cons (pa_cons (x_var (pv 1)) (xa_cons (pa_cons (x_var (pv 2)) (xa_cons (pa_cons (x_var (pv 10)) (xa_cons (pa_cons (c_EF (x_op2 (pe_op op_sub (x_varB (pv 4)) (c_FB (x_c pe_int fun _ _ => .int _))) p_sub)) (xa_nil pa_nil))))))))))))))))) (s_seq (pss_cons (s_ret (ps_ret (c_FE (x_tup (pe_tupX (xa_cons (pa_cons (x_c pe_str fun _ _ => .str _) (xa_cons (pa_cons (x_var (pv 8)) (xa_cons (pa_cons (c_EF (x_ix (pe_ix ix_seq (x_varB (pv 6)) (x_varB (pv 12)) (fun _ _ => rfl)))) (xa_cons (pa_cons (c_EF (x_ix (pe_ix ix_seq (x_varB (pv 6)) (x_varB (pv 7)) (fun _ _ => rfl)))) (xa_cons (pa_cons (x_var (pv 9)) (xa_cons (pa_cons (x_var (pv 11)) (xa_nil pa_nil)))))))))))))))))) (s_nil pss_nil)))))))))))))))))))
theorem ok__law_call (T : Top w K mg) {k : Nat} (ih : Oks P w base T k) : GOk P w K mg base CX0 (k + 1) T.a__law_call T.d__law_call ["_law_cells", "_law_spot", "_law_at_here", "_law_scope", "_law_deep", "_law_n"] (spD K W0 6 (sem (k + 1) f__law_call)) := by
  rw [e__law_call]
  refine g_fn (N := ["_law_cells", "_law_spot", "_law_at_here", "_law_scope", "_law_deep", "_law_n", "_law_some", "_law_m", "_law_f", "_law_many", "_law_calm", "_law_row", "_law_k"]) (ps := ["_law_cells", "_law_spot", "_law_at_here", "_law_scope", "_law_deep", "_law_n"]) (g := m__law_call (sem k)) T.F__law_call sc__law_call (fun cdv A outer s H EX hr hq => ?_)
  have hc := hr
  exact (s_seq (pss_cons (s_setLc (by decide) (ps_setLc (i := 6) (own := [("_law_row", 11)]) rfl sc__law_call.nd rfl rfl (sw_true rfl rfl rfl (by decide +kernel)) (x_it (PI.or (pi_list (c_EF (x_dget (pe_dget (hu_of hr) (x_varB (pv 2)) (c_FB (x_c pe_str fun _ _ => .str _)) (fun _ _ => rfl))))) (PI.or (pi_tup (c_EF (x_dget (pe_dget (hu_of hr) (x_varB (pv 2)) (c_FB (x_c pe_str fun _ _ => .str _)) (fun _ _ => rfl))))) (pi_str (c_EF (x_dget (pe_dget (hu_of hr) (x_varB (pv 2)) (c_FB (x_c pe_str fun _ _ => .str _)) (fun _ _ => rfl)))))))) (blkOk_by (N := ["_law_cells", "_law_spot", "_law_at_here", "_law_scope", "_law_deep", "_law_n", "_law_some", "_law_m", "_law_f", "_law_many", "_law_calm", "_law_row", "_law_k"]) (sc := defScope s__law_call) (by decide +kernel)) (fun _ _ _ _ _ => (x_gname (pg_name (i := 11) sc__law_call.nd rfl (by first | exact Or.inl rfl | exact Or.inr rfl)))) (fun _ _ _ _ _ => (pts_one (PW.pt (x_or (pw_or (x_truth (pt_truth (c_EB (x_ix (pe_ix ix_seq (x_varB (pv 11)) (c_FB (x_c pe_int fun _ _ => .int _)) (fun _ _ => rfl)))) (fun _ => rfl))) (pw_or1 (x_not (pt_not (x_truth (pt_truth (c_EB (x_dget (pe_dget (hu_of hr) (x_varB (pv 2)) (c_FB (x_c pe_str fun _ _ => .str _)) (fun _ _ => rfl)))) (fun _ => rfl))))))))))) (fun _ _ _ _ _ => (x_var (pv 11))))) (s_seq (pss_cons (s_if (ps_if (x_test2 (pt_cmpR (op_eqW (un_of hr)) (x_varB (pv 6)) (c_EB (x_lst (pe_lst (xa_nil pa_nil)))) rfl) p_eq) (s_seq (pss_cons (s_ret (ps_ret (x_call rfl (g_call ih.i__law_leaf hc hq (by rfl) T.m__law_leaf T.F__law_leaf.kp T.b__law_leaf pass0 (xa_cons (pa_cons (x_var (pv 2)) (xa_cons (pa_cons (x_var (pv 3)) (xa_cons (pa_cons (x_var (pv 5)) (xa_nil pa_nil))))))))))) (s_nil pss_nil))) (s_nil pss_nil))) (s_seq (pss_cons (s_asg (ps_asg (c_EF (x_ix (pe_ix ix_seq (x_varB (pv 6)) (c_EB (x_op2 (pe_op op_modA (x_varB (pv 5)) (c_EB (x_prim (pe_callB call_lenA (by rfl) T.z_len bt_len (xr_cons (pa_cons (x_varB (pv 6)) (xr_nil pa_nil)))) p_len))) p_mod)) (fun _ _ => rfl)))) (x_gtup (is := [7, 8, 9, 10]) rfl (pg_tup rfl (pgs_cons (pg_name (i := 7) sc__law_call.nd rfl (by first | exact Or.inl rfl | exact Or.inr rfl)) (pgs_cons (pg_name (i := 8) sc__law_call.nd rfl (by first | exact Or.inl rfl | exact Or.inr rfl)) (pgs_cons (pg_name (i := 9) sc__law_call.nd rfl (by first | exact Or.inl rfl | exact Or.inr rfl)) (pgs_cons (pg_name (i := 10) sc__law_call.nd rfl (by first | exact Or.inl rfl | exact Or.inr rfl)) pgs_nil)))))))) (s_seq (pss_cons (s_ret (ps_ret (c_FE (x_tup (pe_tupX (xa_cons (pa_cons (x_c pe_str fun _ _ => .str _) (xa_cons (pa_cons (x_var (pv 7)) (xa_cons (pa_cons (x_var (pv 8)) (xa_cons (pa_cons (c_EF (x_prim (pe_callTy call_tupleX (by rfl) T.z_tuple bt_tuple (xr_cons (pa_cons (c_EB (x_lc (by decide) (pe_lc (own := [("_law_k", 12)]) rfl sc__law_call.nd (x_rng1 (pi_range1 (by rfl) T.z_range (xr_cons (pa_cons (x_varB (pv 9)) (xr_nil pa_nil))))) (blkOk_by (N := ["_law_cells", "_law_spot", "_law_at_here", "_law_scope", "_law_deep", "_law_n", "_law_some", "_law_m", "_law_f", "_law_many", "_law_calm", "_law_row", "_law_k"]) (sc := defScope s__law_call) (by decide +kernel)) (fun _ _ _ _ _ => (x_gname (pg_name (i := 12) sc__law_call.nd rfl (by first | exact Or.inl rfl | exact Or.inr rfl)))) (fun _ _ _ _ _ => x_yes) (fun _ _ _ _ _ => (c_EF (x_call rfl (g_call ih.i__law_expression hc hq (by rfl) T.m__law_expression T.F__law_expression.kp T.b__law_expression pass0 (xa_cons (pa_cons (x_var (pv 0)) (xa_cons (pa_cons (x_var (pv 1)) (xa_cons (pa_cons (x_var (pv 2)) (xa_cons (pa_cons (x_var (pv 3)) (xa_cons (pa_cons (c_EF (x_op2 (pe_op op_sub (x_varB (pv 4)) (c_FB (x_c pe_int fun _ _ => .int _))) p_sub)) (xa_nil pa_nil)))))))))))))))))) (xr_nil pa_nil)))) p_tuple)) (xa_nil pa_nil)))))))))))))) (s_nil pss_nil)))))))))
theorem ok__law_expression (T : Top w K mg) {k : Nat} (ih : Oks P w base T k) : GOk P w K mg base CX0 (k + 1) T.a__law_expression T.d__law_expression ["_law_cells", "_law_spot", "_law_at_here", "_law_scope", "_law_deep"] (spD K W0 5 (sem (k + 1) f__law_expression)) := by
  rw [e__law_expression]
  refine g_fn (N := ["_law_cells", "_law_spot", "_law_at_here", "_law_scope", "_law_deep", "_law_n", "_law_way", "_law_more", "_law_name", "_law_one", "_law_inner", "_law_other", "_law_k"]) (ps := ["_law_cells", "_law_spot", "_law_at_here", "_law_scope", "_law_deep"]) (g := m__law_expression (sem k)) T.F__law_expression sc__law_expression (fun cdv A outer s H EX hr hq => ?_)
  have hc := hr
  exact (s_seq (pss_cons (s_set (ps_set (i := 5) sc__law_expression.nd rfl (by first | exact Or.inl rfl | exact Or.inr rfl) (c_FE (c_EF (x_call rfl (g_call ih.i__law_cell hc hq (by rfl) T.m__law_cell T.F__law_cell.kp T.b__law_cell pass0 (xa_cons (pa_cons (x_var (pv 0)) (xa_cons (pa_cons (x_var (pv 1)) (xa_nil pa_nil))))))))))) (s_seq (pss_cons (s_par (ps_par (i := 6) (j := 7) rfl sc__law_expression.nd rfl rfl (by decide) rfl rfl (xa_cons (pa_cons (c_EF (x_op2 (pe_op op_modA (x_varB (pv 5)) (c_FB (x_c pe_int fun _ _ => .int _))) p_mod)) (xa_cons (pa_cons (c_EF (x_op2 (pe_op op_fdivA (x_varB (pv 5)) (c_FB (x_c pe_int fun _ _ => .int _))) p_fdiv)) (xa_nil pa_nil))))) rfl)) (s_seq (pss_cons (s_if (ps_if (PW.pt (x_or (pw_or (x_test2 (pt_cmpR op_lt (x_varB (pv 4)) (c_FB (x_c pe_int fun _ _ => .int _)) rfl) (p_cmp fun i j => decide (i < j))) (pw_or1 (x_test2 (pt_cmpR op_lt (x_varB (pv 6)) (c_FB (x_c pe_int fun _ _ => .int _)) rfl) (p_cmp fun i j => decide (i < j))))))) (s_seq (pss_cons (s_ret (ps_ret (x_call rfl (g_call ih.i__law_leaf hc hq (by rfl) T.m__law_leaf T.F__law_leaf.kp T.b__law_leaf pass0 (xa_cons (pa_cons (x_var (pv 2)) (xa_cons (pa_cons (x_var (pv 3)) (xa_cons (pa_cons (x_var (pv 7)) (xa_nil pa_nil))))))))))) (s_nil pss_nil))) (s_nil pss_nil))) (s_seq (pss_cons (s_if (ps_if (x_test2 (pt_cmpR op_lt (x_varB (pv 6)) (c_FB (x_c pe_int fun _ _ => .int _)) rfl) (p_cmp fun i j => decide (i < j))) (s_seq (pss_cons (s_ret (ps_ret (x_call rfl (g_call ih.i__law_call hc hq (by rfl) T.m__law_call T.F__law_call.kp T.b__law_call pass0 (xa_cons (pa_cons (x_var (pv 0)) (xa_cons (pa_cons (x_var (pv 1)) (xa_cons (pa_cons (x_var (pv 2)) (xa_cons (pa_cons (x_var (pv 3)) (xa_cons (pa_cons (x_var (pv 4)) (xa_cons (pa_cons (x_var (pv 7)) (xa_nil pa_nil))))))))))))))))) (s_nil pss_nil))) (s_nil pss_nil))) (s_seq (pss_cons (s_if (ps_if (x_test2 (pt_cmpR (op_eqW (un_of hr)) (x_varB (pv 6)) (c_FB (x_c pe_int fun _ _ => .int _)) rfl) p_eq) (s_seq (pss_cons (s_ret (ps_ret (x_call rfl (g_call ih.i__law_times hc hq (by rfl) T.m__law_times T.F__law_times.kp T.b__law_times pass0 (xa_cons (pa_cons (x_var (pv 0)) (xa_cons (pa_cons (x_var (pv 1)) (xa_cons (pa_cons (x_var (pv 2)) (xa_cons (pa_cons (x_var (pv 3)) (xa_cons (pa_cons (x_var (pv 4)) (xa_cons (pa_cons (x_var (pv 7)) (xa_nil pa_nil))))))))))))))))) (s_nil pss_nil))) (s_nil pss_nil))) (s_seq (pss_cons (s_if (ps_if (x_test2 (pt_cmpR op_lt (x_varB (pv 6)) (c_FB (x_c pe_int fun _ _ => .int _)) rfl) (p_cmp fun i j => decide (i < j))) (s_seq (pss_cons (s_set (ps_set (i := 8) sc__law_expression.nd rfl (by first | exact Or.inl rfl | exact Or.inr rfl) (c_FE (c_EF (x_ix (pe_ix ix_seq (c_EB (x_dget (pe_dget (hu_of hr) (x_varB (pv 2)) (c_FB (x_c pe_str fun _ _ => .str _)) (fun _ _ => rfl)))) (c_EB (x_op2 (pe_op op_modA (x_varB (pv 7)) (c_FB (x_c pe_int fun _ _ => .int _))) p_mod)) (fun _ _ => rfl))))))) (s_seq (pss_cons (s_set (ps_set (i := 9) sc__law_expression.nd rfl (by first | exact Or.inl rfl | exact Or.inr rfl) (c_FE (c_EF (x_call rfl (g_call ih.i__law_expression hc hq (by rfl) T.m__law_expression T.F__law_expression.kp T.b__law_expression pass0 (xa_cons (pa_cons (x_var (pv 0)) (xa_cons (pa_cons (x_var (pv 1)) (xa_cons (pa_cons (x_var (pv 2)) (xa_cons (pa_cons (x_var (pv 3)) (xa_cons (pa_cons (c_EF (x_op2 (pe_op op_sub (x_varB (pv 4)) (c_FB (x_c pe_int fun _ _ => .int _))) p_sub)) (xa_nil pa_nil))))))))))))))))) (s_seq (pss_cons (s_set (ps_set (i := 10) sc__law_expression.nd rfl (by first | exact Or.inl rfl | exact Or.inr rfl) (c_FE (c_EF (x_op2 (pe_op op_addA (c_EB (x_lc (by decide) (pe_lc (own := [("_law_other", 11)]) rfl sc__law_expression.nd (x_it (PI.or (pi_list (x_var (pv 3))) (PI.or (pi_tup (x_var (pv 3))) (pi_str (x_var (pv 3)))))) (blkOk_by (N := ["_law_cells", "_law_spot", "_law_at_here", "_law_scope", "_law_deep", "_law_n", "_law_way", "_law_more", "_law_name", "_law_one", "_law_inner", "_law_other", "_law_k"]) (sc := defScope s__law_expression) (by decide +kernel)) (fun _ _ _ _ _ => (x_gname (pg_name (i := 11) sc__law_expression.nd rfl (by first | exact Or.inl rfl | exact Or.inr rfl)))) (fun _ _ _ _ _ => (pts_one (x_test2 (pt_cmpR (op_neW (un_of hr)) (x_varB (pv 11)) (x_varB (pv 8)) rfl) p_ne))) (fun _ _ _ _ _ => (x_var (pv 11)))))) (c_EB (x_lst (pe_lst (xa_cons (pa_cons (x_var (pv 8)) (xa_nil pa_nil))))))) p_add))))) (s_seq (pss_cons (s_ret (ps_ret (c_FE (x_tup (pe_tupX (xa_cons (pa_cons (x_c pe_str fun _ _ => .str _) (xa_cons (pa_cons (x_var (pv 8)) (xa_cons (pa_cons (x_var (pv 9)) (xa_cons (pa_cons (c_EF (x_call rfl (g_call ih.i__law_expression hc hq (by rfl) T.m__law_expression T.F__law_expression.kp T.b__law_expression pass0 (xa_cons (pa_cons (x_var (pv 0)) (xa_cons (pa_cons (x_var (pv 1)) (xa_cons (pa_cons (x_var (pv 2)) (xa_cons (pa_cons (x_var (pv 10)) (xa_cons (pa_cons (c_EF (x_op2 (pe_op op_sub (x_varB (pv 4)) (c_FB (x_c pe_int fun _ _ => .int _))) p_sub)) (xa_nil pa_nil)))))))))))))) (xa_nil pa_nil)))))))))))))) (s_nil pss_nil))))))))) (s_nil pss_nil))) (s_seq (pss_cons (s_if (ps_if (x_test2 (pt_cmpR (op_eqW (un_of hr)) (x_varB (pv 6)) (c_FB (x_c pe_int fun _ _ => .int _)) rfl) p_eq) (s_seq (pss_cons (s_ret (ps_ret (x_op2 (pe_op op_addA (c_FB (x_tup (pe_tupX (xa_cons (pa_cons (x_c pe_str fun _ _ => .str _) (xa_nil pa_nil)))))) (c_EB (x_prim (pe_callTy call_tupleX (by rfl) T.z_tuple bt_tuple (xr_cons (pa_cons (c_EB (x_lc (by decide) (pe_lc (own := [("_law_k", 12)]) rfl sc__law_expression.nd (x_rng1 (pi_range1 (by rfl) T.z_range (xr_cons (pa_cons (c_FB (x_c pe_int fun _ _ => .int _)) (xr_nil pa_nil))))) (blkOk_by (N := ["_law_cells", "_law_spot", "_law_at_here", "_law_scope", "_law_deep", "_law_n", "_law_way", "_law_more", "_law_name", "_law_one", "_law_inner", "_law_other", "_law_k"]) (sc := defScope s__law_expression) (by decide +kernel)) (fun _ _ _ _ _ => (x_gname (pg_name (i := 12) sc__law_expression.nd rfl (by first | exact Or.inl rfl | exact Or.inr rfl)))) (fun _ _ _ _ _ => x_yes) (fun _ _ _ _ _ => (c_EF (x_call rfl (g_call ih.i__law_expression hc hq (by rfl) T.m__law_expression T.F__law_expression.kp T.b__law_expression pass0 (xa_cons (pa_cons (x_var (pv 0)) (xa_cons (pa_cons (x_var (pv 1)) (xa_cons (pa_cons (x_var (pv 2)) (xa_cons (pa_cons (x_var (pv 3)) (xa_cons (pa_cons (c_EF (x_op2 (pe_op op_sub (x_varB (pv 4)) (c_FB (x_c pe_int fun _ _ => .int _))) p_sub)) (xa_nil pa_nil)))))))))))))))))) (xr_nil pa_nil)))) p_tuple))) p_add))) (s_nil pss_nil))) (s_nil pss_nil))) (s_seq (pss_cons (s_if (ps_if (PW.pt (x_and (pw_and (x_test2 (pt_cmpR op_lt (x_varB (pv 6)) (c_FB (x_c pe_int fun _ _ => .int _)) rfl) (p_cmp fun i j => decide (i < j))) (pw_and1 (x_not (pt_not (x_truth (pt_truth (c_EB (x_dget (pe_dget (hu_of hr) (x_varB (pv 2)) (c_FB (x_c pe_str fun _ _ => .str _)) (fun _ _ => rfl)))) (fun _ => rfl))))))))) (s_seq (pss_cons (s_set (ps_set (i := 9) sc__law_expression.nd rfl (by first | exact Or.inl rfl | exact Or.inr rfl) (c_FE (c_EF (x_call rfl (g_call ih.i__law_expression hc hq (by rfl) T.m__law_expression T.F__law_expression.kp T.b__law_expression pass0 (xa_cons (pa_cons (x_var (pv 0)) (xa_cons (pa_cons (x_var (pv 1)) (xa_cons (pa_cons (x_var (pv 2)) (xa_cons (pa_cons (x_var (pv 3)) (xa_cons (pa_cons (c_EF (x_op2 (pe_op op_sub (x_varB (pv 4)) (c_FB (x_c pe_int fun _ _ => .int _))) p_sub)) (xa_nil pa_nil))))))))))))))))) (s_seq (pss_cons (s_ret (ps_ret (c_FE (x_tup (pe_tupX (xa_cons (pa_cons (x_c pe_str fun _ _ => .str _) (xa_cons (pa_cons (x_var (pv 9)) (xa_cons (pa_cons (c_EF (x_call rfl (g_call ih.i__law_expression hc hq (by rfl) T.m__law_expression T.F__law_expression.kp T.b__law_expression pass0 (xa_cons (pa_cons (x_var (pv 0)) (xa_cons (pa_cons (x_var (pv 1)) (xa_cons (pa_cons (x_var (pv 2)) (xa_cons (pa_cons (x_var (pv 3)) (xa_cons (pa_cons (c_EF (x_op2 (pe_op op_sub (x_varB (pv 4)) (c_FB (x_c pe_int fun _ _ => .int _))) p_sub)) (xa_nil pa_nil)))))))))))))) (xa_nil pa_nil)))))))))))) (s_nil pss_nil))))) (s_nil pss_nil))) (s_seq (pss_cons (s_if (ps_if (PW.pt (x_and (pw_and (x_test2 (pt_cmpR (op_eqW (un_of hr)) (x_varB (pv 6)) (c_FB (x_c pe_int fun _ _ => .int _)) rfl) p_eq) (x_and (pw_and (x_not (pt_not (x_truth (pt_truth (c_EB (x_dget (pe_dget (hu_of hr) (x_varB (pv 2)) (c_FB (x_c pe_str fun _ _ => .str _)) (fun _ _ => rfl)))) (fun _ => rfl))))) (pw_and1 (x_test2 (pt_cmpR (op_eqW (un_of hr)) (c_EB (x_op2 (pe_op op_modA (x_varB (pv 7)) (c_FB (x_c pe_int fun _ _ => .int _))) p_mod)) (c_FB (x_c pe_int fun _ _ => .int _)) rfl) p_eq))))))) (s_seq (pss_cons (s_ret (ps_ret (c_FE (x_tup (pe_tupX (xa_cons (pa_cons (x_c pe_str fun _ _ => .str _) (xa_cons (pa_cons (c_EF (x_call rfl (g_call ih.i__law_expression hc hq (by rfl) T.m__law_expression T.F__law_expression.kp T.b__law_expression pass0 (xa_cons (pa_cons (x_var (pv 0)) (xa_cons (pa_cons (x_var (pv 1)) (xa_cons (pa_cons (x_var (pv 2)) (xa_cons (pa_cons (x_var (pv 3)) (xa_cons (pa_cons (c_EF (x_op2 (pe_op op_sub (x_varB (pv 4)) (c_FB (x_c pe_int fun _ _ => .int _))) p_sub)) (xa_nil pa_nil)))))))))))))) (xa_nil pa_nil)))))))))) (s_nil pss_nil))) (s_nil pss_nil))) (s_seq (pss_cons (s_ret (ps_ret (x_call rfl (g_call ih.i__law_op hc hq (by rfl) T.m__law_op T.F__law_op.kp T.b__law_op pass0 (xa_cons (pa_cons (x_var (pv 0)) (xa_cons (pa_cons (x_var (pv 1)) (xa_cons (pa_cons (x_var (pv 2)) (xa_cons (pa_cons (x_var (pv 3)) (xa_cons (pa_cons (x_var (pv 4)) (xa_cons (pa_cons (x_var (pv 7)) (xa_nil pa_nil))))))))))))))))) (s_nil pss_nil)))))))))))))))))))))
theorem ok__law_program (T : Top w K mg) {k : Nat} (ih : Oks P w base T k) : GOk P w K mg base CX0 (k + 1) T.a__law_program T.d__law_program ["_law_cells", "_law_spot", "_law_most"] (spD K W0 3 (sem (k + 1) f__law_program)) := by
  rw [e__law_program]
  refine g_fn (N := ["_law_cells", "_law_spot", "_law_most", "_law_n", "_law_ahead", "_law_modules", "_law_k", "_law_names_here", "_law_rooms", "_law_room", "_law_j", "_law_more", "_law_params", "_law_at_here", "_law_body", "_law_name", "_law_i"]) (ps := ["_law_cells", "_law_spot", "_law_most"]) (g := m__law_program (sem k)) T.F__law_program sc__law_program (fun cdv A outer s H EX hr hq => ?_)
  have hc := hr
  exact (s_seq (pss_cons (s_set (ps_set (i := 3) sc__law_program.nd rfl (by first | exact Or.inl rfl | exact Or.inr rfl) (c_FE (c_EF (x_call rfl (g_call ih.i__law_cell hc hq (by rfl) T.m__law_cell T.F__law_cell.kp T.b__law_cell pass0 (xa_cons (pa_cons (x_var (pv 0)) (xa_cons (pa_cons (x_var (pv 1)) (xa_nil pa_nil))))))))))) (s_seq (pss_cons (s_asg (ps_asg (x_tup (pe_tupX (xa_cons (pa_cons (c_EF (x_call rfl (g_call ih.i__law_names hc hq (by rfl) T.m__law_names T.F__law_names.kp T.b__law_names pass0 (xa_cons (pa_cons (x_var (pv 3)) (xa_nil pa_nil)))))) (xa_cons (pa_cons (c_EF (x_call rfl (g_call ih.i__law_names hc hq (by rfl) T.m__law_names T.F__law_names.kp T.b__law_names pass0 (xa_cons (pa_cons (c_EF (x_op2 (pe_op op_fdivA (x_varB (pv 3)) (c_FB (x_c pe_int fun _ _ => .int _))) p_fdiv)) (xa_nil pa_nil)))))) (xa_nil pa_nil))))))) (x_gtup (is := [7, 8]) rfl (pg_tup rfl (pgs_cons (pg_name (i := 7) sc__law_program.nd rfl (by first | exact Or.inl rfl | exact Or.inr rfl)) (pgs_cons (pg_name (i := 8) sc__law_program.nd rfl (by first | exact Or.inl rfl | exact Or.inr rfl)) pgs_nil)))))) (s_seq (pss_cons (s_set (ps_set (i := 4) sc__law_program.nd rfl (by first | exact Or.inl rfl | exact Or.inr rfl) (c_FE (c_EF (x_lst (pe_lst (xa_nil pa_nil))))))) (s_seq (pss_cons (s_set (ps_set (i := 5) sc__law_program.nd rfl (by first | exact Or.inl rfl | exact Or.inr rfl) (x_lst (pe_lst (xa_nil pa_nil))))) (s_seq (pss_cons (s_for (ps_for PassesOwn.never rfl (x_rng1 (pi_range1 (by rfl) T.z_range (xr_cons (pa_cons (c_EB (x_op2 (pe_op op_addA (c_FB (x_c pe_int fun _ _ => .int _)) (c_EB (x_op2 (pe_op op_modA (c_EB (x_op2 (pe_op op_fdivA (x_varB (pv 3)) (c_FB (x_c pe_int fun _ _ => .int _))) p_fdiv)) (c_FB (x_c pe_int fun _ _ => .int _))) p_mod))) p_add)) (xr_nil pa_nil))))) (x_gname (pg_name (i := 6) sc__law_program.nd rfl (by first | exact Or.inl rfl | exact Or.inr rfl))) (s_seq (pss_cons (s_set (ps_set (i := 9) sc__law_program.nd rfl (by first | exact Or.inl rfl | exact Or.inr rfl) (x_lst (pe_lst (xa_nil pa_nil))))) (s_seq (pss_cons (s_for (ps_for PassesOwn.never rfl (x_rng1 (pi_range1 (by rfl) T.z_range (xr_cons (pa_cons (c_EB (x_prim (pe_callB (call_max2 rfl) (by rfl) T.z_max bt_max (xr_cons (pa_cons (c_EB (x_prim (pe_callTy call_int1 (by rfl) T.z_int bt_int (xr_cons (pa_cons (c_EB (x_op2 (pe_cmpR (op_eqW (un_of hr)) (x_varB (pv 6)) (c_FB (x_c pe_int fun _ _ => .int _)) rfl) p_eq)) (xr_nil pa_nil)))) p_int)) (xr_cons (pa_cons (c_EB (x_op2 (pe_op op_modA (c_EB (x_op2 (pe_op op_fdivA (c_EB (x_call rfl (g_call ih.i__law_cell hc hq (by rfl) T.m__law_cell T.F__law_cell.kp T.b__law_cell pass0 (xa_cons (pa_cons (x_var (pv 0)) (xa_cons (pa_cons (x_var (pv 1)) (xa_nil pa_nil)))))))) (c_FB (x_c pe_int fun _ _ => .int _))) p_fdiv)) (c_EB (x_op2 (pe_op op_addA (x_varB (pv 2)) (c_FB (x_c pe_int fun _ _ => .int _))) p_add))) p_mod)) (xr_nil pa_nil)))))) p_max2)) (xr_nil pa_nil))))) (x_gname (pg_name (i := 10) sc__law_program.nd rfl (by first | exact Or.inl rfl | exact Or.inr rfl))) (s_seq (pss_cons (s_set (ps_set (i := 11) sc__law_program.nd rfl (by first | exact Or.inl rfl | exact Or.inr rfl) (c_FE (c_EF (x_call rfl (g_call ih.i__law_cell hc hq (by rfl) T.m__law_cell T.F__law_cell.kp T.b__law_cell pass0 (xa_cons (pa_cons (x_var (pv 0)) (xa_cons (pa_cons (x_var (pv 1)) (xa_nil pa_nil))))))))))) (s_seq (pss_cons (s_setLc (by decide) (ps_setLc (i := 12) (own := [("_law_i", 16)]) rfl sc__law_program.nd rfl rfl (sw_true rfl rfl rfl (by decide +kernel)) (x_rng1 (pi_range1 (by rfl) T.z_range (xr_cons (pa_cons (c_EB (x_op2 (pe_op op_modA (c_EB (x_op2 (pe_op op_fdivA (x_varB (pv 11)) (c_FB (x_c pe_int fun _ _ => .int _))) p_fdiv)) (c_FB (x_c pe_int fun _ _ => .int _))) p_mod)) (xr_nil pa_nil))))) (blkOk_by (N := ["_law_cells", "_law_spot", "_law_most", "_law_n", "_law_ahead", "_law_modules", "_law_k", "_law_names_here", "_law_rooms", "_law_room", "_law_j", "_law_more", "_law_params", "_law_at_here", "_law_body", "_law_name", "_law_i"]) (sc := defScope s__law_program) (by decide +kernel)) (fun _ _ _ _ _ => (x_gname (pg_name (i := 16) sc__law_program.nd rfl (by first | exact Or.inl rfl | exact Or.inr rfl)))) (fun _ _ _ _ _ => x_yes) (fun _ _ _ _ _ => (c_EF (x_ix (pe_ix ix_seq (x_varB (pv 7)) (c_EB (x_op2 (pe_op op_modA (c_EB (x_op2 (pe_op op_addA (x_varB (pv 11)) (c_EB (x_op2 (pe_op op_mulA (c_FB (x_c pe_int fun _ _ => .int _)) (x_varB (pv 16))) p_mul))) p_add)) (c_FB (x_c pe_int fun _ _ => .int _))) p_mod)) (fun _ _ => rfl))))))) (s_seq (pss_cons (s_set (ps_set (i := 13) sc__law_program.nd rfl (by first | exact Or.inl rfl | exact Or.inr rfl) (c_FE (x_disp (ks := ["names", "ahead", "quiet"]) (fs := [(dVar 7), (dVar 4), (dEF (dOp2 eqD (dEF (dOp2 modD (dEF (dOp2 fdivD (dVarB 11) (dC (.int 20)))) (dC (.int 3)))) (dC (.int 0))))]) rfl (pe_disp (pps_cons pe_str (x_var (pv 7)) (pps_cons pe_str (x_var (pv 4)) (pps_cons pe_str (c_EF (x_op2 (pe_cmpR (op_eqW (un_of hr)) (c_EB (x_op2 (pe_op op_modA (c_EB (x_op2 (pe_op op_fdivA (x_varB (pv 11)) (c_FB (x_c pe_int fun _ _ => .int _))) p_fdiv)) (c_FB (x_c pe_int fun _ _ => .int _))) p_mod)) (c_FB (x_c pe_int fun _ _ => .int _)) rfl) p_eq)) pps_nil))) rfl rfl (by simp) (by decide)))))) (s_seq (pss_cons (s_fz (s_set (ps_set (i := 14) sc__law_program.nd rfl (by first | exact Or.inl rfl | exact Or.inr rfl) (c_FE (c_EF (x_call rfl (g_call ih.i__law_expression hc hq (by rfl) T.m__law_expression T.F__law_expression.kp T.b__law_expression pass0 (xa_cons (pa_cons (x_var (pv 0)) (xa_cons (pa_cons (x_var (pv 1)) (xa_cons (pa_cons (x_var (pv 13)) (xa_cons (pa_cons (x_var (pv 12)) (xa_cons (pa_cons (c_EF (x_op2 (pe_op op_addA (c_FB (x_c pe_int fun _ _ => .int _)) (c_EB (x_op2 (pe_op op_modA (c_EB (x_op2 (pe_op op_fdivA (x_varB (pv 11)) (c_FB (x_c pe_int fun _ _ => .int _))) p_fdiv)) (c_FB (x_c pe_int fun _ _ => .int _))) p_mod))) p_add)) (xa_nil pa_nil)))))))))))))))))) (s_seq (pss_cons (s_set (ps_set (i := 15) sc__law_program.nd rfl (by first | exact Or.inl rfl | exact Or.inr rfl) (c_FE (c_EF (x_ix (pe_ix ix_seq (x_varB (pv 8)) (c_EB (x_op2 (pe_op op_modA (c_EB (x_op2 (pe_op op_addA (c_EB (x_op2 (pe_op op_addA (c_EB (x_op2 (pe_op op_modA (c_EB (x_op2 (pe_op op_fdivA (x_varB (pv 11)) (c_FB (x_c pe_int fun _ _ => .int _))) p_fdiv)) (c_FB (x_c pe_int fun _ _ => .int _))) p_mod)) (c_FB (x_c pe_int fun _ _ => .int _))) p_add)) (c_EB (x_op2 (pe_op op_mulA (c_FB (x_c pe_int fun _ _ => .int _)) (x_varB (pv 10))) p_mul))) p_add)) (c_FB (x_c pe_int fun _ _ => .int _))) p_mod)) (fun _ _ => rfl))))))) (s_seq (pss_cons (s_app (ps_expr (pe_bm PySem.F.plainAttrs_list PySem.F.slot_list_append PySem.F.type_list_append mt_append (pv 9) (pa_cons (x_tup (pe_tupX (xa_cons (pa_cons (x_var (pv 15)) (xa_cons (pa_cons (c_EF (x_prim (pe_callTy call_tupleX (by rfl) T.z_tuple bt_tuple (xr_cons (pa_cons (x_varB (pv 12)) (xr_nil pa_nil)))) p_tuple)) (xa_cons (pa_cons (x_var (pv 14)) (xa_nil pa_nil))))))))) pa_nil)))) (s_seq (pss_cons (s_set (ps_set (i := 4) sc__law_program.nd rfl (by first | exact Or.inl rfl | exact Or.inr rfl) (c_FE (c_EF (x_op2 (pe_op op_addA (x_varB (pv 4)) (c_EB (x_lst (pe_lst (xa_cons (pa_cons (x_tup (pe_tupX (xa_cons (pa_cons (c_EF (x_ix (pe_ix ix_seq (x_varB (pv 8)) (x_varB (pv 6)) (fun _ _ => rfl)))) (xa_cons (pa_cons (x_var (pv 15)) (xa_cons (pa_cons (c_EF (x_prim (pe_callB call_lenA (by rfl) T.z_len bt_len (xr_cons (pa_cons (x_varB (pv 12)) (xr_nil pa_nil)))) p_len)) (xa_cons (pa_cons (c_EF (x_dget (pe_dget (hu_of hr) (x_varB (pv 13)) (c_FB (x_c pe_str fun _ _ => .str _)) (fun _ _ => rfl)))) (xa_nil pa_nil))))))))))) (xa_nil pa_nil))))))) p_add))))) (s_nil pss_nil))))))))))))))))) (s_seq (pss_cons (s_app (ps_expr (pe_bm PySem.F.plainAttrs_list PySem.F.slot_list_append PySem.F.type_list_append mt_append (pv 5) (pa_cons (x_tup (pe_tupX (xa_cons (pa_cons (c_EF (x_ix (pe_ix ix_seq (x_varB (pv 8)) (x_varB (pv 6)) (fun _ _ => rfl)))) (xa_cons (pa_cons (c_EF (x_prim (pe_callTy call_tupleX (by rfl) T.z_tuple bt_tuple (xr_cons (pa_cons (x_varB (pv 9)) (xr_nil pa_nil)))) p_tuple)) (xa_nil pa_nil))))))) pa_nil)))) (s_nil pss_nil))))))))) (s_seq (pss_cons (s_ret (ps_ret (x_prim (pe_callTy call_tupleX (by rfl) T.z_tuple bt_tuple (xr_cons (pa_cons (x_varB (pv 5)) (xr_nil pa_nil)))) p_tuple))) (s_nil pss_nil)))))))))))))
theorem ok__law_spots (T : Top w K mg) {k : Nat} (ih : Oks P w base T k) : GOk P w K mg base CX0 (k + 1) T.a__law_spots T.d__law_spots ["_law_e"] (spD K W0 1 (sem (k + 1) f__law_spots)) := by
  rw [e__law_spots]
  refine g_fn (N := ["_law_e", "_law_some"]) (ps := ["_law_e"]) (g := m__law_spots (sem k)) T.F__law_spots sc__law_spots (fun cdv A outer s H EX hr hq => ?_)
  have hc := hr
  exact (s_seq (pss_cons (s_set (ps_set (i := 1) sc__law_spots.nd rfl (by first | exact Or.inl rfl | exact Or.inr rfl) (c_FE (x_disp (ks := ["op", "let", "if", "tell", "stop", "times"]) (fs := [(dTup (dCons (dC (.int 2)) (dCons (dC (.int 3)) dNil))), (dTup (dCons (dC (.int 2)) (dCons (dC (.int 3)) dNil))), (dTup (dCons (dC (.int 1)) (dCons (dC (.int 2)) (dCons (dC (.int 3)) dNil)))), (dTup (dCons (dC (.int 1)) (dCons (dC (.int 2)) dNil))), (dTup (dCons (dC (.int 1)) dNil)), (dTup (dCons (dC (.int 1)) (dCons (dC (.int 4)) (dCons (dC (.int 5)) dNil))))]) rfl (pe_disp (pps_cons pe_str (x_tup (pe_tupX (xa_cons (pa_cons (x_c pe_int fun _ _ => .int _) (xa_cons (pa_cons (x_c pe_int fun _ _ => .int _) (xa_nil pa_nil))))))) (pps_cons pe_str (x_tup (pe_tupX (xa_cons (pa_cons (x_c pe_int fun _ _ => .int _) (xa_cons (pa_cons (x_c pe_int fun _ _ => .int _) (xa_nil pa_nil))))))) (pps_cons pe_str (x_tup (pe_tupX (xa_cons (pa_cons (x_c pe_int fun _ _ => .int _) (xa_cons (pa_cons (x_c pe_int fun _ _ => .int _) (xa_cons (pa_cons (x_c pe_int fun _ _ => .int _) (xa_nil pa_nil))))))))) (pps_cons pe_str (x_tup (pe_tupX (xa_cons (pa_cons (x_c pe_int fun _ _ => .int _) (xa_cons (pa_cons (x_c pe_int fun _ _ => .int _) (xa_nil pa_nil))))))) (pps_cons pe_str (x_tup (pe_tupX (xa_cons (pa_cons (x_c pe_int fun _ _ => .int _) (xa_nil pa_nil))))) (pps_cons pe_str (x_tup (pe_tupX (xa_cons (pa_cons (x_c pe_int fun _ _ => .int _) (xa_cons (pa_cons (x_c pe_int fun _ _ => .int _) (xa_cons (pa_cons (x_c pe_int fun _ _ => .int _) (xa_nil pa_nil))))))))) pps_nil)))))) rfl rfl (by simp) (by decide)))))) (s_seq (pss_cons (s_ret (ps_ret (c_FE (x_dget2 (pe_dget2 (hu_of hr) (x_varB (pv 1)) (c_EB (x_ix (pe_ix ix_seq (x_varB (pv 0)) (c_FB (x_c pe_int fun _ _ => .int _)) (fun _ _ => rfl)))) (x_tup (pe_tupX (xa_nil pa_nil))) ⟨rfl, rfl, rfl, rfl⟩))))) (s_nil pss_nil)))))
theorem ok__law_parts (T : Top w K mg) {k : Nat} (ih : Oks P w base T k) : GOk P w K mg base CX0 (k + 1) T.a__law_parts T.d__law_parts ["_law_e"] (spD K W0 1 (sem (k + 1) f__law_parts)) := by
  rw [e__law_parts]
  refine g_fn (N := ["_law_e", "_law_spot"]) (ps := ["_law_e"]) (g := m__law_parts (sem k)) T.F__law_parts sc__law_parts (fun cdv A outer s H EX hr hq => ?_)
  have hc := hr
  exact (s_seq (pss_cons (s_ret (ps_ret (x_if (pe_ifExp (x_test2 (pt_cmpR (op_eqW (un_of hr)) (c_EB (x_ix (pe_ix ix_seq (x_varB (pv 0)) (c_FB (x_c pe_int fun _ _ => .int _)) (fun _ _ => rfl)))) (c_FB (x_c pe_str fun _ _ => .str _)) rfl) p_eq) (x_prim (pe_callTy call_list_of (by rfl) T.z_list bt_list (xr_cons (pa_cons (c_EB (x_ix (pe_ix ix_seq (x_varB (pv 0)) (c_FB (x_c pe_int fun _ _ => .int _)) (fun _ _ => rfl)))) (xr_nil pa_nil)))) p_list) (x_lc (by decide) (pe_lc (own := [("_law_spot", 1)]) rfl sc__law_parts.nd (x_it (PI.or (pi_list (c_EF (x_call rfl (g_call ih.i__law_spots hc hq (by rfl) T.m__law_spots T.F__law_spots.kp T.b__law_spots pass0 (xa_cons (pa_cons (x_var (pv 0)) (xa_nil pa_nil))))))) (PI.or (pi_tup (c_EF (x_call rfl (g_call ih.i__law_spots hc hq (by rfl) T.m__law_spots T.F__law_spots.kp T.b__law_spots pass0 (xa_cons (pa_cons (x_var (pv 0)) (xa_nil pa_nil))))))) (pi_str (c_EF (x_call rfl (g_call ih.i__law_spots hc hq (by rfl) T.m__law_spots T.F__law_spots.kp T.b__law_spots pass0 (xa_cons (pa_cons (x_var (pv 0)) (xa_nil pa_nil)))))))))) (blkOk_by (N := ["_law_e", "_law_spot"]) (sc := defScope s__law_parts) (by decide +kernel)) (fun _ _ _ _ _ => (x_gname (pg_name (i := 1) sc__law_parts.nd rfl (by first | exact Or.inl rfl | exact Or.inr rfl)))) (fun _ _ _ _ _ => x_yes) (fun _ _ _ _ _ => (c_EF (x_ix (pe_ix ix_seq (x_varB (pv 0)) (x_varB (pv 1)) (fun _ _ => rfl))))))))))) (s_nil pss_nil)))
theorem ok__law_rows (T : Top w K mg) {k : Nat} (ih : Oks P w base T k) : GOk P w K mg base CX0 (k + 1) T.a__law_rows T.d__law_rows ["_law_e"] (spD K W0 1 (sem (k + 1) f__law_rows)) := by
  rw [e__law_rows]
  refine g_fn (N := ["_law_e", "_law_found_here", "_law_k", "_law_part", "_law_row"]) (ps := ["_law_e"]) (g := m__law_rows (sem k)) T.F__law_rows sc__law_rows (fun cdv A outer s H EX hr hq => ?_)
  have hc := hr
  exact (s_seq (pss_cons (s_set (ps_set (i := 1) sc__law_rows.nd rfl (by first | exact Or.inl rfl | exact Or.inr rfl) (x_lst (pe_lst (xa_cons (pa_cons (x_tup (pe_tupX (xa_nil pa_nil))) (xa_nil pa_nil))))))) (s_seq (pss_cons (s_for (ps_for PassesOwn.never rfl (x_enumA (pi_enumA (by rfl) T.z_enumerate (xa_cons (pa_cons (c_EF (x_call rfl (g_call ih.i__law_parts hc hq (by rfl) T.m__law_parts T.F__law_parts.kp T.b__law_parts pass0 (xa_cons (pa_cons (x_var (pv 0)) (xa_nil pa_nil)))))) (xa_nil pa_nil))))) (x_gtup (is := [2, 3]) rfl (pg_tup rfl (pgs_cons (pg_name (i := 2) sc__law_rows.nd rfl (by first | exact Or.inl rfl | exact Or.inr rfl)) (pgs_cons (pg_name (i := 3) sc__law_rows.nd rfl (by first | exact Or.inl rfl | exact Or.inr rfl)) pgs_nil)))) (s_seq (pss_cons (s_ext (ps_expr (pe_bm PySem.F.plainAttrs_list PySem.F.slot_list_extend PySem.F.type_list_extend mt_extend (pv 1) (pa_cons (c_EF (x_lc (by decide) (pe_lc (own := [("_law_row", 4)]) rfl sc__law_rows.nd (x_it (PI.or (pi_list (c_EF (x_call rfl (g_call ih.i__law_rows hc hq (by rfl) T.m__law_rows T.F__law_rows.kp T.b__law_rows pass0 (xa_cons (pa_cons (x_var (pv 3)) (xa_nil pa_nil))))))) (PI.or (pi_tup (c_EF (x_call rfl (g_call ih.i__law_rows hc hq (by rfl) T.m__law_rows T.F__law_rows.kp T.b__law_rows pass0 (xa_cons (pa_cons (x_var (pv 3)) (xa_nil pa_nil))))))) (pi_str (c_EF (x_call rfl (g_call ih.i__law_rows hc hq (by rfl) T.m__law_rows T.F__law_rows.kp T.b__law_rows pass0 (xa_cons (pa_cons (x_var (pv 3)) (xa_nil pa_nil)))))))))) (blkOk_by (N := ["_law_e", "_law_found_here", "_law_k", "_law_part", "_law_row"]) (sc := defScope s__law_rows) (by decide +kernel)) (fun _ _ _ _ _ => (x_gname (pg_name (i := 4) sc__law_rows.nd rfl (by first | exact Or.inl rfl | exact Or.inr rfl)))) (fun _ _ _ _ _ => x_yes) (fun _ _ _ _ _ => (c_EF (x_op2 (pe_op op_addA (c_FB (x_tup (pe_tupX (xa_cons (pa_cons (x_var (pv 2)) (xa_nil pa_nil)))))) (x_varB (pv 4))) p_add)))))) pa_nil)))) (s_nil pss_nil))))) (s_seq (pss_cons (s_retV (ps_ret (pv 1))) (s_nil pss_nil)))))))
theorem ok__law_found (T : Top w K mg) {k : Nat} (ih : Oks P w base T k) : GOk P w K mg base CX0 (k + 1) T.a__law_found T.d__law_found ["_law_program_here", "_law_m", "_law_f"] (spD K W0 3 (sem (k + 1) f__law_found)) := by
  rw [e__law_found]
  refine g_fn (N := ["_law_program_here", "_law_m", "_law_f", "_law_name", "_law_room", "_law_one"]) (ps := ["_law_program_here", "_law_m", "_law_f"]) (g := m__law_found (sem k)) T.F__law_found sc__law_found (fun cdv A outer s H EX hr hq => ?_)
  have hc := hr
  exact (s_seq (pss_cons (s_for (ps_for PassesOwn.never rfl (x_it (PI.or (pi_list (x_var (pv 0))) (PI.or (pi_tup (x_var (pv 0))) (pi_str (x_var (pv 0)))))) (x_gtup (is := [3, 4]) rfl (pg_tup rfl (pgs_cons (pg_name (i := 3) sc__law_found.nd rfl (by first | exact Or.inl rfl | exact Or.inr rfl)) (pgs_cons (pg_name (i := 4) sc__law_found.nd rfl (by first | exact Or.inl rfl | exact Or.inr rfl)) pgs_nil)))) (s_seq (pss_cons (s_for (ps_for PassesOwn.never rfl (x_it (PI.or (pi_list (x_var (pv 4))) (PI.or (pi_tup (x_var (pv 4))) (pi_str (x_var (pv 4)))))) (x_gname (pg_name (i := 5) sc__law_found.nd rfl (by first | exact Or.inl rfl | exact Or.inr rfl))) (s_seq (pss_cons (s_if (ps_if (x_test2 (pt_cmpR (op_eqW (un_of hr)) (c_FB (x_tup (pe_tupX (xa_cons (pa_cons (x_var (pv 3)) (xa_cons (pa_cons (c_EF (x_ix (pe_ix ix_seq (x_varB (pv 5)) (c_FB (x_c pe_int fun _ _ => .int _)) (fun _ _ => rfl)))) (xa_nil pa_nil)))))))) (c_FB (x_tup (pe_tupX (xa_cons (pa_cons (x_var (pv 1)) (xa_cons (pa_cons (x_var (pv 2)) (xa_nil pa_nil)))))))) rfl) p_eq) (s_seq (pss_cons (s_retV (ps_ret (pv 5))) (s_nil pss_nil))) (s_nil pss_nil))) (s_nil pss_nil))))) (s_nil pss_nil))))) (s_seq (pss_cons (s_ret (ps_ret (c_FE (x_c pe_non fun _ _ => .non)))) (s_nil pss_nil)))))
theorem ok__law_at (T : Top w K mg) {k : Nat} (ih : Oks P w base T k) : GOk P w K mg base CX0 (k + 1) T.a__law_at T.d__law_at ["_law_body", "_law_row"] (spD K W0 2 (sem (k + 1) f__law_at)) := by
  rw [e__law_at]
  refine g_fn (N := ["_law_body", "_law_row", "_law_k"]) (ps := ["_law_body", "_law_row"]) (g := m__law_at (sem k)) T.F__law_at sc__law_at (fun cdv A outer s H EX hr hq => ?_)
  have hc := hr
  exact (s_seq (pss_cons (s_for (ps_for PassesOwn.never rfl (x_it (PI.or (pi_list (x_var (pv 1))) (PI.or (pi_tup (x_var (pv 1))) (pi_str (x_var (pv 1)))))) (x_gname (pg_name (i := 2) sc__law_at.nd rfl (by first | exact Or.inl rfl | exact Or.inr rfl))) (s_seq (pss_cons (s_set (ps_set (i := 0) sc__law_at.nd rfl (by first | exact Or.inl rfl | exact Or.inr rfl) (c_FE (c_EF (x_ix (pe_ix ix_seq (c_EB (x_call rfl (g_call ih.i__law_parts hc hq (by rfl) T.m__law_parts T.F__law_parts.kp T.b__law_parts pass0 (xa_cons (pa_cons (x_var (pv 0)) (xa_nil pa_nil)))))) (x_varB (pv 2)) (fun _ _ => rfl))))))) (s_nil pss_nil))))) (s_seq (pss_cons (s_retV (ps_ret (pv 0))) (s_nil pss_nil)))))
theorem ok__law_nearest (T : Top w K mg) {k : Nat} (ih : Oks P w base T k) : GOk P w K mg base CX0 (k + 1) T.a__law_nearest T.d__law_nearest ["_law_way", "_law_params", "_law_body"] (spD K W0 3 (sem (k + 1) f__law_nearest)) := by
  rw [e__law_nearest]
  refine g_fn (N := ["_law_way", "_law_params", "_law_body", "_law_row", "_law_name", "_law_e", "_law_k"]) (ps := ["_law_way", "_law_params", "_law_body"]) (g := m__law_nearest (sem k)) T.F__law_nearest sc__law_nearest (fun cdv A outer s H EX hr hq => ?_)
  have hc := hr
  exact (s_seq (pss_cons (s_set (ps_set (i := 3) sc__law_nearest.nd rfl (by first | exact Or.inl rfl | exact Or.inr rfl) (c_FE (c_EF (x_sl (pe_slice sl_A3 (x_varB (pv 0)) (x_so (c_FB (x_c pe_int fun _ _ => .int _))) x_no) p_sl))))) (s_seq (pss_cons (s_set (ps_set (i := 4) sc__law_nearest.nd rfl (by first | exact Or.inl rfl | exact Or.inr rfl) (c_FE (c_EF (x_ix (pe_ix ix_seq (c_EB (x_call rfl (g_call ih.i__law_at hc hq (by rfl) T.m__law_at T.F__law_at.kp T.b__law_at pass0 (xa_cons (pa_cons (x_var (pv 2)) (xa_cons (pa_cons (x_var (pv 3)) (xa_nil pa_nil)))))))) (c_FB (x_c pe_int fun _ _ => .int _)) (fun _ _ => rfl))))))) (s_seq (pss_cons (s_while (ps_while PassesOwn.never (x_test2 (pt_cmpR (op_neW (un_of hr)) (x_varB (pv 3)) (c_FB (x_tup (pe_tupX (xa_nil pa_nil)))) rfl) p_ne) (s_seq (pss_cons (s_par (ps_par (i := 3) (j := 6) rfl sc__law_nearest.nd rfl rfl (by decide) rfl rfl (xa_cons (pa_cons (c_EF (x_sl (pe_slice sl_A3 (x_varB (pv 3)) x_no (x_so (c_EB (x_op1 (pe_un un_neg (c_FB (x_c pe_int fun _ _ => .int _))) p_neg)))) p_sl)) (xa_cons (pa_cons (c_EF (x_ix (pe_ix ix_seq (x_varB (pv 3)) (c_EB (x_op1 (pe_un un_neg (c_FB (x_c pe_int fun _ _ => .int _))) p_neg)) (fun _ _ => rfl)))) (xa_nil pa_nil))))) rfl)) (s_seq (pss_cons (s_set (ps_set (i := 5) sc__law_nearest.nd rfl (by first | exact Or.inl rfl | exact Or.inr rfl) (c_FE (c_EF (x_call rfl (g_call ih.i__law_at hc hq (by rfl) T.m__law_at T.F__law_at.kp T.b__law_at pass0 (xa_cons (pa_cons (x_var (pv 2)) (xa_cons (pa_cons (x_var (pv 3)) (xa_nil pa_nil))))))))))) (s_seq (pss_cons (s_if (ps_if (PW.pt (x_and (pw_and (x_test2 (pt_cmpR (op_eqW (un_of hr)) (c_EB (x_ix (pe_ix ix_seq (x_varB (pv 5)) (c_FB (x_c pe_int fun _ _ => .int _)) (fun _ _ => rfl)))) (c_FB (x_c pe_str fun _ _ => .str _)) rfl) p_eq) (x_and (pw_and (x_test2 (pt_cmpR (op_eqW (un_of hr)) (x_varB (pv 6)) (c_FB (x_c pe_int fun _ _ => .int _)) rfl) p_eq) (pw_and1 (x_test2 (pt_cmpR (op_eqW (un_of hr)) (c_EB (x_ix (pe_ix ix_seq (x_varB (pv 5)) (c_FB (x_c pe_int fun _ _ => .int _)) (fun _ _ => rfl)))) (x_varB (pv 4)) rfl) p_eq))))))) (s_seq (pss_cons (s_ret (ps_ret (c_FE (x_tup (pe_tupX (xa_cons (pa_cons (x_c pe_str fun _ _ => .str _) (xa_cons (pa_cons (c_EF (x_op2 (pe_op op_addA (c_EB (x_sl (pe_slice sl_A3 (x_varB (pv 0)) x_no (x_so (c_FB (x_c pe_int fun _ _ => .int _)))) p_sl)) (x_varB (pv 3))) p_add)) (xa_nil pa_nil)))))))))) (s_nil pss_nil))) (s_nil pss_nil))) (s_seq (pss_cons (s_if (ps_if (PW.pt (x_and (pw_and (x_test2 (pt_cmpR (op_eqW (un_of hr)) (c_EB (x_ix (pe_ix ix_seq (x_varB (pv 5)) (c_FB (x_c pe_int fun _ _ => .int _)) (fun _ _ => rfl)))) (c_FB (x_c pe_str fun _ _ => .str _)) rfl) p_eq) (x_and (pw_and (x_test2 (pt_cmpR (op_eqW (un_of hr)) (x_varB (pv 6)) (c_FB (x_c pe_int fun _ _ => .int _)) rfl) p_eq) (pw_and1 (x_test2 (pt_cmpR op_inA (x_varB (pv 4)) (c_EB (x_sl (pe_slice sl_A3 (x_varB (pv 5)) (x_so (c_FB (x_c pe_int fun _ _ => .int _))) (x_so (c_FB (x_c pe_int fun _ _ => .int _)))) p_sl)) rfl) p_in))))))) (s_seq (pss_cons (s_ret (ps_ret (c_FE (x_tup (pe_tupX (xa_cons (pa_cons (c_EF (x_ix (pe_ix ix_seq (c_EB (x_lst (pe_lst (xa_cons (pa_cons (x_c pe_str fun _ _ => .str _) (xa_cons (pa_cons (x_c pe_str fun _ _ => .str _) (xa_nil pa_nil)))))))) (c_EB (x_methK (pe_bmk PySem.F.plainAttrs_tuple PySem.F.slot_tuple_index PySem.F.type_tuple_index (mt_tup_idxE (un_of hr)) (c_EB (x_sl (pe_slice sl_A3 (x_varB (pv 5)) (x_so (c_FB (x_c pe_int fun _ _ => .int _))) (x_so (c_FB (x_c pe_int fun _ _ => .int _)))) p_sl)) (xr_cons (pa_cons (x_varB (pv 4)) (xr_nil pa_nil)))) p_tupIdxE)) (fun _ _ => rfl)))) (xa_cons (pa_cons (c_EF (x_op2 (pe_op op_addA (c_EB (x_sl (pe_slice sl_A3 (x_varB (pv 0)) x_no (x_so (c_FB (x_c pe_int fun _ _ => .int _)))) p_sl)) (x_varB (pv 3))) p_add)) (xa_nil pa_nil)))))))))) (s_nil pss_nil))) (s_nil pss_nil))) (s_nil pss_nil))))))))))) (s_seq (pss_cons (s_ret (ps_ret (x_op2 (pe_op op_addA (c_EB (x_op2 (pe_op op_addA (c_FB (x_tup (pe_tupX (xa_cons (pa_cons (x_c pe_str fun _ _ => .str _) (xa_nil pa_nil)))))) (c_EB (x_sl (pe_slice sl_A3 (x_varB (pv 0)) x_no (x_so (c_FB (x_c pe_int fun _ _ => .int _)))) p_sl))) p_add)) (c_FB (x_tup (pe_tupX (xa_cons (pa_cons (c_EF (x_methK (pe_bmk PySem.F.plainAttrs_tuple PySem.F.slot_tuple_index PySem.F.type_tuple_index (mt_tup_idxE (un_of hr)) (x_varB (pv 1)) (xr_cons (pa_cons (x_varB (pv 4)) (xr_nil pa_nil)))) p_tupIdxE)) (xa_nil pa_nil))))))) p_add))) (s_nil pss_nil)))))))))
theorem ok__law_all (T : Top w K mg) {k : Nat} (ih : Oks P w base T k) : GOk P w K mg base CX0 (k + 1) T.a__law_all T.d__law_all ["_law_m", "_law_f", "_law_params", "_law_body"] (spD K W0 4 (sem (k + 1) f__law_all)) := by
  rw [e__law_all]
  refine g_fn (N := ["_law_m", "_law_f", "_law_params", "_law_body", "_law_found_here", "_law_row", "_law_e", "_law_k", "_law_name"]) (ps := ["_law_m", "_law_f", "_law_params", "_law_body"]) (g := m__law_all (sem k)) T.F__law_all sc__law_all (fun cdv A outer s H EX hr hq => ?_)
  have hc := hr
  exact (s_seq (pss_cons (s_setLc (by decide) (ps_setLc (i := 4) (own := [("_law_k", 7), ("_law_name", 8)]) rfl sc__law_all.nd rfl rfl (sw_true rfl rfl rfl (by decide +kernel)) (x_enumA (pi_enumA (by rfl) T.z_enumerate (xa_cons (pa_cons (x_var (pv 2)) (xa_nil pa_nil))))) (blkOk_by (N := ["_law_m", "_law_f", "_law_params", "_law_body", "_law_found_here", "_law_row", "_law_e", "_law_k", "_law_name"]) (sc := defScope s__law_all) (by decide +kernel)) (fun _ _ _ _ _ => (x_gtup (is := [7, 8]) rfl (pg_tup rfl (pgs_cons (pg_name (i := 7) sc__law_all.nd rfl (by first | exact Or.inl rfl | exact Or.inr rfl)) (pgs_cons (pg_name (i := 8) sc__law_all.nd rfl (by first | exact Or.inl rfl | exact Or.inr rfl)) pgs_nil))))) (fun _ _ _ _ _ => x_yes) (fun _ _ _ _ _ => (x_tup (pe_tupX (xa_cons (pa_cons (x_tup (pe_tupX (xa_cons (pa_cons (x_c pe_str fun _ _ => .str _) (xa_cons (pa_cons (x_var (pv 0)) (xa_cons (pa_cons (x_var (pv 1)) (xa_cons (pa_cons (x_var (pv 7)) (xa_nil pa_nil))))))))))) (xa_cons (pa_cons (x_var (pv 8)) (xa_nil pa_nil)))))))))) (s_seq (pss_cons (s_for (ps_for PassesOwn.never rfl (x_it (PI.or (pi_list (c_EF (x_call rfl (g_call ih.i__law_rows hc hq (by rfl) T.m__law_rows T.F__law_rows.kp T.b__law_rows pass0 (xa_cons (pa_cons (x_var (pv 3)) (xa_nil pa_nil))))))) (PI.or (pi_tup (c_EF (x_call rfl (g_call ih.i__law_rows hc hq (by rfl) T.m__law_rows T.F__law_rows.kp T.b__law_rows pass0 (xa_cons (pa_cons (x_var (pv 3)) (xa_nil pa_nil))))))) (pi_str (c_EF (x_call rfl (g_call ih.i__law_rows hc hq (by rfl) T.m__law_rows T.F__law_rows.kp T.b__law_rows pass0 (xa_cons (pa_cons (x_var (pv 3)) (xa_nil pa_nil)))))))))) (x_gname (pg_name (i := 5) sc__law_all.nd rfl (by first | exact Or.inl rfl | exact Or.inr rfl))) (s_seq (pss_cons (s_set (ps_set (i := 6) sc__law_all.nd rfl (by first | exact Or.inl rfl | exact Or.inr rfl) (c_FE (c_EF (x_call rfl (g_call ih.i__law_at hc hq (by rfl) T.m__law_at T.F__law_at.kp T.b__law_at pass0 (xa_cons (pa_cons (x_var (pv 3)) (xa_cons (pa_cons (x_var (pv 5)) (xa_nil pa_nil))))))))))) (s_seq (pss_cons (s_if (ps_if (x_test2 (pt_cmpR (op_eqW (un_of hr)) (c_EB (x_ix (pe_ix ix_seq (x_varB (pv 6)) (c_FB (x_c pe_int fun _ _ => .int _)) (fun _ _ => rfl)))) (c_FB (x_c pe_str fun _ _ => .str _)) rfl) p_eq) (s_seq (pss_cons (s_app (ps_expr (pe_bm PySem.F.plainAttrs_list PySem.F.slot_list_append PySem.F.type_list_append mt_append (pv 4) (pa_cons (x_tup (pe_tupX (xa_cons (pa_cons (x_tup (pe_tupX (xa_cons (pa_cons (x_c pe_str fun _ _ => .str _) (xa_cons (pa_cons (c_EF (x_op2 (pe_op op_addA (c_FB (x_tup (pe_tupX (xa_cons (pa_cons (x_var (pv 0)) (xa_cons (pa_cons (x_var (pv 1)) (xa_nil pa_nil)))))))) (x_varB (pv 5))) p_add)) (xa_nil pa_nil))))))) (xa_cons (pa_cons (c_EF (x_ix (pe_ix ix_seq (x_varB (pv 6)) (c_FB (x_c pe_int fun _ _ => .int _)) (fun _ _ => rfl)))) (xa_nil pa_nil))))))) pa_nil)))) (s_nil pss_nil))) (s_nil pss_nil))) (s_seq (pss_cons (s_if (ps_if (x_test2 (pt_cmpR (op_eqW (un_of hr)) (c_EB (x_ix (pe_ix ix_seq (x_varB (pv 6)) (c_FB (x_c pe_int fun _ _ => .int _)) (fun _ _ => rfl)))) (c_FB (x_c pe_str fun _ _ => .str _)) rfl) p_eq) (s_seq (pss_cons (s_set (ps_set (i := 4) sc__law_all.nd rfl (by first | exact Or.inl rfl | exact Or.inr rfl) (x_op2 (pe_op op_addA (x_varB (pv 4)) (c_EB (x_lst (pe_lst (xa_cons (pa_cons (x_tup (pe_tupX (xa_cons (pa_cons (x_tup (pe_tupX (xa_cons (pa_cons (x_c pe_str fun _ _ => .str _) (xa_cons (pa_cons (c_EF (x_op2 (pe_op op_addA (c_FB (x_tup (pe_tupX (xa_cons (pa_cons (x_var (pv 0)) (xa_cons (pa_cons (x_var (pv 1)) (xa_nil pa_nil)))))))) (x_varB (pv 5))) p_add)) (xa_nil pa_nil))))))) (xa_cons (pa_cons (c_EF (x_ix (pe_ix ix_seq (x_varB (pv 6)) (c_FB (x_c pe_int fun _ _ => .int _)) (fun _ _ => rfl)))) (xa_nil pa_nil))))))) (xa_cons (pa_cons (x_tup (pe_tupX (xa_cons (pa_cons (x_tup (pe_tupX (xa_cons (pa_cons (x_c pe_str fun _ _ => .str _) (xa_cons (pa_cons (c_EF (x_op2 (pe_op op_addA (c_FB (x_tup (pe_tupX (xa_cons (pa_cons (x_var (pv 0)) (xa_cons (pa_cons (x_var (pv 1)) (xa_nil pa_nil)))))))) (x_varB (pv 5))) p_add)) (xa_nil pa_nil))))))) (xa_cons (pa_cons (c_EF (x_ix (pe_ix ix_seq (x_varB (pv 6)) (c_FB (x_c pe_int fun _ _ => .int _)) (fun _ _ => rfl)))) (xa_nil pa_nil))))))) (xa_nil pa_nil))))))))) p_add))) (s_nil pss_nil))) (s_nil pss_nil))) (s_nil pss_nil))))))))) (s_seq (pss_cons (s_retV (ps_ret (pv 4))) (s_nil pss_nil)))))))
theorem ok__law_right (T : Top w K mg) {k : Nat} (ih : Oks P w base T k) : GOk P w K mg base CX0 (k + 1) T.a__law_right T.d__law_right ["_law_program_here", "_law_m", "_law_f"] (spD K W0 3 (sem (k + 1) f__law_right)) := by
  rw [e__law_right]
  refine g_fn (N := ["_law_program_here", "_law_m", "_law_f", "_law_ways", "_law_due", "_law_seen", "_law_name", "_law_params", "_law_body", "_law_binder", "_law_called", "_law_some", "_law_again", "_law_row", "_law_way", "_law_told", "_law_one"]) (ps := ["_law_program_here", "_law_m", "_law_f"]) (g := m__law_right (sem k)) T.F__law_right sc__law_right (fun cdv A outer s H EX hr hq => ?_)
  have hc := hr
  exact (s_seq (pss_cons (s_asg (ps_asg (c_EF (x_call rfl (g_call ih.i__law_found hc hq (by rfl) T.m__law_found T.F__law_found.kp T.b__law_found pass0 (xa_cons (pa_cons (x_var (pv 0)) (xa_cons (pa_cons (x_var (pv 1)) (xa_cons (pa_cons (x_var (pv 2)) (xa_nil pa_nil)))))))))) (x_gtup (is := [6, 7, 8]) rfl (pg_tup rfl (pgs_cons (pg_name (i := 6) sc__law_right.nd rfl (by first | exact Or.inl rfl | exact Or.inr rfl)) (pgs_cons (pg_name (i := 7) sc__law_right.nd rfl (by first | exact Or.inl rfl | exact Or.inr rfl)) (pgs_cons (pg_name (i := 8) sc__law_right.nd rfl (by first | exact Or.inl rfl | exact Or.inr rfl)) pgs_nil))))))) (s_seq (pss_cons (s_setLc (by decide) (ps_setLc (i := 3) (own := [("_law_row", 13)]) rfl sc__law_right.nd rfl rfl (sw_true rfl rfl rfl (by decide +kernel)) (x_it (PI.or (pi_list (c_EF (x_call rfl (g_call ih.i__law_rows hc hq (by rfl) T.m__law_rows T.F__law_rows.kp T.b__law_rows pass0 (xa_cons (pa_cons (x_var (pv 8)) (xa_nil pa_nil))))))) (PI.or (pi_tup (c_EF (x_call rfl (g_call ih.i__law_rows hc hq (by rfl) T.m__law_rows T.F__law_rows.kp T.b__law_rows pass0 (xa_cons (pa_cons (x_var (pv 8)) (xa_nil pa_nil))))))) (pi_str (c_EF (x_call rfl (g_call ih.i__law_rows hc hq (by rfl) T.m__law_rows T.F__law_rows.kp T.b__law_rows pass0 (xa_cons (pa_cons (x_var (pv 8)) (xa_nil pa_nil)))))))))) (blkOk_by (N := ["_law_program_here", "_law_m", "_law_f", "_law_ways", "_law_due", "_law_seen", "_law_name", "_law_params", "_law_body", "_law_binder", "_law_called", "_law_some", "_law_again", "_law_row", "_law_way", "_law_told", "_law_one"]) (sc := defScope s__law_right) (by decide +kernel)) (fun _ _ _ _ _ => (x_gname (pg_name (i := 13) sc__law_right.nd rfl (by first | exact Or.inl rfl | exact Or.inr rfl)))) (fun _ _ _ _ _ => (pts_one (x_test2 (pt_cmpR (op_eqW (un_of hr)) (c_EB (x_ix (pe_ix ix_seq (c_EB (x_call rfl (g_call ih.i__law_at hc hq (by rfl) T.m__law_at T.F__law_at.kp T.b__law_at pass0 (xa_cons (pa_cons (x_var (pv 8)) (xa_cons (pa_cons (x_var (pv 13)) (xa_nil pa_nil)))))))) (c_FB (x_c pe_int fun _ _ => .int _)) (fun _ _ => rfl)))) (c_FB (x_c pe_str fun _ _ => .str _)) rfl) p_eq))) (fun _ _ _ _ _ => (c_EF (x_op2 (pe_op op_addA (c_FB (x_tup (pe_tupX (xa_cons (pa_cons (x_var (pv 1)) (xa_cons (pa_cons (x_var (pv 2)) (xa_nil pa_nil)))))))) (x_varB (pv 13))) p_add))))) (s_seq (pss_cons (s_fz (s_setLc (by decide) (ps_setLc (i := 4) (own := [("_law_way", 14)]) rfl sc__law_right.nd rfl rfl (sw_true rfl rfl rfl (by decide +kernel)) (x_it (PI.or (pi_list (x_var (pv 3))) (PI.or (pi_tup (x_var (pv 3))) (pi_str (x_var (pv 3)))))) (blkOk_by (N := ["_law_program_here", "_law_m", "_law_f", "_law_ways", "_law_due", "_law_seen", "_law_name", "_law_params", "_law_body", "_law_binder", "_law_called", "_law_some", "_law_again", "_law_row", "_law_way", "_law_told", "_law_one"]) (sc := defScope s__law_right) (by decide +kernel)) (fun _ _ _ _ _ => (x_gname (pg_name (i := 14) sc__law_right.nd rfl (by first | exact Or.inl rfl | exact Or.inr rfl)))) (fun _ _ _ _ _ => x_yes) (fun _ _ _ _ _ => (x_tup (pe_tupX (xa_cons (pa_cons (x_var (pv 14)) (xa_cons (pa_cons (c_EF (x_call rfl (g_call ih.i__law_nearest hc hq (by rfl) T.m__law_nearest T.F__law_nearest.kp T.b__law_nearest pass0 (xa_cons (pa_cons (x_var (pv 14)) (xa_cons (pa_cons (x_var (pv 7)) (xa_cons (pa_cons (x_var (pv 8)) (xa_nil pa_nil)))))))))) (xa_nil pa_nil))))))))))) (s_seq (pss_cons (s_fz (s_fz (s_if (ps_if (x_test2 (pt_cmpR (op_neW (un_of hr)) (c_EB (x_lc (by decide) (pe_lc (own := [("_law_way", 14)]) rfl sc__law_right.nd (x_it (PI.or (pi_list (x_var (pv 3))) (PI.or (pi_tup (x_var (pv 3))) (pi_str (x_var (pv 3)))))) (blkOk_by (N := ["_law_program_here", "_law_m", "_law_f", "_law_ways", "_law_due", "_law_seen", "_law_name", "_law_params", "_law_body", "_law_binder", "_law_called", "_law_some", "_law_again", "_law_row", "_law_way", "_law_told", "_law_one"]) (sc := defScope s__law_right) (by decide +kernel)) (fun _ _ _ _ _ => (x_gname (pg_name (i := 14) sc__law_right.nd rfl (by first | exact Or.inl rfl | exact Or.inr rfl)))) (fun _ _ _ _ _ => x_yes) (fun _ _ _ _ _ => (c_EF (x_call rfl (g_call ih.i_binder_of hc hq (by rfl) T.m_binder_of T.F_binder_of.kp T.b_binder_of pass0 (xa_cons (pa_cons (x_var (pv 0)) (xa_cons (pa_cons (x_var (pv 14)) (xa_nil pa_nil)))))))))))) (c_EB (x_lc (by decide) (pe_lc (own := [("_law_way", 14), ("_law_one", 16)]) rfl sc__law_right.nd (x_it (PI.or (pi_list (x_var (pv 4))) (PI.or (pi_tup (x_var (pv 4))) (pi_str (x_var (pv 4)))))) (blkOk_by (N := ["_law_program_here", "_law_m", "_law_f", "_law_ways", "_law_due", "_law_seen", "_law_name", "_law_params", "_law_body", "_law_binder", "_law_called", "_law_some", "_law_again", "_law_row", "_law_way", "_law_told", "_law_one"]) (sc := defScope s__law_right) (by decide +kernel)) (fun _ _ _ _ _ => (x_gtup (is := [14, 16]) rfl (pg_tup rfl (pgs_cons (pg_name (i := 14) sc__law_right.nd rfl (by first | exact Or.inl rfl | exact Or.inr rfl)) (pgs_cons (pg_name (i := 16) sc__law_right.nd rfl (by first | exact Or.inl rfl | exact Or.inr rfl)) pgs_nil))))) (fun _ _ _ _ _ => x_yes) (fun _ _ _ _ _ => (x_var (pv 16)))))) rfl) p_ne) (s_seq (pss_cons (s_ret (ps_ret (c_FE (x_c pe_bl fun _ _ => .bl _)))) (s_nil pss_nil))) (s_nil pss_nil))))) (s_seq (pss_cons (s_set (ps_set (i := 5) sc__law_right.nd rfl (by first | exact Or.inl rfl | exact Or.inr rfl) (c_FE (c_EF (x_lst (pe_lst (xa_nil pa_nil))))))) (s_seq (pss_cons (s_for (ps_for PassesOwn.never rfl (x_it (PI.or (pi_list (c_EF (x_call rfl (g_call ih.i__law_all hc hq (by rfl) T.m__law_all T.F__law_all.kp T.b__law_all pass0 (xa_cons (pa_cons (x_var (pv 1)) (xa_cons (pa_cons (x_var (pv 2)) (xa_cons (pa_cons (x_var (pv 7)) (xa_cons (pa_cons (x_var (pv 8)) (xa_nil pa_nil))))))))))))) (PI.or (pi_tup (c_EF (x_call rfl (g_call ih.i__law_all hc hq (by rfl) T.m__law_all T.F__law_all.kp T.b__law_all pass0 (xa_cons (pa_cons (x_var (pv 1)) (xa_cons (pa_cons (x_var (pv 2)) (xa_cons (pa_cons (x_var (pv 7)) (xa_cons (pa_cons (x_var (pv 8)) (xa_nil pa_nil))))))))))))) (pi_str (c_EF (x_call rfl (g_call ih.i__law_all hc hq (by rfl) T.m__law_all T.F__law_all.kp T.b__law_all pass0 (xa_cons (pa_cons (x_var (pv 1)) (xa_cons (pa_cons (x_var (pv 2)) (xa_cons (pa_cons (x_var (pv 7)) (xa_cons (pa_cons (x_var (pv 8)) (xa_nil pa_nil)))))))))))))))) (x_gtup (is := [9, 10]) rfl (pg_tup rfl (pgs_cons (pg_name (i := 9) sc__law_right.nd rfl (by first | exact Or.inl rfl | exact Or.inr rfl)) (pgs_cons (pg_name (i := 10) sc__law_right.nd rfl (by first | exact Or.inl rfl | exact Or.inr rfl)) pgs_nil)))) (s_seq (pss_cons (s_fz (s_setLc (by decide) (ps_setLc (i := 11) (own := [("_law_way", 14), ("_law_one", 16)]) rfl sc__law_right.nd rfl rfl (sw_true rfl rfl rfl (by decide +kernel)) (x_it (PI.or (pi_list (x_var (pv 4))) (PI.or (pi_tup (x_var (pv 4))) (pi_str (x_var (pv 4)))))) (blkOk_by (N := ["_law_program_here", "_law_m", "_law_f", "_law_ways", "_law_due", "_law_seen", "_law_name", "_law_params", "_law_body", "_law_binder", "_law_called", "_law_some", "_law_again", "_law_row", "_law_way", "_law_told", "_law_one"]) (sc := defScope s__law_right) (by decide +kernel)) (fun _ _ _ _ _ => (x_gtup (is := [14, 16]) rfl (pg_tup rfl (pgs_cons (pg_name (i := 14) sc__law_right.nd rfl (by first | exact Or.inl rfl | exact Or.inr rfl)) (pgs_cons (pg_name (i := 16) sc__law_right.nd rfl (by first | exact Or.inl rfl | exact Or.inr rfl)) pgs_nil))))) (fun _ _ _ _ _ => (pts_one (x_test2 (pt_cmpR (op_eqW (un_of hr)) (x_varB (pv 16)) (x_varB (pv 9)) rfl) p_eq))) (fun _ _ _ _ _ => (x_var (pv 14)))))) (s_seq (pss_cons (s_for (ps_for PassesOwn.never rfl (x_rng1 (pi_range1 (by rfl) T.z_range (xr_cons (pa_cons (c_FB (x_c pe_int fun _ _ => .int _)) (xr_nil pa_nil))))) (x_gname (pg_name (i := 12) sc__law_right.nd rfl (by first | exact Or.inl rfl | exact Or.inr rfl))) (s_seq (pss_cons (s_set (ps_set (i := 15) sc__law_right.nd rfl (by first | exact Or.inl rfl | exact Or.inr rfl) (x_call rfl (g_call ih.i_uses_of hc hq (by rfl) T.m_uses_of T.F_uses_of.kp T.b_uses_of pass0 (xa_cons (pa_cons (x_var (pv 0)) (xa_cons (pa_cons (x_var (pv 9)) (xa_nil pa_nil))))))))) (s_seq (pss_cons (s_if (ps_if (PW.pt (x_or (pw_or (x_not (pt_not (x_truth (pt_truth (c_EB (x_isi (by decide) (pe_callB call_isi (by rfl) T.z_isinstance bt_isinstance (pa_cons (x_varB (pv 15)) (pa_cons (pe_bltn (by rfl) T.z_list bt_list rfl) pa_nil))))) (fun _ => rfl))))) (x_or (pw_or (x_test2 (pt_cmpR (op_neW (un_of hr)) (c_EB (x_prim (pe_callB (call_repr (un_of hr) hq) (by rfl) T.z_repr bt_repr (xr_cons (pa_cons (x_varB (pv 15)) (xr_nil pa_nil)))) p_repr)) (c_EB (x_prim (pe_callB (call_repr (un_of hr) hq) (by rfl) T.z_repr bt_repr (xr_cons (pa_cons (x_varB (pv 11)) (xr_nil pa_nil)))) p_repr)) rfl) p_ne) (pw_or1 (x_test2 (pt_cmpR (op_neW (un_of hr)) (c_EB (x_call rfl (g_call ih.i_name_of hc hq (by rfl) T.m_name_of T.F_name_of.kp T.b_name_of pass0 (xa_cons (pa_cons (x_var (pv 0)) (xa_cons (pa_cons (x_var (pv 9)) (xa_nil pa_nil)))))))) (x_varB (pv 10)) rfl) p_ne))))))) (s_seq (pss_cons (s_ret (ps_ret (c_FE (x_c pe_bl fun _ _ => .bl _)))) (s_nil pss_nil))) (s_nil pss_nil))) (s_seq (pss_cons (s_app (ps_expr (pe_bm PySem.F.plainAttrs_list PySem.F.slot_list_append PySem.F.type_list_append mt_append (pv 15) (pa_cons (x_tup (pe_tupX (xa_nil pa_nil))) pa_nil)))) (s_nil pss_nil))))))))) (s_seq (pss_cons (s_set (ps_set (i := 5) sc__law_right.nd rfl (by first | exact Or.inl rfl | exact Or.inr rfl) (c_FE (c_EF (x_op2 (pe_op op_addA (x_varB (pv 5)) (x_varB (pv 11))) p_add))))) (s_nil pss_nil))))))))) (s_seq (pss_cons (s_ret (ps_ret (x_op2 (pe_cmpR (op_eqW (un_of hr)) (c_EB (x_prim (pe_callB cr_sortedW (by rfl) T.z_sorted bt_sorted (xr_cons (pa_cons (x_varB (pv 5)) (xr_nil pa_nil)))) p_sortW)) (c_EB (x_prim (pe_callB cr_sortedW (by rfl) T.z_sorted bt_sorted (xr_cons (pa_cons (x_varB (pv 3)) (xr_nil pa_nil)))) p_sortW)) rfl) p_eq))) (s_nil pss_nil)))))))))))))))
theorem ok_law (T : Top w K mg) {k : Nat} (ih : Oks P w base T k) : GOk P w K mg base CX0 (k + 1) T.a_law T.d_law ["_law_script"] (spD K W0 1 (sem (k + 1) f_law)) := by
  rw [e_law]
  refine g_fn (N := ["_law_script", "_law_turn", "_law_cells", "_law_spot", "_law_program_here", "_law_m", "_law_rows_here", "_law_row"]) (ps := ["_law_script"]) (g := m_law (sem k)) T.F_law sc_law (fun cdv A outer s H EX hr hq => ?_)
  have hc := hr
  exact (s_seq (pss_cons (s_par (ps_par (i := 2) (j := 3) rfl sc_law.nd rfl rfl (by decide) rfl rfl (xa_cons (pa_cons (c_EF (x_prim (pe_callTy call_list_of (by rfl) T.z_list bt_list (xr_cons (pa_cons (x_varB (pv 0)) (xr_nil pa_nil)))) p_list)) (xa_cons (pa_cons (c_EF (x_ref (x_lst (pe_lst (xa_cons (pa_cons (c_EF (x_op1 (pe_un un_neg (c_FB (x_c pe_int fun _ _ => .int _))) p_neg)) (xa_nil pa_nil))))))) (xa_nil pa_nil))))) rfl)) (s_seq (pss_cons (s_for (ps_for PassesOwn.never rfl (x_rng1 (pi_range1 (by rfl) T.z_range (xr_cons (pa_cons (c_EB (x_op2 (pe_op op_addA (c_FB (x_c pe_int fun _ _ => .int _)) (c_EB (x_prim (pe_callB (call_min2 rfl) (by rfl) T.z_min bt_min (xr_cons (pa_cons (c_FB (x_c pe_int fun _ _ => .int _)) (xr_cons (pa_cons (c_EB (x_prim (pe_callB call_lenA (by rfl) T.z_len bt_len (xr_cons (pa_cons (x_varB (pv 0)) (xr_nil pa_nil)))) p_len)) (xr_nil pa_nil)))))) p_min2))) p_add)) (xr_nil pa_nil))))) (x_gname (pg_name (i := 1) sc_law.nd rfl (by first | exact Or.inl rfl | exact Or.inr rfl))) (s_seq (pss_cons (s_set (ps_set (i := 4) sc_law.nd rfl (by first | exact Or.inl rfl | exact Or.inr rfl) (c_FE (c_EF (x_call rfl (g_call ih.i__law_program hc hq (by rfl) T.m__law_program T.F__law_program.kp T.b__law_program pass0 (xa_cons (pa_cons (x_var (pv 2)) (xa_cons (pa_cons (x_var (pv 3)) (xa_cons (pa_cons (x_c pe_int fun _ _ => .int _) (xa_nil pa_nil))))))))))))) (s_seq (pss_cons (s_for (ps_for PassesOwn.never rfl (x_it (PI.or (pi_list (x_var (pv 4))) (PI.or (pi_tup (x_var (pv 4))) (pi_str (x_var (pv 4)))))) (x_gtup (is := [5, 6]) rfl (pg_tup rfl (pgs_cons (pg_name (i := 5) sc_law.nd rfl (by first | exact Or.inl rfl | exact Or.inr rfl)) (pgs_cons (pg_name (i := 6) sc_law.nd rfl (by first | exact Or.inl rfl | exact Or.inr rfl)) pgs_nil)))) (s_seq (pss_cons (s_for (ps_for PassesOwn.never rfl (x_it (PI.or (pi_list (x_var (pv 6))) (PI.or (pi_tup (x_var (pv 6))) (pi_str (x_var (pv 6)))))) (x_gname (pg_name (i := 7) sc_law.nd rfl (by first | exact Or.inl rfl | exact Or.inr rfl))) (s_seq (pss_cons (s_if (ps_if (x_not (pt_not (x_truth (pt_truth (c_EB (x_call rfl (g_call ih.i__law_right hc hq (by rfl) T.m__law_right T.F__law_right.kp T.b__law_right pass0 (xa_cons (pa_cons (x_var (pv 4)) (xa_cons (pa_cons (x_var (pv 5)) (xa_cons (pa_cons (c_EF (x_ix (pe_ix ix_seq (x_varB (pv 7)) (c_FB (x_c pe_int fun _ _ => .int _)) (fun _ _ => rfl)))) (xa_nil pa_nil)))))))))) (fun _ => rfl))))) (s_seq (pss_cons (s_ret (ps_ret (c_FE (x_c pe_bl fun _ _ => .bl _)))) (s_nil pss_nil))) (s_nil pss_nil))) (s_nil pss_nil))))) (s_nil pss_nil))))) (s_nil pss_nil))))))) (s_seq (pss_cons (s_ret (ps_ret (c_FE (x_c pe_bl fun _ _ => .bl _)))) (s_nil pss_nil)))))))
theorem oks (T : Top w K mg) : ∀ k, Oks P w base T k
  | 0 => ⟨g_zero, g_zero, g_zero, g_zero, g_zero, g_zero, g_zero, g_zero, g_zero, g_zero, g_zero, g_zero, g_zero, g_zero, g_zero, g_zero, g_zero, g_zero, g_zero, g_zero, g_zero, g_zero, g_zero, g_zero, g_zero, g_zero, g_zero, g_zero, g_zero, g_zero, g_zero, g_zero, g_zero⟩
  | k + 1 => have ih := oks T k; ⟨ok_parts T ih, ok_functions T ih, ok_function T ih, ok_is_spot T ih, ok_part_at T ih, ok_at_way T ih, ok_more_round T ih, ok_uses_in T ih, ok_params_round T ih, ok_round_way T ih, ok_all_uses T ih, ok_binder_of T ih, ok_home_of T ih, ok_uses_of T ih, ok_name_of T ih, ok__law_cell T ih, ok__law_names T ih, ok__law_number T ih, ok__law_leaf T ih, ok__law_op T ih, ok__law_times T ih, ok__law_call T ih, ok__law_expression T ih, ok__law_program T ih, ok__law_spots T ih, ok__law_parts T ih, ok__law_rows T ih, ok__law_found T ih, ok__law_at T ih, ok__law_nearest T ih, ok__law_all T ih, ok__law_right T ih, ok_law T ih⟩
end
noncomputable def top_mk {w : World} {K : W.Frag} {h : Heap} {mg : Str → Option Value} (X : K.In h) (G : h.Ns mainGlobals mg) {f0 : Addr} {od0 an0 : Option Addr} {sl0 : Array (Option Value)} {oc0 kV0 dc0 pm0 cd0 ct0 : Value} {f1 : Addr} {od1 an1 : Option Addr} {sl1 : Array (Option Value)} {oc1 kV1 dc1 pm1 cd1 ct1 : Value} {f2 : Addr} {od2 an2 : Option Addr} {sl2 : Array (Option Value)} {oc2 kV2 dc2 pm2 cd2 ct2 : Value} {f3 : Addr} {od3 an3 : Option Addr} {sl3 : Array (Option Value)} {oc3 kV3 dc3 pm3 cd3 ct3 : Value} {f4 : Addr} {od4 an4 : Option Addr} {sl4 : Array (Option Value)} {oc4 kV4 dc4 pm4 cd4 ct4 : Value} {f5 : Addr} {od5 an5 : Option Addr} {sl5 : Array (Option Value)} {oc5 kV5 dc5 pm5 cd5 ct5 : Value} {f6 : Addr} {od6 an6 : Option Addr} {sl6 : Array (Option Value)} {oc6 kV6 dc6 pm6 cd6 ct6 : Value} {f7 : Addr} {od7 an7 : Option Addr} {sl7 : Array (Option Value)} {oc7 kV7 dc7 pm7 cd7 ct7 : Value} {f8 : Addr} {od8 an8 : Option Addr} {sl8 : Array (Option Value)} {oc8 kV8 dc8 pm8 cd8 ct8 : Value} {f9 : Addr} {od9 an9 : Option Addr} {sl9 : Array (Option Value)} {oc9 kV9 dc9 pm9 cd9 ct9 : Value} {f10 : Addr} {od10 an10 : Option Addr} {sl10 : Array (Option Value)} {oc10 kV10 dc10 pm10 cd10 ct10 : Value} {f11 : Addr} {od11 an11 : Option Addr} {sl11 : Array (Option Value)} {oc11 kV11 dc11 pm11 cd11 ct11 : Value} {f12 : Addr} {od12 an12 : Option Addr} {sl12 : Array (Option Value)} {oc12 kV12 dc12 pm12 cd12 ct12 : Value} {f13 : Addr} {od13 an13 : Option Addr} {sl13 : Array (Option Value)} {oc13 kV13 dc13 pm13 cd13 ct13 : Value} {f14 : Addr} {od14 an14 : Option Addr} {sl14 : Array (Option Value)} {oc14 kV14 dc14 pm14 cd14 ct14 : Value} {f15 : Addr} {od15 an15 : Option Addr} {sl15 : Array (Option Value)} {oc15 kV15 dc15 pm15 cd15 ct15 : Value} {f16 : Addr} {od16 an16 : Option Addr} {sl16 : Array (Option Value)} {oc16 kV16 dc16 pm16 cd16 ct16 : Value} {f17 : Addr} {od17 an17 : Option Addr} {sl17 : Array (Option Value)} {oc17 kV17 dc17 pm17 cd17 ct17 : Value} {f18 : Addr} {od18 an18 : Option Addr} {sl18 : Array (Option Value)} {oc18 kV18 dc18 pm18 cd18 ct18 : Value} {f19 : Addr} {od19 an19 : Option Addr} {sl19 : Array (Option Value)} {oc19 kV19 dc19 pm19 cd19 ct19 : Value} {f20 : Addr} {od20 an20 : Option Addr} {sl20 : Array (Option Value)} {oc20 kV20 dc20 pm20 cd20 ct20 : Value} {f21 : Addr} {od21 an21 : Option Addr} {sl21 : Array (Option Value)} {oc21 kV21 dc21 pm21 cd21 ct21 : Value} {f22 : Addr} {od22 an22 : Option Addr} {sl22 : Array (Option Value)} {oc22 kV22 dc22 pm22 cd22 ct22 : Value} {f23 : Addr} {od23 an23 : Option Addr} {sl23 : Array (Option Value)} {oc23 kV23 dc23 pm23 cd23 ct23 : Value} {f24 : Addr} {od24 an24 : Option Addr} {sl24 : Array (Option Value)} {oc24 kV24 dc24 pm24 cd24 ct24 : Value} {f25 : Addr} {od25 an25 : Option Addr} {sl25 : Array (Option Value)} {oc25 kV25 dc25 pm25 cd25 ct25 : Value} {f26 : Addr} {od26 an26 : Option Addr} {sl26 : Array (Option Value)} {oc26 kV26 dc26 pm26 cd26 ct26 : Value} {f27 : Addr} {od27 an27 : Option Addr} {sl27 : Array (Option Value)} {oc27 kV27 dc27 pm27 cd27 ct27 : Value} {f28 : Addr} {od28 an28 : Option Addr} {sl28 : Array (Option Value)} {oc28 kV28 dc28 pm28 cd28 ct28 : Value} {f29 : Addr} {od29 an29 : Option Addr} {sl29 : Array (Option Value)} {oc29 kV29 dc29 pm29 cd29 ct29 : Value} {f30 : Addr} {od30 an30 : Option Addr} {sl30 : Array (Option Value)} {oc30 kV30 dc30 pm30 cd30 ct30 : Value} {f31 : Addr} {od31 an31 : Option Addr} {sl31 : Array (Option Value)} {oc31 kV31 dc31 pm31 cd31 ct31 : Value} {f32 : Addr} {od32 an32 : Option Addr} {sl32 : Array (Option Value)} {oc32 kV32 dc32 pm32 cd32 ct32 : Value} {q_SPOTS : Addr} {es_SPOTS : Array DictEntry} {n_SPOTS : Nat} (a0 : W.nsIn K mainGlobals "parts" = some (some (.ref f0))) (l0 : K.lookup f0 = some ⟨oc0, od0, .func (W.fnOf "parts" "parts" (defArgs s_parts) (defBody s_parts) (defScope s_parts) .none kV0 dc0 pm0 an0 cd0 ct0), sl0⟩) (c0 : W.codeIn K cd0 "parts" = true) (k0 : W.keepIn K (.ref f0) = true) (a1 : W.nsIn K mainGlobals "functions" = some (some (.ref f1))) (l1 : K.lookup f1 = some ⟨oc1, od1, .func (W.fnOf "functions" "functions" (defArgs s_functions) (defBody s_functions) (defScope s_functions) .none kV1 dc1 pm1 an1 cd1 ct1), sl1⟩) (c1 : W.codeIn K cd1 "functions" = true) (k1 : W.keepIn K (.ref f1) = true) (a2 : W.nsIn K mainGlobals "function" = some (some (.ref f2))) (l2 : K.lookup f2 = some ⟨oc2, od2, .func (W.fnOf "function" "function" (defArgs s_function) (defBody s_function) (defScope s_function) .none kV2 dc2 pm2 an2 cd2 ct2), sl2⟩) (c2 : W.codeIn K cd2 "function" = true) (k2 : W.keepIn K (.ref f2) = true) (a3 : W.nsIn K mainGlobals "is_spot" = some (some (.ref f3))) (l3 : K.lookup f3 = some ⟨oc3, od3, .func (W.fnOf "is_spot" "is_spot" (defArgs s_is_spot) (defBody s_is_spot) (defScope s_is_spot) .none kV3 dc3 pm3 an3 cd3 ct3), sl3⟩) (c3 : W.codeIn K cd3 "is_spot" = true) (k3 : W.keepIn K (.ref f3) = true) (a4 : W.nsIn K mainGlobals "part_at" = some (some (.ref f4))) (l4 : K.lookup f4 = some ⟨oc4, od4, .func (W.fnOf "part_at" "part_at" (defArgs s_part_at) (defBody s_part_at) (defScope s_part_at) .none kV4 dc4 pm4 an4 cd4 ct4), sl4⟩) (c4 : W.codeIn K cd4 "part_at" = true) (k4 : W.keepIn K (.ref f4) = true) (a5 : W.nsIn K mainGlobals "at_way" = some (some (.ref f5))) (l5 : K.lookup f5 = some ⟨oc5, od5, .func (W.fnOf "at_way" "at_way" (defArgs s_at_way) (defBody s_at_way) (defScope s_at_way) .none kV5 dc5 pm5 an5 cd5 ct5), sl5⟩) (c5 : W.codeIn K cd5 "at_way" = true) (k5 : W.keepIn K (.ref f5) = true) (a6 : W.nsIn K mainGlobals "more_round" = some (some (.ref f6))) (l6 : K.lookup f6 = some ⟨oc6, od6, .func (W.fnOf "more_round" "more_round" (defArgs s_more_round) (defBody s_more_round) (defScope s_more_round) .none kV6 dc6 pm6 an6 cd6 ct6), sl6⟩) (c6 : W.codeIn K cd6 "more_round" = true) (k6 : W.keepIn K (.ref f6) = true) (a7 : W.nsIn K mainGlobals "uses_in" = some (some (.ref f7))) (l7 : K.lookup f7 = some ⟨oc7, od7, .func (W.fnOf "uses_in" "uses_in" (defArgs s_uses_in) (defBody s_uses_in) (defScope s_uses_in) .none kV7 dc7 pm7 an7 cd7 ct7), sl7⟩) (c7 : W.codeIn K cd7 "uses_in" = true) (k7 : W.keepIn K (.ref f7) = true) (a8 : W.nsIn K mainGlobals "params_round" = some (some (.ref f8))) (l8 : K.lookup f8 = some ⟨oc8, od8, .func (W.fnOf "params_round" "params_round" (defArgs s_params_round) (defBody s_params_round) (defScope s_params_round) .none kV8 dc8 pm8 an8 cd8 ct8), sl8⟩) (c8 : W.codeIn K cd8 "params_round" = true) (k8 : W.keepIn K (.ref f8) = true) (a9 : W.nsIn K mainGlobals "round_way" = some (some (.ref f9))) (l9 : K.lookup f9 = some ⟨oc9, od9, .func (W.fnOf "round_way" "round_way" (defArgs s_round_way) (defBody s_round_way) (defScope s_round_way) .none kV9 dc9 pm9 an9 cd9 ct9), sl9⟩) (c9 : W.codeIn K cd9 "round_way" = true) (k9 : W.keepIn K (.ref f9) = true) (a10 : W.nsIn K mainGlobals "all_uses" = some (some (.ref f10))) (l10 : K.lookup f10 = some ⟨oc10, od10, .func (W.fnOf "all_uses" "all_uses" (defArgs s_all_uses) (defBody s_all_uses) (defScope s_all_uses) .none kV10 dc10 pm10 an10 cd10 ct10), sl10⟩) (c10 : W.codeIn K cd10 "all_uses" = true) (k10 : W.keepIn K (.ref f10) = true) (a11 : W.nsIn K mainGlobals "binder_of" = some (some (.ref f11))) (l11 : K.lookup f11 = some ⟨oc11, od11, .func (W.fnOf "binder_of" "binder_of" (defArgs s_binder_of) (defBody s_binder_of) (defScope s_binder_of) .none kV11 dc11 pm11 an11 cd11 ct11), sl11⟩) (c11 : W.codeIn K cd11 "binder_of" = true) (k11 : W.keepIn K (.ref f11) = true) (a12 : W.nsIn K mainGlobals "home_of" = some (some (.ref f12))) (l12 : K.lookup f12 = some ⟨oc12, od12, .func (W.fnOf "home_of" "home_of" (defArgs s_home_of) (defBody s_home_of) (defScope s_home_of) .none kV12 dc12 pm12 an12 cd12 ct12), sl12⟩) (c12 : W.codeIn K cd12 "home_of" = true) (k12 : W.keepIn K (.ref f12) = true) (a13 : W.nsIn K mainGlobals "uses_of" = some (some (.ref f13))) (l13 : K.lookup f13 = some ⟨oc13, od13, .func (W.fnOf "uses_of" "uses_of" (defArgs s_uses_of) (defBody s_uses_of) (defScope s_uses_of) .none kV13 dc13 pm13 an13 cd13 ct13), sl13⟩) (c13 : W.codeIn K cd13 "uses_of" = true) (k13 : W.keepIn K (.ref f13) = true) (a14 : W.nsIn K mainGlobals "name_of" = some (some (.ref f14))) (l14 : K.lookup f14 = some ⟨oc14, od14, .func (W.fnOf "name_of" "name_of" (defArgs s_name_of) (defBody s_name_of) (defScope s_name_of) .none kV14 dc14 pm14 an14 cd14 ct14), sl14⟩) (c14 : W.codeIn K cd14 "name_of" = true) (k14 : W.keepIn K (.ref f14) = true) (a15 : W.nsIn K mainGlobals "_law_cell" = some (some (.ref f15))) (l15 : K.lookup f15 = some ⟨oc15, od15, .func (W.fnOf "_law_cell" "_law_cell" (defArgs s__law_cell) (defBody s__law_cell) (defScope s__law_cell) .none kV15 dc15 pm15 an15 cd15 ct15), sl15⟩) (c15 : W.codeIn K cd15 "_law_cell" = true) (k15 : W.keepIn K (.ref f15) = true) (a16 : W.nsIn K mainGlobals "_law_names" = some (some (.ref f16))) (l16 : K.lookup f16 = some ⟨oc16, od16, .func (W.fnOf "_law_names" "_law_names" (defArgs s__law_names) (defBody s__law_names) (defScope s__law_names) .none kV16 dc16 pm16 an16 cd16 ct16), sl16⟩) (c16 : W.codeIn K cd16 "_law_names" = true) (k16 : W.keepIn K (.ref f16) = true) (a17 : W.nsIn K mainGlobals "_law_number" = some (some (.ref f17))) (l17 : K.lookup f17 = some ⟨oc17, od17, .func (W.fnOf "_law_number" "_law_number" (defArgs s__law_number) (defBody s__law_number) (defScope s__law_number) .none kV17 dc17 pm17 an17 cd17 ct17), sl17⟩) (c17 : W.codeIn K cd17 "_law_number" = true) (k17 : W.keepIn K (.ref f17) = true) (a18 : W.nsIn K mainGlobals "_law_leaf" = some (some (.ref f18))) (l18 : K.lookup f18 = some ⟨oc18, od18, .func (W.fnOf "_law_leaf" "_law_leaf" (defArgs s__law_leaf) (defBody s__law_leaf) (defScope s__law_leaf) .none kV18 dc18 pm18 an18 cd18 ct18), sl18⟩) (c18 : W.codeIn K cd18 "_law_leaf" = true) (k18 : W.keepIn K (.ref f18) = true) (a19 : W.nsIn K mainGlobals "_law_op" = some (some (.ref f19))) (l19 : K.lookup f19 = some ⟨oc19, od19, .func (W.fnOf "_law_op" "_law_op" (defArgs s__law_op) (defBody s__law_op) (defScope s__law_op) .none kV19 dc19 pm19 an19 cd19 ct19), sl19⟩) (c19 : W.codeIn K cd19 "_law_op" = true) (k19 : W.keepIn K (.ref f19) = true) (a20 : W.nsIn K mainGlobals "_law_times" = some (some (.ref f20))) (l20 : K.lookup f20 = some ⟨oc20, od20, .func (W.fnOf "_law_times" "_law_times" (defArgs s__law_times) (defBody s__law_times) (defScope s__law_times) .none kV20 dc20 pm20 an20 cd20 ct20), sl20⟩) (c20 : W.codeIn K cd20 "_law_times" = true) (k20 : W.keepIn K (.ref f20) = true) (a21 : W.nsIn K mainGlobals "_law_call" = some (some (.ref f21))) (l21 : K.lookup f21 = some ⟨oc21, od21, .func (W.fnOf "_law_call" "_law_call" (defArgs s__law_call) (defBody s__law_call) (defScope s__law_call) .none kV21 dc21 pm21 an21 cd21 ct21), sl21⟩) (c21 : W.codeIn K cd21 "_law_call" = true) (k21 : W.keepIn K (.ref f21) = true) (a22 : W.nsIn K mainGlobals "_law_expression" = some (some (.ref f22))) (l22 : K.lookup f22 = some ⟨oc22, od22, .func (W.fnOf "_law_expression" "_law_expression" (defArgs s__law_expression) (defBody s__law_expression) (defScope s__law_expression) .none kV22 dc22 pm22 an22 cd22 ct22), sl22⟩) (c22 : W.codeIn K cd22 "_law_expression" = true) (k22 : W.keepIn K (.ref f22) = true) (a23 : W.nsIn K mainGlobals "_law_program" = some (some (.ref f23))) (l23 : K.lookup f23 = some ⟨oc23, od23, .func (W.fnOf "_law_program" "_law_program" (defArgs s__law_program) (defBody s__law_program) (defScope s__law_program) .none kV23 dc23 pm23 an23 cd23 ct23), sl23⟩) (c23 : W.codeIn K cd23 "_law_program" = true) (k23 : W.keepIn K (.ref f23) = true) (a24 : W.nsIn K mainGlobals "_law_spots" = some (some (.ref f24))) (l24 : K.lookup f24 = some ⟨oc24, od24, .func (W.fnOf "_law_spots" "_law_spots" (defArgs s__law_spots) (defBody s__law_spots) (defScope s__law_spots) .none kV24 dc24 pm24 an24 cd24 ct24), sl24⟩) (c24 : W.codeIn K cd24 "_law_spots" = true) (k24 : W.keepIn K (.ref f24) = true) (a25 : W.nsIn K mainGlobals "_law_parts" = some (some (.ref f25))) (l25 : K.lookup f25 = some ⟨oc25, od25, .func (W.fnOf "_law_parts" "_law_parts" (defArgs s__law_parts) (defBody s__law_parts) (defScope s__law_parts) .none kV25 dc25 pm25 an25 cd25 ct25), sl25⟩) (c25 : W.codeIn K cd25 "_law_parts" = true) (k25 : W.keepIn K (.ref f25) = true) (a26 : W.nsIn K mainGlobals "_law_rows" = some (some (.ref f26))) (l26 : K.lookup f26 = some ⟨oc26, od26, .func (W.fnOf "_law_rows" "_law_rows" (defArgs s__law_rows) (defBody s__law_rows) (defScope s__law_rows) .none kV26 dc26 pm26 an26 cd26 ct26), sl26⟩) (c26 : W.codeIn K cd26 "_law_rows" = true) (k26 : W.keepIn K (.ref f26) = true) (a27 : W.nsIn K mainGlobals "_law_found" = some (some (.ref f27))) (l27 : K.lookup f27 = some ⟨oc27, od27, .func (W.fnOf "_law_found" "_law_found" (defArgs s__law_found) (defBody s__law_found) (defScope s__law_found) .none kV27 dc27 pm27 an27 cd27 ct27), sl27⟩) (c27 : W.codeIn K cd27 "_law_found" = true) (k27 : W.keepIn K (.ref f27) = true) (a28 : W.nsIn K mainGlobals "_law_at" = some (some (.ref f28))) (l28 : K.lookup f28 = some ⟨oc28, od28, .func (W.fnOf "_law_at" "_law_at" (defArgs s__law_at) (defBody s__law_at) (defScope s__law_at) .none kV28 dc28 pm28 an28 cd28 ct28), sl28⟩) (c28 : W.codeIn K cd28 "_law_at" = true) (k28 : W.keepIn K (.ref f28) = true) (a29 : W.nsIn K mainGlobals "_law_nearest" = some (some (.ref f29))) (l29 : K.lookup f29 = some ⟨oc29, od29, .func (W.fnOf "_law_nearest" "_law_nearest" (defArgs s__law_nearest) (defBody s__law_nearest) (defScope s__law_nearest) .none kV29 dc29 pm29 an29 cd29 ct29), sl29⟩) (c29 : W.codeIn K cd29 "_law_nearest" = true) (k29 : W.keepIn K (.ref f29) = true) (a30 : W.nsIn K mainGlobals "_law_all" = some (some (.ref f30))) (l30 : K.lookup f30 = some ⟨oc30, od30, .func (W.fnOf "_law_all" "_law_all" (defArgs s__law_all) (defBody s__law_all) (defScope s__law_all) .none kV30 dc30 pm30 an30 cd30 ct30), sl30⟩) (c30 : W.codeIn K cd30 "_law_all" = true) (k30 : W.keepIn K (.ref f30) = true) (a31 : W.nsIn K mainGlobals "_law_right" = some (some (.ref f31))) (l31 : K.lookup f31 = some ⟨oc31, od31, .func (W.fnOf "_law_right" "_law_right" (defArgs s__law_right) (defBody s__law_right) (defScope s__law_right) .none kV31 dc31 pm31 an31 cd31 ct31), sl31⟩) (c31 : W.codeIn K cd31 "_law_right" = true) (k31 : W.keepIn K (.ref f31) = true) (a32 : W.nsIn K mainGlobals "law" = some (some (.ref f32))) (l32 : K.lookup f32 = some ⟨oc32, od32, .func (W.fnOf "law" "law" (defArgs s_law) (defBody s_law) (defScope s_law) .none kV32 dc32 pm32 an32 cd32 ct32), sl32⟩) (c32 : W.codeIn K cd32 "law" = true) (k32 : W.keepIn K (.ref f32) = true) (z_list : W.nsIn K mainGlobals "list" = some none) (z_isinstance : W.nsIn K mainGlobals "isinstance" = some none) (z_bool : W.nsIn K mainGlobals "bool" = some none) (z_int : W.nsIn K mainGlobals "int" = some none) (z_len : W.nsIn K mainGlobals "len" = some none) (z_all : W.nsIn K mainGlobals "all" = some none) (z_str : W.nsIn K mainGlobals "str" = some none) (z_tuple : W.nsIn K mainGlobals "tuple" = some none) (z_dict : W.nsIn K mainGlobals "dict" = some none) (z_enumerate : W.nsIn K mainGlobals "enumerate" = some none) (z_range : W.nsIn K mainGlobals "range" = some none) (z_max : W.nsIn K mainGlobals "max" = some none) (z_repr : W.nsIn K mainGlobals "repr" = some none) (z_sorted : W.nsIn K mainGlobals "sorted" = some none) (z_min : W.nsIn K mainGlobals "min" = some none) (g_SPOTS : W.nsIn K mainGlobals "SPOTS" = some (some (.ref q_SPOTS))) (u_SPOTS : K.lookup q_SPOTS = some ⟨.type "dict", none, .dict es_SPOTS n_SPOTS, #[]⟩) (v_SPOTS : tabIs K q_SPOTS k_SPOTS = true) (y_SPOTS : W.KeysLit w.params es_SPOTS.toList) : Top w K mg where
  a_parts := f0
  d_parts := _
  F_parts := fun_mk l0 c0 k0
  b_parts := (fun_mk l0 c0 k0).binds fun | _, _, _, _, _, _, [_], _ => rfl
  m_parts := W.mg_of X G a0
  a_functions := f1
  d_functions := _
  F_functions := fun_mk l1 c1 k1
  b_functions := (fun_mk l1 c1 k1).binds fun | _, _, _, _, _, _, [_], _ => rfl
  m_functions := W.mg_of X G a1
  a_function := f2
  d_function := _
  F_function := fun_mk l2 c2 k2
  b_function := (fun_mk l2 c2 k2).binds fun | _, _, _, _, _, _, [_, _, _], _ => rfl
  m_function := W.mg_of X G a2
  a_is_spot := f3
  d_is_spot := _
  F_is_spot := fun_mk l3 c3 k3
  b_is_spot := (fun_mk l3 c3 k3).binds fun | _, _, _, _, _, _, [_, _], _ => rfl
  m_is_spot := W.mg_of X G a3
  a_part_at := f4
  d_part_at := _
  F_part_at := fun_mk l4 c4 k4
  b_part_at := (fun_mk l4 c4 k4).binds fun | _, _, _, _, _, _, [_, _], _ => rfl
  m_part_at := W.mg_of X G a4
  a_at_way := f5
  d_at_way := _
  F_at_way := fun_mk l5 c5 k5
  b_at_way := (fun_mk l5 c5 k5).binds fun | _, _, _, _, _, _, [_, _], _ => rfl
  m_at_way := W.mg_of X G a5
  a_more_round := f6
  d_more_round := _
  F_more_round := fun_mk l6 c6 k6
  b_more_round := (fun_mk l6 c6 k6).binds fun | _, _, _, _, _, _, [_, _, _, _], _ => rfl
  m_more_round := W.mg_of X G a6
  a_uses_in := f7
  d_uses_in := _
  F_uses_in := fun_mk l7 c7 k7
  b_uses_in := (fun_mk l7 c7 k7).binds fun | _, _, _, _, _, _, [_, _, _], _ => rfl
  m_uses_in := W.mg_of X G a7
  a_params_round := f8
  d_params_round := _
  F_params_round := fun_mk l8 c8 k8
  b_params_round := (fun_mk l8 c8 k8).binds fun | _, _, _, _, _, _, [_, _, _], _ => rfl
  m_params_round := W.mg_of X G a8
  a_round_way := f9
  d_round_way := _
  F_round_way := fun_mk l9 c9 k9
  b_round_way := (fun_mk l9 c9 k9).binds fun | _, _, _, _, _, _, [_, _], _ => rfl
  m_round_way := W.mg_of X G a9
  a_all_uses := f10
  d_all_uses := _
  F_all_uses := fun_mk l10 c10 k10
  b_all_uses := (fun_mk l10 c10 k10).binds fun | _, _, _, _, _, _, [_, _, _], _ => rfl
  m_all_uses := W.mg_of X G a10
  a_binder_of := f11
  d_binder_of := _
  F_binder_of := fun_mk l11 c11 k11
  b_binder_of := (fun_mk l11 c11 k11).binds fun | _, _, _, _, _, _, [_, _], _ => rfl
  m_binder_of := W.mg_of X G a11
  a_home_of := f12
  d_home_of := _
  F_home_of := fun_mk l12 c12 k12
  b_home_of := (fun_mk l12 c12 k12).binds fun | _, _, _, _, _, _, [_, _], _ => rfl
  m_home_of := W.mg_of X G a12
  a_uses_of := f13
  d_uses_of := _
  F_uses_of := fun_mk l13 c13 k13
  b_uses_of := (fun_mk l13 c13 k13).binds fun | _, _, _, _, _, _, [_, _], _ => rfl
  m_uses_of := W.mg_of X G a13
  a_name_of := f14
  d_name_of := _
  F_name_of := fun_mk l14 c14 k14
  b_name_of := (fun_mk l14 c14 k14).binds fun | _, _, _, _, _, _, [_, _], _ => rfl
  m_name_of := W.mg_of X G a14
  a__law_cell := f15
  d__law_cell := _
  F__law_cell := fun_mk l15 c15 k15
  b__law_cell := (fun_mk l15 c15 k15).binds fun | _, _, _, _, _, _, [_, _], _ => rfl
  m__law_cell := W.mg_of X G a15
  a__law_names := f16
  d__law_names := _
  F__law_names := fun_mk l16 c16 k16
  b__law_names := (fun_mk l16 c16 k16).binds fun | _, _, _, _, _, _, [_], _ => rfl
  m__law_names := W.mg_of X G a16
  a__law_number := f17
  d__law_number := _
  F__law_number := fun_mk l17 c17 k17
  b__law_number := (fun_mk l17 c17 k17).binds fun | _, _, _, _, _, _, [_], _ => rfl
  m__law_number := W.mg_of X G a17
  a__law_leaf := f18
  d__law_leaf := _
  F__law_leaf := fun_mk l18 c18 k18
  b__law_leaf := (fun_mk l18 c18 k18).binds fun | _, _, _, _, _, _, [_, _, _], _ => rfl
  m__law_leaf := W.mg_of X G a18
  a__law_op := f19
  d__law_op := _
  F__law_op := fun_mk l19 c19 k19
  b__law_op := (fun_mk l19 c19 k19).binds fun | _, _, _, _, _, _, [_, _, _, _, _, _], _ => rfl
  m__law_op := W.mg_of X G a19
  a__law_times := f20
  d__law_times := _
  F__law_times := fun_mk l20 c20 k20
  b__law_times := (fun_mk l20 c20 k20).binds fun | _, _, _, _, _, _, [_, _, _, _, _, _], _ => rfl
  m__law_times := W.mg_of X G a20
  a__law_call := f21
  d__law_call := _
  F__law_call := fun_mk l21 c21 k21
  b__law_call := (fun_mk l21 c21 k21).binds fun | _, _, _, _, _, _, [_, _, _, _, _, _], _ => rfl
  m__law_call := W.mg_of X G a21
  a__law_expression := f22
  d__law_expression := _
  F__law_expression := fun_mk l22 c22 k22
  b__law_expression := (fun_mk l22 c22 k22).binds fun | _, _, _, _, _, _, [_, _, _, _, _], _ => rfl
  m__law_expression := W.mg_of X G a22
  a__law_program := f23
  d__law_program := _
  F__law_program := fun_mk l23 c23 k23
  b__law_program := (fun_mk l23 c23 k23).binds fun | _, _, _, _, _, _, [_, _, _], _ => rfl
  m__law_program := W.mg_of X G a23
  a__law_spots := f24
  d__law_spots := _
  F__law_spots := fun_mk l24 c24 k24
  b__law_spots := (fun_mk l24 c24 k24).binds fun | _, _, _, _, _, _, [_], _ => rfl
  m__law_spots := W.mg_of X G a24
  a__law_parts := f25
  d__law_parts := _
  F__law_parts := fun_mk l25 c25 k25
  b__law_parts := (fun_mk l25 c25 k25).binds fun | _, _, _, _, _, _, [_], _ => rfl
  m__law_parts := W.mg_of X G a25
  a__law_rows := f26
  d__law_rows := _
  F__law_rows := fun_mk l26 c26 k26
  b__law_rows := (fun_mk l26 c26 k26).binds fun | _, _, _, _, _, _, [_], _ => rfl
  m__law_rows := W.mg_of X G a26
  a__law_found := f27
  d__law_found := _
  F__law_found := fun_mk l27 c27 k27
  b__law_found := (fun_mk l27 c27 k27).binds fun | _, _, _, _, _, _, [_, _, _], _ => rfl
  m__law_found := W.mg_of X G a27
  a__law_at := f28
  d__law_at := _
  F__law_at := fun_mk l28 c28 k28
  b__law_at := (fun_mk l28 c28 k28).binds fun | _, _, _, _, _, _, [_, _], _ => rfl
  m__law_at := W.mg_of X G a28
  a__law_nearest := f29
  d__law_nearest := _
  F__law_nearest := fun_mk l29 c29 k29
  b__law_nearest := (fun_mk l29 c29 k29).binds fun | _, _, _, _, _, _, [_, _, _], _ => rfl
  m__law_nearest := W.mg_of X G a29
  a__law_all := f30
  d__law_all := _
  F__law_all := fun_mk l30 c30 k30
  b__law_all := (fun_mk l30 c30 k30).binds fun | _, _, _, _, _, _, [_, _, _, _], _ => rfl
  m__law_all := W.mg_of X G a30
  a__law_right := f31
  d__law_right := _
  F__law_right := fun_mk l31 c31 k31
  b__law_right := (fun_mk l31 c31 k31).binds fun | _, _, _, _, _, _, [_, _, _], _ => rfl
  m__law_right := W.mg_of X G a31
  a_law := f32
  d_law := _
  F_law := fun_mk l32 c32 k32
  b_law := (fun_mk l32 c32 k32).binds fun | _, _, _, _, _, _, [_], _ => rfl
  m_law := W.mg_of X G a32
  bb_law := fun s v => .of_eq rfl
  z_list := W.mg_none_of X G z_list
  z_isinstance := W.mg_none_of X G z_isinstance
  z_bool := W.mg_none_of X G z_bool
  z_int := W.mg_none_of X G z_int
  z_len := W.mg_none_of X G z_len
  z_all := W.mg_none_of X G z_all
  z_str := W.mg_none_of X G z_str
  z_tuple := W.mg_none_of X G z_tuple
  z_dict := W.mg_none_of X G z_dict
  z_enumerate := W.mg_none_of X G z_enumerate
  z_range := W.mg_none_of X G z_range
  z_max := W.mg_none_of X G z_max
  z_repr := W.mg_none_of X G z_repr
  z_sorted := W.mg_none_of X G z_sorted
  z_min := W.mg_none_of X G z_min
  q_SPOTS := q_SPOTS
  c_SPOTS := W.mg_of X G g_SPOTS
  t_SPOTS := tab_ok u_SPOTS y_SPOTS v_SPOTS
theorem law_fin (lvl : Nat) {l : W.OpenLaw} {w : World} {K : W.Frag} {mg : Str → Option Value} {fa : Addr} (hfa : mg "law" = some (.ref fa)) (T : Top w K mg) :
    ∃ fd : FuncData, (∀ (s : Shared) (v : Value), BindsTo s fd ⟨[v], []⟩ [("_law_script", v)]) ∧ ∀ base : Heap, K.In base → base.Ns mainGlobals mg → GOk l.prog w K mg base CX0 lvl fa fd ["_law_script"] (spD K W0 1 (sem lvl f_law)) := by
  have e : fa = T.a_law := PySem.Value.ref.inj (Option.some.inj (hfa.symm.trans T.m_law))
  subst e
  exact ⟨T.d_law, T.bb_law, fun base _ _ => (oks T lvl).i_law⟩
end K06
namespace K06
open PySem L2 TP
set_option maxHeartbeats 2000000
theorem rows_ok (Φ : Nat → Fn) (m : Str) (a b c : Slot) (M : Store) : ∀ (rs : List Row) (acc : List D), acc.length + rs.length ≤ 1000 →
    lcGo (bName 4) dYes (el_functions_0 Φ) [a, b, .val (.str m), c, .un] (rs.map Row.toD) acc M = .ok (acc ++ (rs.map fun r => fnD (m, r))) M := by
  intro rs
  induction rs with
  | nil => intro acc _; simp [lcGo]
  | cons r rs ih =>
    intro acc hl
    rw [List.length_cons] at hl
    rw [List.map_cons]
    unfold lcGo
    simp [el_functions_0_eq, row_add]
    rw [if_pos (by omega), ih _ (by simp; omega), List.append_assoc]
    rfl
theorem functions_ok (k : Nat) (P : Pr) (M : Store) (hl : (flat P).length ≤ 1000) : sem (k + 1) f_functions [pgD P] M = .ok (.own ((flat P).map fnD)) M := by
  rw [e_functions]
  have key : ∀ (Q : Pr) (a c d : Slot) (acc : List D), acc.length + (flat Q).length ≤ 1000 → ∃ c' d', forGo (bTup [2, 3]) (lp_functions_0 (sem k)) (Q.map rmD) [a, .own acc, c, d, .un] M = .next [a, .own (acc ++ (flat Q).map fnD), c', d', .un] M := by
    intro Q
    induction Q with
    | nil => intro a c d acc _; exact ⟨c, d, by simp [forGo, flat]⟩
    | cons q Q ih =>
      intro a c d acc hl
      obtain ⟨m, rs⟩ := q
      simp only [flat, List.length_append, List.length_map] at hl
      obtain ⟨c', d', h⟩ := ih a (.val (.str m)) (.val (.tup (rs.map Row.toD))) (acc ++ rs.map fun r => fnD (m, r)) (by simp; omega)
      refine ⟨c', d', ?_⟩
      have hr := rows_ok (sem k) m a (.own acc) (.val (.tup (rs.map Row.toD))) M rs [] (by simp; omega)
      rw [List.map_cons]
      unfold forGo
      simp [lp_functions_0_eq, rmD, bTup, bNames, itemsD, wipeD, hr, lstOf]
      rw [if_pos (by omega)]
      simp only
      rw [h]
      simp [flat]
  obtain ⟨c', d', h⟩ := key P (.val (pgD P)) .un .un [] (by simpa using hl)
  simp [runF, m_functions, startD]
  simp [pgD, itemsD]
  rw [← pgD, h]
  simp
end K06
namespace K06
open PySem L2 TP
set_option maxHeartbeats 2000000
def isF (m f : Str) (x : Str × Row) : Bool := decide (x.1 = m) && decide (x.2.f = f)
def pbD (x : Str × Row) : D := .tup [.tup (x.2.ps.map .str), x.2.b.toD]
theorem sl2 {a b c d : D} (M : Store) : slD M (.tup [a, b, c, d]) (some 2) none = some (.val (.tup [c, d])) := rfl
theorem function_ok (k : Nat) (P : Pr) (m f : Str) (M : Store) (hl : (flat P).length ≤ 1000) : sem (k + 2) f_function [pgD P, .str m, .str f] M = .ok (.val (match (flat P).find? (isF m f) with | some x => pbD x | none => .non)) M := by
  have key : ∀ (xs : List (Str × Row)) (s3 : Slot), forGo (bName 3) (lp_function_0 (sem (k + 1))) (xs.map fnD) [.val (pgD P), .val (.str m), .val (.str f), s3] M
      = match xs.find? (isF m f) with | some x => .ret (.val (pbD x)) M | none => .next [.val (pgD P), .val (.str m), .val (.str f), (match xs.getLast? with | some x => .val (fnD x) | none => s3)] M := by
    intro xs
    induction xs with
    | nil => intro s3; simp [forGo]
    | cons x xs ih =>
      intro s3
      rw [List.map_cons]
      unfold forGo
      rw [List.find?_cons]
      cases hx : isF m f x with
      | true =>
        unfold isF at hx
        rw [Bool.and_eq_true, decide_eq_true_eq, decide_eq_true_eq] at hx
        simp [lp_function_0_eq, fnD, eqS, hx.1, hx.2, sl2, pbD]
      | false =>
        have h0 := ih (.val (fnD x))
        have hl : (match (x :: xs).getLast? with | some y => Slot.val (fnD y) | none => s3) = (match xs.getLast? with | some y => Slot.val (fnD y) | none => .val (fnD x)) := by
          cases xs with
          | nil => rfl
          | cons y ys => rw [List.getLast?_cons_cons]; cases hq : (y :: ys).getLast? with
            | none => simp at hq
            | some z => rfl
        rw [hl, ← h0]
        unfold isF at hx
        by_cases h1 : x.1 = m
        · have h2 : ¬ x.2.f = f := fun h2 => by simp [h1, h2] at hx
          simp [lp_function_0_eq, fnD, eqS, h1, h2]
        · simp [lp_function_0_eq, fnD, eqS, h1]
  rw [e_function]
  have h0 := functions_ok k P M hl
  have h1 := key (flat P) .un
  generalize hI : (flat P).map fnD = I at *
  cases hf : (flat P).find? (isF m f) with
  | some x =>
    rw [hf] at h1
    simp [runF, m_function, startD, h0, itemsD, h1]
  | none =>
    rw [hf] at h1
    simp [runF, m_function, startD, h0, itemsD, h1]
end K06
namespace TP
open PySem L2
def plainT : D → Bool
  | .fro _ => false
  | .ref _ => false
  | .fn _ => false
  | _ => true
def isStr : D → Bool
  | .str _ => true
  | _ => false
theorem isStr_str {d : D} (h : isStr d = true) : ∃ x, d = .str x := by
  cases d <;> first | (simp [isStr] at h; done) | exact ⟨_, rfl⟩
def spotN : D → Option Nat
  | .int i => if 0 ≤ i then some i.toNat else none
  | _ => none
theorem is_nn (M : Store) : isD M .non .non = some (.val (.bl true)) := rfl
theorem is_tn (M : Store) (xs : List D) : isD M (.tup xs) .non = some (.val (.bl false)) := rfl
theorem isnt_nn (M : Store) : isntD M .non .non = some (.val (.bl false)) := rfl
theorem isnt_tn (M : Store) (xs : List D) : isntD M (.tup xs) .non = some (.val (.bl true)) := rfl
theorem isi_tup (M : Store) (xs : List D) : isiD "tuple" M (.tup xs) = some (.val (.bl true)) := by simp [isiD, clsD, subTy]
theorem spotN_int {d : D} {i : Nat} (h : spotN d = some i) : d = .int (i : Nat) := by
  cases d with
  | int j =>
    simp only [spotN] at h
    split at h
    · cases h; congr 1; omega
    · cases h
  | _ => simp [spotN] at h
def subR : Ex → List D → Option Ex
  | e, [] => some e
  | e, d :: r => match spotN d with
    | some i => match e.parts[i]? with
      | some p => subR p r
      | none => none
    | none => none
def optD : Option Ex → D
  | some e => e.toD
  | none => .non
def findF (P : Pr) (m f : Str) : Option (Str × Row) := (flat P).find? fun x => decide (x.1 = m) && decide (x.2.f = f)
def atW (P : Pr) : D → Option Ex
  | .tup (.str m :: .str f :: r) => match findF P m f with
    | some x => subR x.2.b r
    | none => none
  | _ => none
def wayT : D → Bool
  | .tup ds => ds.all plainT
  | .kt _ => false
  | d => plainT d
theorem atW_not {P : Pr} {a b : D} {r : List D} (h : (isStr a && isStr b) = false) : atW P (.tup (a :: b :: r)) = none := by
  unfold atW
  split
  · rename_i m f r' e
    simp only [D.tup.injEq, List.cons.injEq] at e
    obtain ⟨rfl, rfl, rfl⟩ := e
    simp [isStr] at h
  · rfl
theorem cutD2 {a b : D} {r : List D} : cutD (a :: b :: r) none (some 2) = [a, b] := by
  unfold cutD HT.sIx
  simp
theorem cutD2b {a b : D} {r : List D} : cutD (a :: b :: r) (some 2) none = r := by
  unfold cutD HT.sIx
  simp
theorem subR_row : ∀ (r : List Nat) (e : Ex), subR e (r.map fun i => .int (i : Nat)) = Ex.sub e r
  | [], e => rfl
  | i :: r, e => by
    rw [List.map_cons, subR, Ex.sub]
    have : spotN (.int (i : Nat)) = some i := by simp [spotN]
    rw [this]
    simp only
    cases e.parts[i]? with
    | none => rfl
    | some p => exact subR_row r p
abbrev EVd := List (Key × D)
def moreP (e : Ex) (w : List D) (kv : EVd) (i : Nat) : EVd := match e with
  | .lt x _ _ => if i = 1 then putD kv (.inr x) (.tup [.str "let", .tup w]) else kv
  | .times _ a s _ _ => if i = 2 then putD (putD kv (.inr a) (.tup [.str "count", .tup w])) (.inr s) (.tup [.str "sum", .tup w]) else kv
  | _ => kv
mutual
def usesP : Ex → List D → EVd → List (D × D)
  | .num _, _, _ => []
  | .use x, w, kv => [(.tup w, (lookD kv (.inr x)).getD .non)]
  | .op _ a b, w, kv => usesP a (w ++ [.int 0]) kv ++ (usesP b (w ++ [.int 1]) kv ++ [])
  | .lt x a b, w, kv => usesP a (w ++ [.int 0]) kv ++ (usesP b (w ++ [.int 1]) (putD kv (.inr x) (.tup [.str "let", .tup w])) ++ [])
  | .ite a b c, w, kv => usesP a (w ++ [.int 0]) kv ++ (usesP b (w ++ [.int 1]) kv ++ (usesP c (w ++ [.int 2]) kv ++ []))
  | .times a i s b c, w, kv => usesP a (w ++ [.int 0]) kv ++ (usesP b (w ++ [.int 1]) kv ++ (usesP c (w ++ [.int 2]) (putD (putD kv (.inr i) (.tup [.str "count", .tup w])) (.inr s) (.tup [.str "sum", .tup w])) ++ []))
  | .tell a b, w, kv => usesP a (w ++ [.int 0]) kv ++ (usesP b (w ++ [.int 1]) kv ++ [])
  | .stop a, w, kv => usesP a (w ++ [.int 0]) kv ++ []
  | .call _ _ as, w, kv => usesPL as 0 w kv
def usesPL : List Ex → Nat → List D → EVd → List (D × D)
  | [], _, _, _ => []
  | e :: es, k, w, kv => usesP e (w ++ [.int (k : Nat)]) kv ++ usesPL es (k + 1) w kv
end
def usesQ (e : Ex) (w : List D) (kv : EVd) : Nat → List Ex → List (D × D)
  | _, [] => []
  | k, p :: ps => usesP p (w ++ [.int (k : Nat)]) (moreP e w kv k) ++ usesQ e w kv (k + 1) ps
theorem usesPL_eq (m f : Str) (xs : List Ex) (w : List D) (kv : EVd) : ∀ (as : List Ex) (k : Nat), usesPL as k w kv = usesQ (.call m f xs) w kv k as
  | [], k => by rw [usesPL, usesQ]
  | e :: es, k => by
    rw [usesPL, usesQ, usesPL_eq m f xs w kv es (k + 1)]
    rfl
theorem usesP_eq (e : Ex) (w : List D) (kv : EVd) (h : ∀ x, e ≠ .use x) : usesP e w kv = usesQ e w kv 0 e.parts := by
  cases e with
  | num n => rfl
  | use x => exact absurd rfl (h x)
  | call m f as => rw [usesP]; exact usesPL_eq m f as w kv as 0
  | _ => rfl
theorem moreP_len (e : Ex) (w : List D) (kv : EVd) (i : Nat) : (moreP e w kv i).length ≤ kv.length + 2 := by
  have hp : ∀ (k : EVd) (x : Key) (v : D), (putD k x v).length ≤ k.length + 1 := fun k x v => by
    unfold putD
    split
    · rw [List.length_map]; omega
    · rw [List.length_append, List.length_singleton]; omega
  cases e with
  | lt x a b =>
    simp only [moreP]
    split
    · have := hp kv (.inr x) (.tup [.str "let", .tup w]); omega
    · omega
  | times a i' s b c =>
    simp only [moreP]
    split
    · have h1 := hp kv (.inr i') (.tup [.str "count", .tup w])
      have h2 := hp (putD kv (.inr i') (.tup [.str "count", .tup w])) (.inr s) (.tup [.str "sum", .tup w])
      omega
    · omega
  | _ => simp only [moreP]; omega
def pairD (p : D × D) : D := .tup [p.1, p.2]
mutual
theorem usesP_len : ∀ (e : Ex) (w : List D) (kv : EVd), (usesP e w kv).length ≤ e.cnt
  | .num _, _, _ => by simp [usesP, Ex.cnt]
  | .use x, w, kv => by simp [usesP, Ex.cnt]
  | .op _ a b, w, kv => by
    have h1 := usesP_len a (w ++ [.int 0]) kv
    have h2 := usesP_len b (w ++ [.int 1]) kv
    simp only [usesP, Ex.cnt, List.length_append, List.length_nil]; omega
  | .lt x a b, w, kv => by
    have h1 := usesP_len a (w ++ [.int 0]) kv
    have h2 := usesP_len b (w ++ [.int 1]) (putD kv (.inr x) (.tup [.str "let", .tup w]))
    simp only [usesP, Ex.cnt, List.length_append, List.length_nil]; omega
  | .ite a b c, w, kv => by
    have h1 := usesP_len a (w ++ [.int 0]) kv
    have h2 := usesP_len b (w ++ [.int 1]) kv
    have h3 := usesP_len c (w ++ [.int 2]) kv
    simp only [usesP, Ex.cnt, List.length_append, List.length_nil]; omega
  | .times a i s b c, w, kv => by
    have h1 := usesP_len a (w ++ [.int 0]) kv
    have h2 := usesP_len b (w ++ [.int 1]) kv
    have h3 := usesP_len c (w ++ [.int 2]) (putD (putD kv (.inr i) (.tup [.str "count", .tup w])) (.inr s) (.tup [.str "sum", .tup w]))
    simp only [usesP, Ex.cnt, List.length_append, List.length_nil]; omega
  | .tell a b, w, kv => by
    have h1 := usesP_len a (w ++ [.int 0]) kv
    have h2 := usesP_len b (w ++ [.int 1]) kv
    simp only [usesP, Ex.cnt, List.length_append, List.length_nil]; omega
  | .stop a, w, kv => by
    have h1 := usesP_len a (w ++ [.int 0]) kv
    simp only [usesP, Ex.cnt, List.length_append, List.length_nil]; omega
  | .call m f as, w, kv => by
    have h1 := usesPL_len as 0 w kv
    simp only [usesP, Ex.cnt]; omega
theorem usesPL_len : ∀ (es : List Ex) (k : Nat) (w : List D) (kv : EVd), (usesPL es k w kv).length ≤ Ex.cnts es
  | [], k, w, kv => by simp [usesPL, Ex.cnts]
  | e :: es, k, w, kv => by
    have h1 := usesP_len e (w ++ [.int (k : Nat)]) kv
    have h2 := usesPL_len es (k + 1) w kv
    simp only [usesPL, Ex.cnts, List.length_append]; omega
end
def parB (m f : Str) : Nat → List Str → EVd
  | _, [] => []
  | k, x :: xs => (.inr x, .tup [.str "param", .str m, .str f, .int (k : Nat)]) :: parB m f (k + 1) xs
def parKV (m f : Str) (ps : List Str) : EVd := mergeP [] (parB m f 0 ps)
def kvD (p : Key × D) : D := match p with
  | (.inl i, d) => .tup [.int i, d]
  | (.inr x, d) => .tup [.str x, d]
theorem pairsK_kv : ∀ kvs : EVd, pairsK (kvs.map kvD) = some kvs
  | [] => rfl
  | (.inl i, d) :: kvs => by
    rw [List.map_cons]
    show (match keyD (.int i), pairsK (kvs.map kvD) with | some k, some ks => some ((k, d) :: ks) | _, _ => none) = _
    rw [pairsK_kv kvs]; rfl
  | (.inr x, d) :: kvs => by
    rw [List.map_cons]
    show (match keyD (.str x), pairsK (kvs.map kvD) with | some k, some ks => some ((k, d) :: ks) | _, _ => none) = _
    rw [pairsK_kv kvs]; rfl
theorem parB_len (m f : Str) : ∀ (ps : List Str) (k : Nat), (parB m f k ps).length = ps.length
  | [], _ => rfl
  | x :: xs, k => by rw [parB, List.length_cons, parB_len m f xs (k + 1), List.length_cons]
theorem putD_len1 (k : EVd) (x : Key) (v : D) : (putD k x v).length ≤ k.length + 1 := by
  unfold putD
  split
  · rw [List.length_map]; omega
  · rw [List.length_append, List.length_singleton]; omega
theorem mergeP_len : ∀ (xs acc : EVd), (mergeP acc xs).length ≤ acc.length + xs.length
  | [], acc => by simp [mergeP]
  | x :: xs, acc => by
    have h1 := mergeP_len xs (putD acc x.1 x.2)
    have h2 := putD_len1 acc x.1 x.2
    show (mergeP (putD acc x.1 x.2) xs).length ≤ _
    rw [List.length_cons]
    omega
def headB : D → Bool
  | .str s => decide (s = "param") || (decide (s = "let") || (decide (s = "count") || decide (s = "sum")))
  | _ => false
def isWord (e : Ex) (s : Str) : Bool := match e with
  | .lt _ _ _ => decide (s = "let")
  | .times _ _ _ _ _ => decide (s = "count") || decide (s = "sum")
  | _ => false
def homeA (P : Pr) (m f : Str) (k : D) : Option (Str × Str) := match findF P m f, spotN k with
  | some x, some i => if i < x.2.ps.length then some (m, f) else none
  | _, _ => none
def homeB (P : Pr) (s : Str) (a : D) : Option (Str × Str) := match a, atW P a with
  | .tup (.str m :: .str f :: _), some e => if isWord e s = true then some (m, f) else none
  | _, _ => none
def homeP (P : Pr) : D → Option (Str × Str)
  | .tup (.str s :: a :: r) => if s = "param" then match a, r with
      | .str m, [.str f, k] => homeA P m f k
      | _, _ => none
    else if headB (.str s) = true ∧ r = [] then homeB P s a
    else none
  | _ => none
theorem homeB_none {P : Pr} {s : Str} {a : D} (h : atW P a = none) : homeB P s a = none := by
  unfold homeB
  split
  · rename_i he
    rw [h] at he
    cases he
  · rfl
theorem homeB_some {P : Pr} {s m f : Str} {r : List D} {e : Ex} (h : atW P (.tup (.str m :: .str f :: r)) = some e) : homeB P s (.tup (.str m :: .str f :: r)) = if isWord e s = true then some (m, f) else none := by
  unfold homeB
  rw [h]
def homeD : Option (Str × Str) → D
  | some (m, f) => .tup [.str m, .str f]
  | none => .non
structure BindT (d : D) : Prop where
  pl : plainT d = true
  nk : ∀ xs, d ≠ .kt xs
  tup : ∀ h r, d = .tup (h :: r) → (∀ M, notInWD M h (.tup [.str "param", .str "let", .str "count", .str "sum"]) = some (.val (.bl (!headB h)))) ∧ ∀ x ∈ r, wayT x = true
theorem wayT_plain {d : D} (h : wayT d = true) : plainT d = true := by
  cases d <;> first | rfl | exact h
def GoodK (n : Nat) (kv : EVd) : Prop := ∀ q ∈ kv, goodD q.2 = true ∧ dpD q.2 ≤ n
theorem GoodK.look {n : Nat} {kv : EVd} (h : GoodK n kv) (x : Key) : goodD ((lookD kv x).getD .non) = true ∧ dpD ((lookD kv x).getD .non) ≤ n := by
  cases hx : lookD kv x with
  | none => exact ⟨rfl, Nat.zero_le _⟩
  | some d =>
    unfold lookD at hx
    cases hf : kv.find? fun kv => decide (kv.1 = x) with
    | none => rw [hf] at hx; cases hx
    | some q =>
      rw [hf] at hx
      cases hx
      exact h q (List.mem_of_find?_eq_some hf)
theorem GoodK.put {n : Nat} {kv : EVd} (h : GoodK n kv) (x : Key) (v : D) (hv : goodD v = true ∧ dpD v ≤ n) : GoodK n (putD kv x v) := by
  intro q hq
  unfold putD at hq
  split at hq
  · obtain ⟨z, hz, rfl⟩ := List.mem_map.mp hq
    split
    · exact hv
    · exact h z hz
  · rcases List.mem_append.mp hq with hq | hq
    · exact h q hq
    · rw [List.mem_singleton] at hq; subst hq; exact hv
theorem goodL_append : ∀ (a b : List D), goodL (a ++ b) = (goodL a && goodL b) ∧ dpL (a ++ b) = max (dpL a) (dpL b)
  | [], b => ⟨by rw [List.nil_append, goodL]; rfl, by rw [List.nil_append, dpL]; omega⟩
  | x :: a, b => by
    obtain ⟨h1, h2⟩ := goodL_append a b
    exact ⟨by rw [List.cons_append, goodL, h1, goodL, Bool.and_assoc], by rw [List.cons_append, dpL, h2, dpL]; omega⟩
def GoodW (w : List D) : Prop := goodL w = true ∧ dpL w = 0
theorem GoodW.snoc {w : List D} (h : GoodW w) (i : Int) : GoodW (w ++ [.int i]) := by
  obtain ⟨h1, h2⟩ := goodL_append w [.int i]
  exact ⟨by rw [h1, h.1]; rfl, by rw [h2, h.2]; rfl⟩
theorem goodT2 {s : Str} (hs : okStr s = true) {w : List D} (h : GoodW w) : goodD (.tup [.str s, .tup w]) = true ∧ dpD (.tup [.str s, .tup w]) ≤ 2 := by
  constructor
  · show (okStr s && (goodD (.tup w) && true)) = true
    rw [hs]
    show (true && (goodL w && true)) = true
    rw [h.1]; rfl
  · show max 0 (max (dpL w + 1) 0) + 1 ≤ 2
    rw [h.2]; decide
theorem ok_let : okStr "let" = true := by decide +kernel
theorem ok_count : okStr "count" = true := by decide +kernel
theorem ok_sum : okStr "sum" = true := by decide +kernel
theorem ok_param : okStr "param" = true := by decide +kernel
mutual
theorem usesP_good : ∀ (e : Ex) (w : List D) (kv : EVd), GoodW w → GoodK 2 kv → ∀ q ∈ usesP e w kv, goodD q.2 = true ∧ dpD q.2 ≤ 2
  | .num _, _, _, _, _, q, hq => by simp [usesP] at hq
  | .use x, w, kv, _, hk, q, hq => by
    simp only [usesP, List.mem_singleton] at hq
    subst hq
    exact hk.look _
  | .op _ a b, w, kv, hw, hk, q, hq => by
    simp only [usesP, List.append_nil, List.mem_append] at hq
    exact hq.elim (usesP_good a _ kv (hw.snoc 0) hk q) (usesP_good b _ kv (hw.snoc 1) hk q)
  | .lt x a b, w, kv, hw, hk, q, hq => by
    simp only [usesP, List.append_nil, List.mem_append] at hq
    exact hq.elim (usesP_good a _ kv (hw.snoc 0) hk q) (usesP_good b _ _ (hw.snoc 1) (hk.put _ _ (goodT2 ok_let hw)) q)
  | .ite a b c, w, kv, hw, hk, q, hq => by
    simp only [usesP, List.append_nil, List.mem_append] at hq
    exact hq.elim (usesP_good a _ kv (hw.snoc 0) hk q) fun hq => hq.elim (usesP_good b _ kv (hw.snoc 1) hk q) (usesP_good c _ kv (hw.snoc 2) hk q)
  | .times a i s b c, w, kv, hw, hk, q, hq => by
    simp only [usesP, List.append_nil, List.mem_append] at hq
    exact hq.elim (usesP_good a _ kv (hw.snoc 0) hk q) fun hq => hq.elim (usesP_good b _ kv (hw.snoc 1) hk q) (usesP_good c _ _ (hw.snoc 2) ((hk.put _ _ (goodT2 ok_count hw)).put _ _ (goodT2 ok_sum hw)) q)
  | .tell a b, w, kv, hw, hk, q, hq => by
    simp only [usesP, List.append_nil, List.mem_append] at hq
    exact hq.elim (usesP_good a _ kv (hw.snoc 0) hk q) (usesP_good b _ kv (hw.snoc 1) hk q)
  | .stop a, w, kv, hw, hk, q, hq => by
    simp only [usesP, List.append_nil] at hq
    exact usesP_good a _ kv (hw.snoc 0) hk q hq
  | .call m f as, w, kv, hw, hk, q, hq => by
    simp only [usesP] at hq
    exact usesPL_good as 0 w kv hw hk q hq
theorem usesPL_good : ∀ (es : List Ex) (k : Nat) (w : List D) (kv : EVd), GoodW w → GoodK 2 kv → ∀ q ∈ usesPL es k w kv, goodD q.2 = true ∧ dpD q.2 ≤ 2
  | [], k, w, kv, _, _, q, hq => by simp [usesPL] at hq
  | e :: es, k, w, kv, hw, hk, q, hq => by
    simp only [usesPL, List.mem_append] at hq
    exact hq.elim (usesP_good e _ kv (hw.snoc _) hk q) (usesPL_good es (k + 1) w kv hw hk q)
end
theorem parB_good {m f : Str} (hm : okStr m = true) (hf : okStr f = true) : ∀ (ps : List Str) (k : Nat), GoodK 2 (parB m f k ps)
  | [], _ => fun q hq => by simp [parB] at hq
  | x :: xs, k => fun q hq => by
    rw [parB] at hq
    rcases List.mem_cons.mp hq with rfl | hq
    · constructor
      · show (okStr "param" && (okStr m && (okStr f && (true && true)))) = true
        rw [hm, hf, ok_param]; rfl
      · exact (by decide : (1 : Nat) ≤ 2)
    · exact parB_good hm hf xs (k + 1) q hq
theorem mergeP_good {n : Nat} : ∀ (xs acc : EVd), GoodK n xs → GoodK n acc → GoodK n (mergeP acc xs)
  | [], acc, _, h => h
  | x :: xs, acc, hx, h => mergeP_good xs _ (fun q hq => hx q (List.mem_cons_of_mem _ hq)) (h.put x.1 x.2 (hx x List.mem_cons_self))
theorem parKV_good {m f : Str} (hm : okStr m = true) (hf : okStr f = true) (ps : List Str) : GoodK 2 (parKV m f ps) := mergeP_good _ [] (parB_good hm hf ps 0) fun q hq => absurd hq List.not_mem_nil
theorem findF_mem {P : Pr} {m f : Str} {x : Str × Row} (h : findF P m f = some x) : x ∈ flat P ∧ x.1 = m ∧ x.2.f = f := by
  have h2 := List.find?_some h
  simp only [Bool.and_eq_true, decide_eq_true_eq] at h2
  exact ⟨List.mem_of_find?_eq_some h, h2.1, h2.2⟩
theorem atW_find {P : Pr} {m f : Str} {r : List D} {e : Ex} (h : atW P (.tup (.str m :: .str f :: r)) = some e) : ∃ x, findF P m f = some x ∧ subR x.2.b r = some e := by
  unfold atW at h
  cases hf : findF P m f with
  | none => simp only [hf] at h; cases h
  | some x => simp only [hf] at h; exact ⟨x, rfl, h⟩
theorem homeP_find {P : Pr} {d : D} {m f : Str} (h : homeP P d = some (m, f)) : ∃ x, findF P m f = some x := by
  have hA : ∀ a b k, homeA P a b k = some (m, f) → ∃ x, findF P m f = some x := fun a b k h => by
    unfold homeA at h
    split at h
    · rename_i x i h1 h2
      split at h
      · cases h; exact ⟨x, h1⟩
      · cases h
    · cases h
  have hB : ∀ s a, homeB P s a = some (m, f) → ∃ x, findF P m f = some x := fun s a h => by
    unfold homeB at h
    split at h
    · rename_i e he
      split at h
      · cases h
        obtain ⟨x, hx, _⟩ := atW_find he
        exact ⟨x, hx⟩
      · cases h
    · cases h
  unfold homeP at h
  split at h
  · split at h
    · split at h
      · exact hA _ _ _ h
      · cases h
    · split at h
      · exact hB _ _ h
      · cases h
  · cases h
def usesOfP (P : Pr) (d : D) : Option (List D) := match homeP P d with
  | some (m, f) => match findF P m f with
    | some x => some (((usesP x.2.b [.str m, .str f] (parKV m f x.2.ps)).filter fun q => eqvD q.2 d).map fun q => q.1)
    | none => none
  | none => none
def slotO : Option (List D) → Slot
  | some L => .own L
  | none => .val .non
theorem usesOfP_none {P : Pr} {d : D} (h : homeP P d = none) : usesOfP P d = none := by
  unfold usesOfP
  rw [h]
theorem usesOfP_some {P : Pr} {d : D} {m f : Str} {x : Str × Row} (h : homeP P d = some (m, f)) (hx : findF P m f = some x) : usesOfP P d = some (((usesP x.2.b [.str m, .str f] (parKV m f x.2.ps)).filter fun q => eqvD q.2 d).map fun q => q.1) := by
  unfold usesOfP
  rw [h]
  simp only [hx]
end TP
namespace K06
open PySem L2 TP
set_option maxHeartbeats 4000000
theorem parts_ok (k : Nat) (e : Ex) (M : Store) : sem (k + 1) f_parts [e.toD] M = .ok (.own (e.parts.map Ex.toD)) M := by
  rw [e_parts]
  have c1 := fun M => eqW (s := "num") (t := "call") (b := false) (by decide +kernel) M
  have c2 := fun M => eqW (s := "use") (t := "call") (b := false) (by decide +kernel) M
  have c3 := fun M => eqW (s := "op") (t := "call") (b := false) (by decide +kernel) M
  have c4 := fun M => eqW (s := "let") (t := "call") (b := false) (by decide +kernel) M
  have c5 := fun M => eqW (s := "if") (t := "call") (b := false) (by decide +kernel) M
  have c6 := fun M => eqW (s := "times") (t := "call") (b := false) (by decide +kernel) M
  have c7 := fun M => eqW (s := "tell") (t := "call") (b := false) (by decide +kernel) M
  have c8 := fun M => eqW (s := "stop") (t := "call") (b := false) (by decide +kernel) M
  have c9 := fun M => eqW (s := "call") (t := "call") (b := true) (by decide +kernel) M
  have t1 : tabFind k_SPOTS "num" = some (.kt []) := rfl
  have t2 : tabFind k_SPOTS "use" = some (.kt []) := rfl
  have t3 : tabFind k_SPOTS "op" = some (.kt [.int 2, .int 3]) := rfl
  have t4 : tabFind k_SPOTS "let" = some (.kt [.int 2, .int 3]) := rfl
  have t5 : tabFind k_SPOTS "if" = some (.kt [.int 1, .int 2, .int 3]) := rfl
  have t6 : tabFind k_SPOTS "times" = some (.kt [.int 1, .int 4, .int 5]) := rfl
  have t7 : tabFind k_SPOTS "tell" = some (.kt [.int 1, .int 2]) := rfl
  have t8 : tabFind k_SPOTS "stop" = some (.kt [.int 1]) := rfl
  cases e <;> simp [runF, m_parts, startD, Ex.toD, Ex.parts, c1, c2, c3, c4, c5, c6, c7, c8, c9, t1, t2, t3, t4, t5, t6, t7, t8, el_parts_0_eq, listD, elemsD, itemsD, lcGo, wipeD, Ex.toDs_eq]
end K06
namespace K06
open PySem L2 TP
set_option maxHeartbeats 4000000
theorem isspot_ok (k : Nat) (d : D) (n : Nat) (M : Store) (hp : plainT d = true) : sem (k + 1) f_is_spot [d, .int n] M = .ok (.val (.bl (match spotN d with | some i => decide (i < n) | none => false))) M := by
  rw [e_is_spot]
  cases d with
  | int i =>
    by_cases h0 : 0 ≤ i
    · by_cases h1 : i < n
      · have h2 : i.toNat < n := by omega
        simp [runF, m_is_spot, startD, isiD, clsD, subTy, spotN, h0, h1, h2]
      · have h2 : ¬ i.toNat < n := by omega
        simp [runF, m_is_spot, startD, isiD, clsD, subTy, spotN, h0, h1, h2]
    · simp [runF, m_is_spot, startD, isiD, clsD, subTy, spotN, h0]
  | fro xs => simp [plainT] at hp
  | ref j => simp [plainT] at hp
  | fn c => simp [plainT] at hp
  | bl b => simp [runF, m_is_spot, startD, isiD, clsD, subTy, spotN]
  | non => simp [runF, m_is_spot, startD, isiD, clsD, subTy, spotN]
  | str x => simp [runF, m_is_spot, startD, isiD, clsD, subTy, spotN]
  | tup x => simp [runF, m_is_spot, startD, isiD, clsD, subTy, spotN]
  | lst x => simp [runF, m_is_spot, startD, isiD, clsD, subTy, spotN]
  | kt x => simp [runF, m_is_spot, startD, isiD, clsD, subTy, spotN]
theorem partat_ok (k : Nat) (e : Ex) (r : List D) (M : Store) (hr : ∀ d ∈ r, plainT d = true) : sem (k + 2) f_part_at [e.toD, .tup r] M = .ok (.val (optD (subR e r))) M := by
  have key : ∀ (r : List D) (e : Ex) (a s2 s3 : Slot), (∀ d ∈ r, plainT d = true) → (∃ p s2' s3', subR e r = some p ∧ forGo (bName 2) (lp_part_at_0 (sem (k + 1))) r [.val e.toD, a, s2, s3] M = .next [.val p.toD, a, s2', s3'] M) ∨ (subR e r = none ∧ forGo (bName 2) (lp_part_at_0 (sem (k + 1))) r [.val e.toD, a, s2, s3] M = .ret (.val .non) M) := by
    intro r
    induction r with
    | nil => intro e a s2 s3 _; exact .inl ⟨e, s2, s3, rfl, rfl⟩
    | cons d r ih =>
      intro e a s2 s3 hr
      have h1 := isspot_ok k d e.parts.length M (hr d List.mem_cons_self)
      have h2 := parts_ok k e M
      have hl : (e.parts.map Ex.toD).length = e.parts.length := List.length_map ..
      cases hs : spotN d with
      | none =>
        right
        rw [hs] at h1
        refine ⟨by simp [subR, hs], ?_⟩
        unfold forGo
        generalize e.parts.map Ex.toD = PD at *
        simp [lp_part_at_0_eq, bName, h2, hl, h1]
      | some i =>
        rw [hs] at h1
        cases hp : e.parts[i]? with
        | none =>
          right
          have hlt : ¬ i < e.parts.length := fun h => by rw [List.getElem?_eq_getElem h] at hp; cases hp
          refine ⟨by simp [subR, hs, hp], ?_⟩
          unfold forGo
          generalize e.parts.map Ex.toD = PD at *
          simp [lp_part_at_0_eq, bName, h2, hl, h1, hlt]
        | some p =>
          have hlt : i < e.parts.length := (List.getElem?_eq_some_iff.mp hp).1
          have hd : d = .int (i : Nat) := spotN_int hs
          subst hd
          have hat : atI (e.parts.map Ex.toD) ((i : Nat) : Int) = some p.toD := atI_nat (by rw [List.getElem?_map, hp]; rfl)
          have hb : forGo (bName 2) (lp_part_at_0 (sem (k + 1))) (.int (i : Nat) :: r) [.val e.toD, a, s2, s3] M = forGo (bName 2) (lp_part_at_0 (sem (k + 1))) r [.val p.toD, a, .val (.int (i : Nat)), .val (.lst (e.parts.map Ex.toD))] M := by
            conv => lhs; unfold forGo
            generalize e.parts.map Ex.toD = PD at *
            generalize ((i : Nat) : Int) = iz at *
            simp [lp_part_at_0_eq, bName, h2, hl, h1, hlt, hat]
          have hb2 : subR e (.int (i : Nat) :: r) = subR p r := by simp [subR, hs, hp]
          rw [hb2, hb]
          exact ih p a _ _ fun x hx => hr x (List.mem_cons_of_mem _ hx)
  rw [e_part_at]
  rcases key r e (.val (.tup r)) .un .un hr with ⟨p, s2, s3, h1, h2⟩ | ⟨h1, h2⟩
  · rw [h1]
    simp [runF, m_part_at, startD, itemsD, h2, optD]
  · rw [h1]
    simp [runF, m_part_at, startD, itemsD, h2, optD]
theorem strs_of (ds : List D) (Φ : Nat → Fn) (s0 s1 s2 : Slot) (M : Store) (hd : ∀ d ∈ ds, plainT d = true) (hl : ds.length ≤ 1000) : lcGo (bName 3) dYes (el_at_way_0 Φ) [s0, s1, s2, .un] ds [] M = .ok (ds.map fun d => .bl (isStr d)) M := by
  have := lcGo_mp (b := bName 3) (f := el_at_way_0 Φ) (ρ0 := [s0, s1, s2, .un]) (M := M) (fun d : D => d) (fun d => .bl (isStr d)) ds (fun d hm => ⟨[s0, s1, s2, .val d], rfl, ?_⟩) (by omega)
  · rw [List.map_id'] at this
    exact this
  · have h := hd d hm
    cases d <;> first | (simp [plainT] at h; done) | simp [el_at_way_0_eq, isiD, clsD, subTy, isStr]
theorem atway_ok (k : Nat) (P : Pr) (w : D) (M : Store) (hl : (flat P).length ≤ 1000) (hw : wayT w = true) : sem (k + 4) f_at_way [pgD P, w] M = .ok (.val (optD (atW P w))) M := by
  rw [e_at_way]
  cases w with
  | fro xs => simp [wayT, plainT] at hw
  | ref j => simp [wayT, plainT] at hw
  | fn c => simp [wayT, plainT] at hw
  | non => simp [runF, m_at_way, startD, isiD, clsD, subTy, atW, optD]
  | bl b => simp [runF, m_at_way, startD, isiD, clsD, subTy, atW, optD]
  | int b => simp [runF, m_at_way, startD, isiD, clsD, subTy, atW, optD]
  | str b => simp [runF, m_at_way, startD, isiD, clsD, subTy, atW, optD]
  | lst b => simp [runF, m_at_way, startD, isiD, clsD, subTy, atW, optD]
  | kt b => simp [wayT] at hw
  | tup ds =>
    have hp : ∀ d ∈ ds, plainT d = true := by simpa [wayT] using hw
    match ds, hp with
    | [], _ => simp [runF, m_at_way, startD, isiD, clsD, subTy, atW, optD, lenD, elemsD]
    | [a], _ => simp [runF, m_at_way, startD, isiD, clsD, subTy, atW, optD, lenD, elemsD]
    | a :: b :: r, hp =>
      have ha := hp a List.mem_cons_self
      have hb := hp b (List.mem_cons_of_mem _ List.mem_cons_self)
      have hr : ∀ d ∈ r, plainT d = true := fun d hd => hp d (List.mem_cons_of_mem _ (List.mem_cons_of_mem _ hd))
      have hcut : ∀ N, slD N (.tup (a :: b :: r)) none (some 2) = some (.val (.tup [a, b])) := fun N => by
        show some (Slot.val (.tup (cutD (a :: b :: r) none (some 2)))) = _
        rw [cutD2]
      have hcut2 : ∀ N, slD N (.tup (a :: b :: r)) (some 2) none = some (.val (.tup r)) := fun N => by
        show some (Slot.val (.tup (cutD (a :: b :: r) (some 2) none))) = _
        rw [cutD2b]
      have hst := strs_of [a, b] (sem (k + 3)) (.val (pgD P)) (.val (.tup (a :: b :: r))) .un M (fun d hd => by
        rcases List.mem_cons.mp hd with rfl | hd
        · exact ha
        · rw [List.mem_singleton] at hd; subst hd; exact hb) (by show 2 ≤ 1000; decide)
      have hlen : ∀ N, lenD N [.tup (a :: b :: r)] = some (.val (.int ((r.length : Int) + 2))) := fun N => by simp [lenD, elemsD]; omega
      have hge : ¬ ((r.length : Int) + 2 < 2) := by omega
      have hall : ∀ N x y, allD N [.lst [.bl x, .bl y]] = some (.val (.bl (x && y))) := fun N x y => by simp [allD, seqOf, lstOf, blsOf]
      simp only [List.map_cons, List.map_nil] at hst
      by_cases hs : isStr a = true ∧ isStr b = true
      · obtain ⟨m, rfl⟩ := isStr_str hs.1
        obtain ⟨f, rfl⟩ := isStr_str hs.2
        have hf := function_ok (k + 1) P m f M hl
        have hat : atW P (.tup (.str m :: .str f :: r)) = (match (flat P).find? (isF m f) with | some x => subR x.2.b r | none => none) := rfl
        rw [hat]
        cases hfd : (flat P).find? (isF m f) with
        | none =>
          rw [hfd] at hf
          generalize pgD P = PG at *
          simp [runF, m_at_way, startD, isiD, clsD, subTy, hlen, hge, is_nn, is_tn, hcut, itemsD, wipeD, hst, hall, isStr, hf, optD]
        | some x =>
          rw [hfd] at hf
          have hpa := partat_ok (k + 1) x.2.b r M hr
          simp only [pbD] at hf
          generalize pgD P = PG at *
          generalize (D.tup (x.2.ps.map .str)) = PS at *
          generalize hX : x.2.b.toD = XD at *
          simp [runF, m_at_way, startD, isiD, clsD, subTy, hlen, hge, is_nn, is_tn, hcut, hcut2, itemsD, wipeD, hst, hall, isStr, hf, hpa]
      · have hn : (isStr a && isStr b) = false := by
          cases h1 : isStr a <;> cases h2 : isStr b <;> simp_all
        have hat : atW P (.tup (a :: b :: r)) = none := atW_not hn
        rw [hat]
        generalize pgD P = PG at *
        simp [runF, m_at_way, startD, isiD, clsD, subTy, hlen, hge, is_nn, is_tn, hcut, itemsD, wipeD, hst, hall, hn, optD]
end K06
namespace K06
open PySem L2 TP
set_option maxHeartbeats 4000000
theorem more_ok (k : Nat) (e : Ex) (w : List D) (j i : Nat) (kv : EVd) (M : Store) (hj : M[j]? = some (.dK kv)) (hl : kv.length ≤ 10000) : sem (k + 1) f_more_round [e.toD, .tup w, .ref j, .int i] M = .ok (.val (.ref M.length)) (M ++ [.dK (moreP e w kv i)]) := by
  have he := fun kv => at_end M (.dK kv)
  have hs := fun kv kv' => set_end M (.dK kv) (.dK kv')
  have hl2 : kv.length < 16777216 := by omega
  have hl3 : ∀ x v, (putD kv (.inr x) v).length < 16777216 := fun x v => by have := putD_len1 kv (.inr x) v; omega
  obtain ⟨iz, hiz⟩ : ∃ iz : Int, ((i : Nat) : Int) = iz := ⟨_, rfl⟩
  rw [e_more_round, hiz]
  cases e with
  | lt x a b =>
    by_cases h : iz = 1
    · have h' : i = 1 := by omega
      simp [-List.append_assoc, -List.cons_append, runF, m_more_round, startD, Ex.toD, copyD, hj, h, h', dPutM, he, hs, keyD, hl2, moreP]
    · have h' : ¬ i = 1 := by omega
      simp [-List.append_assoc, runF, m_more_round, startD, Ex.toD, copyD, hj, h, h', moreP]
  | times a x s b c =>
    by_cases h : iz = 2
    · have h' : i = 2 := by omega
      simp [-List.append_assoc, runF, m_more_round, startD, Ex.toD, copyD, hj, h, h', dPutM, he, hs, keyD, hl2, hl3, moreP]
    · have h' : ¬ i = 2 := by omega
      simp [-List.append_assoc, runF, m_more_round, startD, Ex.toD, copyD, hj, h, h', moreP]
  | _ => simp [-List.append_assoc, runF, m_more_round, startD, Ex.toD, copyD, hj, moreP]
theorem params_ok (k : Nat) (m f : Str) (ps : List Str) (hp : ps.length ≤ 1000) (M : Store) : sem (k + 1) f_params_round [.str m, .str f, .tup (ps.map .str)] M = .ok (.val (.ref M.length)) (M ++ [.dK (parKV m f ps)]) := by
  have key : ∀ (xs : List Str) (i : Nat) (acc : List D) (s0 : Slot), acc.length + xs.length ≤ 1000 → lcGo (bTup [3, 4]) dYes (el_params_round_0 (sem k)) [.val (.str m), .val (.str f), s0, .un, .un] (enumF i (xs.map .str)) acc M = .ok (acc ++ (parB m f i xs).map kvD) M := by
    intro xs
    induction xs with
    | nil => intro i acc s0 _; simp [enumF, lcGo, parB]
    | cons x xs ih =>
      intro i acc s0 hl
      rw [List.length_cons] at hl
      rw [List.map_cons, enumF, parB]
      unfold lcGo
      have hacc : acc.length < 16777216 := by omega
      have := ih (i + 1) (acc ++ [kvD (.inr x, .tup [.str "param", .str m, .str f, .int (i : Nat)])]) s0 (by rw [List.length_append, List.length_singleton]; omega)
      rw [kvD] at this
      generalize ((i : Nat) : Int) = iz at *
      simp only [bTup, bNames, List.set_cons_succ, List.set_cons_zero]
      simp [el_params_round_0_eq, hacc, this, kvD]
  have h := key ps 0 [] (.val (.tup (ps.map .str))) (by simpa using hp)
  have h2 : pairKD M (.lst ((parB m f 0 ps).map kvD)) = some (.dK (parKV m f ps)) := by
    simp [pairKD, lstOf, pairsK_kv, parKV]
  rw [List.nil_append] at h
  rw [e_params_round]
  generalize (parB m f 0 ps).map kvD = L at *
  simp [runF, m_params_round, startD, enumL_eq, wipeD, h, h2]
theorem usesin_ok : ∀ (n : Nat) (e : Ex) (w : List D) (j : Nat) (kv : EVd) (M : Store), e.dep ≤ n → e.cnt ≤ 100000 → n ≤ 300 → w.length + n ≤ 1000 → kv.length + 2 * n ≤ 10000 → M[j]? = some (.dK kv) →
    ∃ X, sem (n + 3) f_uses_in [e.toD, .tup w, .ref j] M = .ok (.own ((usesP e w kv).map pairD)) (M ++ X)
  | n, e, w, j, kv, M, hd, hc, hn, hw, hk, hj => by
    have key : ∀ (ps : List Ex) (i : Nat) (acc : List D) (N : Store) (s4 s5 : Slot), (∀ p ∈ ps, p ∈ e.parts) → N[j]? = some (.dK kv) → acc.length + (usesQ e w kv i ps).length ≤ 200000 →
        ∃ X s4' s5', forGo (bTup [4, 5]) (lp_uses_in_0 (sem (n + 2))) (enumF i (ps.map Ex.toD)) [.val e.toD, .val (.tup w), .val (.ref j), .own acc, s4, s5] N = .next [.val e.toD, .val (.tup w), .val (.ref j), .own (acc ++ (usesQ e w kv i ps).map pairD), s4', s5'] (N ++ X) := by
      intro ps
      induction ps with
      | nil => intro i acc N s4 s5 _ _ _; exact ⟨[], s4, s5, by simp [enumF, forGo, usesQ]⟩
      | cons p ps ih =>
        intro i acc N s4 s5 hps hN hl
        have hpe := hps p List.mem_cons_self
        have hpd := Ex.parts_dep hpe
        have hpc := Ex.parts_cnt hpe
        obtain ⟨m, rfl⟩ : ∃ m, n = m + 1 := ⟨n - 1, by omega⟩
        have hml := moreP_len e w kv i
        have hmo := more_ok (m + 2) e w j i kv N hN (by omega)
        obtain ⟨X1, h1⟩ := usesin_ok m p (w ++ [.int (i : Nat)]) N.length (moreP e w kv i) (N ++ [.dK (moreP e w kv i)]) (by omega) (by omega) (by omega) (by rw [List.length_append, List.length_singleton]; omega) (by omega) (at_end N _)
        have hul := usesP_len p (w ++ [.int (i : Nat)]) (moreP e w kv i)
        rw [usesQ, List.length_append] at hl
        obtain ⟨X2, t4, t5, h2⟩ := ih (i + 1) (acc ++ (usesP p (w ++ [.int (i : Nat)]) (moreP e w kv i)).map pairD) (N ++ [.dK (moreP e w kv i)] ++ X1) (.val (.int i)) (.val p.toD) (fun q hq => hps q (List.mem_cons_of_mem _ hq)) (get_app (get_app hN)) (by rw [List.length_append, List.length_map]; omega)
        refine ⟨[.dK (moreP e w kv i)] ++ X1 ++ X2, t4, t5, ?_⟩
        rw [List.map_cons, enumF]
        unfold forGo
        have hwl : w.length + 1 ≤ 16777216 := by omega
        have hz : acc.length + ((usesP p (w ++ [.int (i : Nat)]) (moreP e w kv i)).map pairD).length ≤ sizeLine := by rw [szL, List.length_map]; omega
        rw [usesQ, List.map_append, ← List.append_assoc acc]
        generalize hUU : (usesP p (w ++ [.int (i : Nat)]) (moreP e w kv i)).map pairD = UU at *
        generalize ((i : Nat) : Int) = iz at *
        rw [szL] at hz
        simp [-List.append_assoc, lp_uses_in_0_eq, bTup, bNames, addD, hwl, hmo, h1, lstOf, hz]
        rw [h2]
        simp [List.append_assoc]
    by_cases hu : ∃ x, e = .use x
    · obtain ⟨x, rfl⟩ := hu
      refine ⟨[], ?_⟩
      rw [e_uses_in]
      simp [runF, m_uses_in, startD, Ex.toD, usesP, pairD, dGet1, isDD, hj, dGetO, keyD, dVarB]
    · have hnu : ∀ x, e ≠ .use x := fun x h => hu ⟨x, h⟩
      have he := usesP_eq e w kv hnu
      have hl := usesP_len e w kv
      rw [he] at hl
      obtain ⟨X, t4, t5, h⟩ := key e.parts 0 [] M .un .un (fun _ h => h) hj (by simp; omega)
      refine ⟨X, ?_⟩
      rw [he]
      have hp := parts_ok (n + 1) e M
      rw [List.nil_append] at h
      rw [e_uses_in]
      generalize hPD : e.parts.map Ex.toD = PD at *
      generalize (usesQ e w kv 0 e.parts).map pairD = UQ at *
      have hw1 : ∃ wd, idxD M e.toD (.int 0) = some (.val (.str wd)) ∧ eqD M (.str wd) (.str "use") = some (.val (.bl false)) := by
        cases e <;> first | exact absurd rfl (hnu _) | exact ⟨_, by rw [Ex.toD]; rfl, by simp⟩
      obtain ⟨wd, q1, q2⟩ := hw1
      simp [runF, m_uses_in, startD, q1, q2, hp, enumL_eq, h]
theorem alluses_ok (n : Nat) (hn : n ≤ 300) (P : Pr) (m f : Str) (x : Str × Row) (M : Store) (hl : (flat P).length ≤ 1000) (hf : findF P m f = some x) (hd : x.2.b.dep ≤ n) (hc : x.2.b.cnt ≤ 100000) (hp : x.2.ps.length ≤ 100) :
    ∃ X, sem (n + 4) f_all_uses [pgD P, .str m, .str f] M = .ok (.own ((usesP x.2.b [.str m, .str f] (parKV m f x.2.ps)).map pairD)) (M ++ X) := by
  have h0 := function_ok (n + 1) P m f M hl
  have hf' : (flat P).find? (isF m f) = some x := hf
  rw [hf'] at h0
  simp only [pbD] at h0
  have h1 := params_ok (n + 2) m f x.2.ps (by omega) M
  have hkl : (parKV m f x.2.ps).length ≤ 100 := by
    have := mergeP_len (parB m f 0 x.2.ps) []
    rw [parB_len] at this
    unfold parKV
    simp at this
    omega
  obtain ⟨X, h2⟩ := usesin_ok n x.2.b [.str m, .str f] M.length (parKV m f x.2.ps) (M ++ [.dK (parKV m f x.2.ps)]) hd hc hn (by simp; omega) (by omega) (at_end M _)
  refine ⟨[.dK (parKV m f x.2.ps)] ++ X, ?_⟩
  rw [← List.append_assoc, e_all_uses]
  generalize pgD P = PG at *
  generalize (usesP x.2.b [.str m, .str f] (parKV m f x.2.ps)).map pairD = UU at *
  generalize D.tup (x.2.ps.map .str) = PS at *
  generalize x.2.b.toD = XD at *
  simp [-List.append_assoc, runF, m_all_uses, startD, h0, bTup, bNames, h1, h2]
end K06
namespace K06
open PySem L2 TP
set_option maxHeartbeats 4000000
theorem isfF (P : Pr) (m f : Str) : (flat P).find? (isF m f) = findF P m f := rfl
theorem homeof_ok (k : Nat) (P : Pr) (d : D) (M : Store) (hl : (flat P).length ≤ 1000) (hp : ∀ x ∈ flat P, x.2.ps.length ≤ 1000) (T : BindT d) : ∃ X, sem (k + 5) f_home_of [pgD P, d] M = .ok (.val (homeD (homeP P d))) (M ++ X) := by
  have hpl := T.pl
  rw [e_home_of]
  cases d with
  | fro xs => simp [plainT] at hpl
  | ref j => simp [plainT] at hpl
  | fn c => simp [plainT] at hpl
  | non => exact ⟨[], by simp [runF, m_home_of, startD, isiD, clsD, subTy, homeP, homeD]⟩
  | bl b => exact ⟨[], by simp [runF, m_home_of, startD, isiD, clsD, subTy, homeP, homeD]⟩
  | int b => exact ⟨[], by simp [runF, m_home_of, startD, isiD, clsD, subTy, homeP, homeD]⟩
  | str b => exact ⟨[], by simp [runF, m_home_of, startD, isiD, clsD, subTy, homeP, homeD]⟩
  | lst b => exact ⟨[], by simp [runF, m_home_of, startD, isiD, clsD, subTy, homeP, homeD]⟩
  | kt b => exact absurd rfl (T.nk b)
  | tup ds =>
    match ds with
    | [] => exact ⟨[], by simp [runF, m_home_of, startD, isiD, clsD, subTy, homeP, homeD, lenD, elemsD]⟩
    | [h] =>
      have e1 : homeP P (.tup [h]) = none := by unfold homeP; split <;> simp_all
      rw [e1]
      exact ⟨[], by simp [runF, m_home_of, startD, isiD, clsD, subTy, homeD, lenD, elemsD]⟩
    | h :: a :: r =>
      obtain ⟨hin, hw⟩ := T.tup h (a :: r) rfl
      have hwa := hw a List.mem_cons_self
      have hlen : ∀ N, lenD N [.tup (h :: a :: r)] = some (.val (.int ((r.length : Int) + 2))) := fun N => by simp [lenD, elemsD]; omega
      have hge : ¬ ((r.length : Int) + 2 < 2) := by omega
      cases hb : headB h with
      | false =>
        have e1 : homeP P (.tup (h :: a :: r)) = none := by
          unfold homeP
          split
          · rename_i s a' r' e
            simp only [D.tup.injEq, List.cons.injEq] at e
            obtain ⟨rfl, rfl, rfl⟩ := e
            have : ¬ s = "param" := fun z => by rw [z] at hb; simp [headB] at hb
            rw [if_neg this, if_neg (by rw [hb]; simp)]
          · rfl
        rw [e1]
        rw [hb] at hin
        generalize pgD P = PG
        exact ⟨[], by simp [runF, m_home_of, startD, isiD, clsD, subTy, homeD, hlen, hge, hin]⟩
      | true =>
        rw [hb] at hin
        obtain ⟨s, rfl⟩ : ∃ s, h = .str s := by cases h <;> first | (simp [headB] at hb; done) | exact ⟨_, rfl⟩
        by_cases hs : s = "param"
        · subst hs
          have heq : ∀ N, eqD N (.str "param") (.str "param") = some (.val (.bl true)) := fun N => eqW (by decide +kernel) N
          by_cases h4 : ∃ b c, r = [b, c]
          · obtain ⟨b, c, rfl⟩ := h4
            have hwb := wayT_plain (hw b (by simp))
            have hwc := wayT_plain (hw c (by simp))
            have hwa' := wayT_plain hwa
            have ia : ∀ N, isiD "str" N a = some (.val (.bl (isStr a))) := fun N => by cases a <;> first | (simp [plainT] at hwa'; done) | simp [isiD, clsD, subTy, isStr]
            have ib : ∀ N, isiD "str" N b = some (.val (.bl (isStr b))) := fun N => by cases b <;> first | (simp [plainT] at hwb; done) | simp [isiD, clsD, subTy, isStr]
            have hlen2 : ∀ N, lenD N [.tup [.str "param", a, b, c]] = some (.val (.int 4)) := fun N => rfl
            by_cases hss : isStr a = true ∧ isStr b = true
            · obtain ⟨m, rfl⟩ := isStr_str hss.1
              obtain ⟨f, rfl⟩ := isStr_str hss.2
              have h0 := function_ok (k + 2) P m f M hl
              rw [isfF] at h0
              have e1 : homeP P (.tup [.str "param", .str m, .str f, c]) = homeA P m f c := by simp only [homeP, if_true]
              rw [e1]
              have hsl : ∀ N, slD N (.tup [.str "param", .str m, .str f, c]) (some 1) (some 3) = some (.val (.tup [.str m, .str f])) := fun N => rfl
              refine ⟨[], ?_⟩
              cases hf : findF P m f with
              | none =>
                rw [hf] at h0
                generalize pgD P = PG at *
                simp [runF, m_home_of, startD, isiD, clsD, subTy, homeA, hf, homeD, hlen2, hin, heq, h0, isnt_nn]
              | some x =>
                rw [hf] at h0
                simp only [pbD] at h0
                have hx : x ∈ flat P := List.mem_of_find?_eq_some hf
                have h1 := isspot_ok (k + 3) c x.2.ps.length M hwc
                have hll : ∀ N, lenD N [.tup (x.2.ps.map .str)] = some (.val (.int (x.2.ps.length : Nat))) := fun N => by simp [lenD, elemsD]
                generalize D.tup (x.2.ps.map .str) = PS at *
                generalize pgD P = PG at *
                generalize x.2.b.toD = XD at *
                cases hc : spotN c with
                | none =>
                  rw [hc] at h1
                  simp [runF, m_home_of, startD, isiD, clsD, subTy, homeA, hf, homeD, hlen2, hin, heq, h0, isnt_tn, hll, hc, h1]
                | some i =>
                  rw [hc] at h1
                  by_cases hi : i < x.2.ps.length
                  · simp [runF, m_home_of, startD, isiD, clsD, subTy, homeA, hf, homeD, hlen2, hin, heq, h0, isnt_tn, hll, hc, h1, hi, hsl]
                  · simp [runF, m_home_of, startD, isiD, clsD, subTy, homeA, hf, homeD, hlen2, hin, heq, h0, isnt_tn, hll, hc, h1, hi]
            · have e1 : homeP P (.tup [.str "param", a, b, c]) = none := by
                cases a <;> cases b <;> first | (simp [isStr] at hss; done) | simp [homeP]
              rw [e1]
              refine ⟨[], ?_⟩
              generalize pgD P = PG
              cases hsa : isStr a with
              | false =>
                rw [hsa] at ia
                simp [runF, m_home_of, startD, isi_tup, ia, homeD, hlen2, hin, heq]
              | true =>
                have hsb : isStr b = false := by cases hx : isStr b with | false => rfl | true => exact absurd ⟨hsa, hx⟩ hss
                rw [hsa] at ia
                rw [hsb] at ib
                simp [runF, m_home_of, startD, isi_tup, ia, ib, homeD, hlen2, hin, heq]
          · have e1 : homeP P (.tup (.str "param" :: a :: r)) = none := by
              unfold homeP
              simp only [if_true]
              split
              · rename_i m f k' e2 e3
                exact absurd ⟨_, _, rfl⟩ h4
              · rfl
            have hne : ¬ ((r.length : Int) + 2 = 4) := fun h => by
              match r, h, h4 with
              | [b, c], _, h4 => exact h4 ⟨b, c, rfl⟩
              | [], h, _ => simp at h
              | [b], h, _ => simp at h
              | b :: c :: d :: r, h, _ => simp at h; omega
            rw [e1]
            generalize pgD P = PG
            exact ⟨[], by simp [runF, m_home_of, startD, isi_tup, homeD, hlen, hge, hin, heq, hne]⟩
        · have heq : ∀ N, eqD N (.str s) (.str "param") = some (.val (.bl false)) := fun N => by rw [eqS]; simp [hs]
          by_cases hr : r = []
          · subst hr
            have h0 := atway_ok k P a M hl hwa
            have hlen2 : ∀ N, lenD N [.tup [.str s, a]] = some (.val (.int 2)) := fun N => rfl
            have e1 : homeP P (.tup [.str s, a]) = homeB P s a := by
              simp only [homeP, if_neg hs, hb, true_and, if_true]
            rw [e1]
            cases ha : atW P a with
            | none =>
              rw [ha] at h0
              rw [homeB_none ha]
              generalize pgD P = PG at *
              exact ⟨[], by simp [runF, m_home_of, startD, isi_tup, homeD, hlen2, hin, heq, h0, optD, is_nn]⟩
            | some e =>
              rw [ha] at h0
              obtain ⟨m, f, r', rfl⟩ : ∃ m f r', a = .tup (.str m :: .str f :: r') := by
                unfold atW at ha
                split at ha
                · exact ⟨_, _, _, rfl⟩
                · cases ha
              rw [homeB_some ha]
              simp only [optD] at h0
              refine ⟨[.dK (mergeD ["let", "count", "sum"] [.str "let", .str "times", .str "times"])], ?_⟩
              have hsl : ∀ N, slD N (.tup (.str m :: .str f :: r')) none (some 2) = some (.val (.tup [.str m, .str f])) := fun N => by
                show some (Slot.val (.tup (cutD (.str m :: .str f :: r') none (some 2)))) = _
                rw [cutD2]
              have hisn : ∀ N, isD N e.toD .non = some (.val (.bl false)) := fun N => by cases e <;> rfl
              have hdg : ∀ N : Store, dgetD (N ++ [.dK (mergeD ["let", "count", "sum"] [.str "let", .str "times", .str "times"])]) (.ref N.length) (.str s) = some (.val (.str (if s = "let" then ("let" : Str) else ("times" : Str)))) := fun N => by
                have : s = "let" ∨ s = "count" ∨ s = "sum" := by simpa [headB, hs] using hb
                rcases this with rfl | rfl | rfl <;> (simp only [dgetD, dGetO, at_end, keyD]; rfl)
              generalize hDD : mergeD ["let", "count", "sum"] [.str "let", .str "times", .str "times"] = DD at *
              have hwd : ∃ wd, idxD (M ++ [.dK DD]) e.toD (.int 0) = some (.val (.str wd)) ∧ idxD M e.toD (.int 0) = some (.val (.str wd)) ∧ (decide (wd = (if s = "let" then ("let" : Str) else ("times" : Str)))) = isWord e s := by
                have hsv : s = "let" ∨ s = "count" ∨ s = "sum" := by simpa [headB, hs] using hb
                cases e <;> refine ⟨_, by rw [Ex.toD]; rfl, by rw [Ex.toD]; rfl, ?_⟩ <;> rcases hsv with rfl | rfl | rfl <;> (first | rfl | decide +kernel)
              obtain ⟨wd, hwd1, hwd2, hwd3⟩ := hwd
              have hne : ∀ N, neD N (.str wd) (.str (if s = "let" then ("let" : Str) else ("times" : Str))) = some (.val (.bl (!isWord e s))) := fun N => by rw [neS, hwd3]
              have hvals : dVals [dC (.str "let"), dC (.str "times"), dC (.str "times")] = dVals [dC (.str "let"), dC (.str "times"), dC (.str "times")] := rfl
              generalize pgD P = PG at *
              generalize e.toD = XD at *
              cases hwx : isWord e s with
              | true =>
                rw [hwx] at hne
                simp [-List.append_assoc, runF, m_home_of, startD, isi_tup, homeD, hlen2, hin, heq, h0, hisn, dVals, hDD, hdg, hwd1, hwd2, hne, hsl]
              | false =>
                rw [hwx] at hne
                simp [-List.append_assoc, runF, m_home_of, startD, isi_tup, homeD, hlen2, hin, heq, h0, hisn, dVals, hDD, hdg, hwd1, hwd2, hne, hsl]
          · have e1 : homeP P (.tup (.str s :: a :: r)) = none := by
              simp [homeP, if_neg hs, hr]
            have hne : ¬ ((r.length : Int) + 2 = 2) := fun h => hr (List.eq_nil_of_length_eq_zero (by omega))
            rw [e1]
            have hne2 : ¬ ((r.length : Int) = 0) := by omega
            generalize pgD P = PG
            exact ⟨[], by simp [runF, m_home_of, startD, isi_tup, homeD, hlen, hge, hin, heq, hne, hne2, hr, is_nn]⟩
end K06
namespace K06
open PySem L2 TP
set_option maxHeartbeats 4000000
theorem usesof_ok (n : Nat) (hn : n ≤ 299) (P : Pr) (d : D) (M : Store) (hl : (flat P).length ≤ 1000) (hp : ∀ x ∈ flat P, x.2.ps.length ≤ 100 ∧ x.2.b.dep ≤ n ∧ x.2.b.cnt ≤ 100000 ∧ okStr x.1 = true ∧ okStr x.2.f = true) (T : BindT d) (hg : goodD d = true) :
    ∃ X, sem (n + 6) f_uses_of [pgD P, d] M = .ok (slotO (usesOfP P d)) (M ++ X) := by
  obtain ⟨X1, h1⟩ := homeof_ok n P d M hl (fun x hx => by have := (hp x hx).1; omega) T
  rw [e_uses_of]
  cases hh : homeP P d with
  | none =>
    rw [hh] at h1
    rw [usesOfP_none hh]
    refine ⟨X1, ?_⟩
    generalize pgD P = PG at *
    simp [runF, m_uses_of, startD, h1, homeD, is_nn, slotO]
  | some mf =>
    obtain ⟨m, f⟩ := mf
    rw [hh] at h1
    obtain ⟨x, hx⟩ := homeP_find hh
    have hxm := findF_mem hx
    obtain ⟨p1, p2, p3, p4, p5⟩ := hp x hxm.1
    obtain ⟨X2, h2⟩ := alluses_ok (n + 1) (by omega) P m f x (M ++ X1) hl hx (by omega) p3 (by omega)
    refine ⟨X1 ++ X2, ?_⟩
    have hgood := usesP_good x.2.b [.str m, .str f] (parKV m f x.2.ps) ⟨by
      show (okStr m && (okStr f && true)) = true
      rw [← hxm.2.1, ← hxm.2.2, p4, p5]; rfl, rfl⟩ (parKV_good (by rw [← hxm.2.1]; exact p4) (by rw [← hxm.2.2]; exact p5) x.2.ps)
    have hul := usesP_len x.2.b [.str m, .str f] (parKV m f x.2.ps)
    have hlc : ∀ N, lcGo (bTup [3, 4]) (cd_uses_of_0 (sem (n + 5))) (el_uses_of_0 (sem (n + 5))) [.val (pgD P), .val d, .val (.tup [.str m, .str f]), .un, .un] ((usesP x.2.b [.str m, .str f] (parKV m f x.2.ps)).map pairD) [] N = .ok (((usesP x.2.b [.str m, .str f] (parKV m f x.2.ps)).filter fun q => eqvD q.2 d).map fun q => q.1) N := fun N => by
      have := lcGo_fmap (b := bTup [3, 4]) (c := cd_uses_of_0 (sem (n + 5))) (f := el_uses_of_0 (sem (n + 5))) (ρ0 := [.val (pgD P), .val d, .val (.tup [.str m, .str f]), .un, .un]) (M := N) pairD (fun q => eqvD q.2 d) (fun q => q.1) (usesP x.2.b [.str m, .str f] (parKV m f x.2.ps)) [] (fun q hq => ⟨[.val (pgD P), .val d, .val (.tup [.str m, .str f]), .val q.1, .val q.2], rfl, ?_, fun _ => by simp [el_uses_of_0_eq]⟩) (by simp; omega)
      · rw [List.nil_append] at this; exact this
      · obtain ⟨g1, g2⟩ := hgood q hq
        have he := eqD_of N g1 hg (by omega)
        simp [cd_uses_of_0_eq, he]
    rw [usesOfP_some hh hx]
    simp only [homeD] at h1
    generalize (usesP x.2.b [.str m, .str f] (parKV m f x.2.ps)).map pairD = UU at *
    generalize ((usesP x.2.b [.str m, .str f] (parKV m f x.2.ps)).filter fun q => eqvD q.2 d).map (fun q => q.1) = VV at *
    generalize pgD P = PG at *
    rw [← List.append_assoc]
    simp [-List.append_assoc, runF, m_uses_of, startD, h1, is_tn, h2, itemsD, wipeD, hlc, slotO]
end K06
namespace TP
open PySem L2
namespace Ex
section
variable {p : Str → Prop} {q : Int → Prop}
end
theorem sub_cons {e : Ex} {i : Nat} {r : List Nat} : sub e (i :: r) = match e.parts[i]? with | some p => sub p r | none => none := by first | (rw [sub]; done) | (rw [sub]; cases e.parts[i]? <;> rfl)
end Ex
end TP
namespace TP
open PySem L2
namespace Ex
end Ex
end TP
namespace TP
open PySem L2
def toks : List D := pools.flatten.map D.str ++ (List.range 10).map fun (i : Nat) => D.int (i : Nat)
end TP
namespace TP
open PySem L2
def KeysNd (P : Pr) : Prop := ((flat P).map fun x => (x.1, x.2.f)).Nodup
theorem find_of : ∀ {xs : List (Str × Row)} {x : Str × Row}, (xs.map fun x => (x.1, x.2.f)).Nodup → x ∈ xs → xs.find? (fun y => decide (y.1 = x.1) && decide (y.2.f = x.2.f)) = some x
  | y :: xs, x, hn, hx => by
    rw [List.map_cons, List.nodup_cons] at hn
    rw [List.find?_cons]
    by_cases h : (decide (y.1 = x.1) && decide (y.2.f = x.2.f)) = true
    · rw [h]
      simp only [Bool.and_eq_true, decide_eq_true_eq] at h
      rcases List.mem_cons.mp hx with rfl | hx
      · rfl
      · exact absurd (List.mem_map.mpr ⟨x, hx, by rw [← h.1, ← h.2]⟩) hn.1
    · rw [Bool.eq_false_iff.mpr h]
      rcases List.mem_cons.mp hx with rfl | hx
      · simp at h
      · exact find_of hn.2 hx
theorem of_flat : ∀ {P : Pr} {x : Str × Row}, x ∈ flat P → ∃ q ∈ P, q.1 = x.1 ∧ x.2 ∈ q.2
  | (m, rs) :: P, x, h => by
    rw [flat] at h
    rcases List.mem_append.mp h with h | h
    · obtain ⟨r, hr, rfl⟩ := List.mem_map.mp h
      exact ⟨(m, rs), List.mem_cons_self, rfl, hr⟩
    · obtain ⟨q, hq, h1, h2⟩ := of_flat h
      exact ⟨q, List.mem_cons_of_mem _ hq, h1, h2⟩
theorem keys_nd : ∀ {P : Pr}, (P.map (·.1)).Nodup → (∀ q ∈ P, (q.2.map Row.f).Nodup) → KeysNd P
  | [], _, _ => by unfold KeysNd; rw [flat]; exact List.nodup_nil
  | (m, rs) :: P, h1, h2 => by
    rw [List.map_cons, List.nodup_cons] at h1
    have ih := keys_nd (P := P) h1.2 fun q hq => h2 q (List.mem_cons_of_mem _ hq)
    unfold KeysNd at ih ⊢
    rw [flat, List.map_append, List.map_map]
    refine List.nodup_append.mpr ⟨?_, ih, fun a ha b hb e => ?_⟩
    · have h3 := h2 (m, rs) List.mem_cons_self
      have : rs.map ((fun x : Str × Row => (x.1, x.2.f)) ∘ fun r => (m, r)) = (rs.map Row.f).map fun f => (m, f) := by rw [List.map_map]; rfl
      rw [this]
      exact List.pairwise_map.mpr (List.Pairwise.imp (fun {a b} hne e => hne (Prod.mk.inj e).2) h3)
    · subst e
      obtain ⟨r, _, rfl⟩ := List.mem_map.mp ha
      obtain ⟨x, hx, e⟩ := List.mem_map.mp hb
      obtain ⟨q, hq, e1, _⟩ := of_flat hx
      have : x.1 = m := (Prod.mk.inj e).1
      exact h1.1 (List.mem_map.mpr ⟨q, hq, by rw [e1]; exact this⟩)
theorem wf_part {nm : Str → Prop} {ah : Str → Str → Nat → Prop} {e p : Ex} {sc : List Str} (h : Ex.Wf nm ah sc e) (hp : p ∈ e.parts) : ∃ sc', Ex.Wf nm ah sc' p := by
  cases e <;> simp only [Ex.parts, List.mem_cons, List.not_mem_nil, or_false] at hp <;> rw [Ex.Wf] at h
  case op => rcases hp with rfl | rfl; exact ⟨_, h.2.1⟩; exact ⟨_, h.2.2⟩
  case lt => rcases hp with rfl | rfl; exact ⟨_, h.2.1⟩; exact ⟨_, h.2.2⟩
  case ite => rcases hp with rfl | rfl | rfl; exact ⟨_, h.1⟩; exact ⟨_, h.2.1⟩; exact ⟨_, h.2.2⟩
  case times => rcases hp with rfl | rfl | rfl; exact ⟨_, h.2.2.2.1⟩; exact ⟨_, h.2.2.2.2.1⟩; exact ⟨_, h.2.2.2.2.2⟩
  case tell => rcases hp with rfl | rfl; exact ⟨_, h.1⟩; exact ⟨_, h.2⟩
  case stop => subst hp; exact ⟨_, h⟩
  case call => exact ⟨_, Ex.Wfs_mem h.2 hp⟩
theorem findF_of {P : Pr} {x : Str × Row} (hn : KeysNd P) (hx : x ∈ flat P) : findF P x.1 x.2.f = some x := find_of hn hx
theorem PrWf.nd {n : Int} {most : Nat} {P : Pr} (h : PrWf n most P) : KeysNd P := keys_nd h.mods fun q hq => (h.names q hq).1
namespace Ex
theorem rowsL_at : ∀ {es : List Ex} {k i : Nat} {p : Ex} {r : List Nat}, es[i]? = some p → r ∈ rows p → (k + i) :: r ∈ rowsL k es
  | e :: es, k, 0, p, r, h, hr => by
    simp only [List.getElem?_cons_zero, Option.some.injEq] at h
    subst h
    rw [rowsL]
    exact List.mem_append_left _ (List.mem_map.mpr ⟨r, hr, rfl⟩)
  | e :: es, k, i + 1, p, r, h, hr => by
    rw [List.getElem?_cons_succ] at h
    have := rowsL_at (k := k + 1) h hr
    rw [rowsL]
    refine List.mem_append_right _ ?_
    rw [show k + (i + 1) = k + 1 + i by omega]
    exact this
theorem sub_rows : ∀ {r : List Nat} {e p : Ex}, sub e r = some p → r ∈ rows e
  | [], e, p, _ => by rw [rows_eq]; exact List.mem_cons_self
  | i :: r, e, p, h => by
    rw [sub] at h
    split at h
    · rename_i q hq
      have := sub_rows h
      have h2 := rowsL_at (k := 0) hq this
      rw [Nat.zero_add] at h2
      rw [rows_eq]
      exact List.mem_cons_of_mem _ h2
    · cases h
theorem rows_small {nm : Str → Prop} {ah : Str → Str → Nat → Prop} (ha : ∀ m f k, ah m f k → k ≤ 9) : ∀ (n : Nat) {e : Ex} {sc : List Str}, e.dep ≤ n → Wf nm ah sc e → ∀ r ∈ rows e, ∀ i ∈ r, i < 10
  | n, e, sc, hn, hw, r, hr, i, hi => by
    rw [rows_eq] at hr
    rcases List.mem_cons.mp hr with rfl | hr
    · cases hi
    · obtain ⟨j, p, r', rfl, h1, h2⟩ := rowsL_sub hr
      have hd := parts_dep (List.mem_of_getElem? h1)
      obtain ⟨m, rfl⟩ : ∃ m, n = m + 1 := ⟨n - 1, by omega⟩
      obtain ⟨sc', w'⟩ := wf_part hw (List.mem_of_getElem? h1)
      rcases List.mem_cons.mp hi with rfl | hi
      · have hj := (List.getElem?_eq_some_iff.mp h1).1
        have hl : e.parts.length ≤ 9 := by
          cases e with
          | call m f as => rw [Wf] at hw; exact ha _ _ _ hw.1
          | _ => simp [parts]
        omega
      · exact rows_small ha m (by omega) w' r' h2 i hi
end Ex
end TP
namespace TP
open PySem L2
def wayD (m f : Str) (r : List Nat) : D := .tup (.str m :: .str f :: r.map fun i => .int (i : Nat))
theorem atW_way {P : Pr} (hn : KeysNd P) {x : Str × Row} (hx : x ∈ flat P) (r : List Nat) : atW P (wayD x.1 x.2.f r) = Ex.sub x.2.b r := by
  show (match findF P x.1 x.2.f with | some x => subR x.2.b (r.map fun i => .int (i : Nat)) | none => none) = _
  rw [findF_of hn hx]
  exact subR_row r x.2.b
end TP
namespace TP
open PySem L2
inductive Bnd where
  | par (m f : Str) (k : Nat)
  | lt (m f : Str) (r : List Nat)
  | cnt (m f : Str) (r : List Nat)
  | sm (m f : Str) (r : List Nat)
  | new
  deriving DecidableEq
def wayK (m f : Str) (r : List Nat) : NestedKey := .tup (.text m :: .text f :: r.map fun i => .num (i : Nat))
theorem nkL_ints : ∀ r : List Nat, nkL (r.map fun i => .int (i : Nat)) = some (r.map fun i => .num (i : Nat))
  | [] => by rw [List.map_nil, List.map_nil, nkL]
  | i :: r => by rw [List.map_cons, List.map_cons, nkL, nkD, nkL_ints r]; rfl
theorem nkD_way (m f : Str) (r : List Nat) : nkD (wayD m f r) = some (wayK m f r) := by
  rw [wayD, nkD, nkL, nkD, nkL, nkD, nkL_ints]; rfl
theorem ints_depth : ∀ r : List Nat, NestedKey.depthAll (r.map fun i => .num (i : Nat)) = 0
  | [] => by rw [List.map_nil, NestedKey.depthAll]
  | i :: r => by rw [List.map_cons, NestedKey.depthAll, NestedKey.depth, ints_depth r]; rfl
theorem wayK_depth (m f : Str) (r : List Nat) : (wayK m f r).depth = 1 := by
  rw [wayK, NestedKey.depth, NestedKey.depthAll, NestedKey.depth, NestedKey.depthAll, NestedKey.depth, ints_depth]; rfl
theorem ints_inj : ∀ {r q : List Nat}, (r.map fun i => NestedKey.num (i : Nat)) = (q.map fun i => .num (i : Nat)) → r = q
  | [], [], _ => rfl
  | [], _ :: _, h => by simp at h
  | _ :: _, [], h => by simp at h
  | i :: r, j :: q, h => by
    rw [List.map_cons, List.map_cons] at h
    obtain ⟨h1, h2⟩ := List.cons.inj h
    have h3 : ((i : Nat) : Int) = (j : Nat) := NestedKey.num.inj h1
    rw [ints_inj h2]
    congr 1
    omega
theorem wayK_inj {m f m' f' : Str} {r r' : List Nat} (h : wayK m f r = wayK m' f' r') : m = m' ∧ f = f' ∧ r = r' := by
  unfold wayK at h
  have h1 := NestedKey.tup.inj h
  obtain ⟨a, b⟩ := List.cons.inj h1
  obtain ⟨c, d⟩ := List.cons.inj b
  exact ⟨NestedKey.text.inj a, NestedKey.text.inj c, ints_inj d⟩
theorem eqvL_ints : ∀ r q : List Nat, eqvL (r.map fun i => .int (i : Nat)) (q.map fun i => .int (i : Nat)) = decide (r = q)
  | [], [] => by rw [List.map_nil, eqvL]; rfl
  | [], j :: q => by rw [List.map_nil, List.map_cons]; simp [eqvL]
  | i :: r, [] => by rw [List.map_nil, List.map_cons]; simp [eqvL]
  | i :: r, j :: q => by
    rw [List.map_cons, List.map_cons, eqvL, eqvL_ints r q, eqvD_int]
    by_cases h1 : i = j
    · subst h1
      simp
    · have h2 : ¬ ((i : Nat) : Int) = (j : Nat) := by omega
      rw [decide_eq_false h2, Bool.false_and, decide_eq_false (fun z => h1 (List.cons.inj z).1)]
theorem way_eqv (m f : Str) (r : List Nat) (m' f' : Str) (r' : List Nat) : eqvD (wayD m f r) (wayD m' f' r') = decide (m = m' ∧ f = f' ∧ r = r') := by
  rw [wayD, wayD, eqvD, eqvL, eqvL, eqvD_str, eqvD_str, eqvL_ints, Bool.decide_and, Bool.decide_and]
theorem goodW_ints : ∀ r : List Nat, goodL (r.map fun i => .int (i : Nat)) = true ∧ dpL (r.map fun i => .int (i : Nat)) = 0
  | [] => ⟨by rw [List.map_nil, goodL], by rw [List.map_nil, dpL]⟩
  | i :: r => by
    obtain ⟨h1, h2⟩ := goodW_ints r
    rw [List.map_cons, goodL, dpL, h1, h2]
    exact ⟨rfl, rfl⟩
theorem way_good {m f : Str} (hm : okStr m = true) (hf : okStr f = true) (r : List Nat) : goodD (wayD m f r) = true ∧ dpD (wayD m f r) = 1 := by
  obtain ⟨h1, h2⟩ := goodW_ints r
  have e1 : goodD (.str m) = true := hm
  have e2 : goodD (.str f) = true := hf
  have d1 : ∀ x : Str, dpD (.str x) = 0 := fun x => rfl
  unfold wayD
  rw [goodD, dpD, goodL, goodL, dpL, dpL, e1, e2, h1, h2, d1, d1]
  exact ⟨rfl, rfl⟩
theorem way_snoc0 (M : Store) (m f : Str) (r : List Nat) (k : Nat) (h : r.length ≤ 1000) : addD M (wayD m f r) (.tup [.int (k : Nat)]) = some (.val (wayD m f (r ++ [k]))) := by
  have e : wayD m f (r ++ [k]) = .tup ((D.str m :: D.str f :: r.map fun i => .int (i : Nat)) ++ [.int (k : Nat)]) := by
    unfold wayD
    rw [List.map_append]
    rfl
  rw [e]
  show (if (D.str m :: D.str f :: r.map fun i => D.int (i : Nat)).length + [D.int (k : Nat)].length ≤ sizeLine then some (Slot.val (.tup ((D.str m :: D.str f :: r.map fun i => D.int (i : Nat)) ++ [D.int (k : Nat)]))) else none) = _
  rw [if_pos (by rw [szL]; simp only [List.length_cons, List.length_map, List.length_nil]; omega)]
class BRep where
  bl : Str → Str → List Nat → List D
  bk : Str → Str → List Nat → NestedKey
  sp : Str → Str → Prop
  bkey : ∀ m f r, nkD (.tup (bl m f r)) = some (bk m f r)
  bdep : ∀ m f r, (bk m f r).depth = 1
  binj : ∀ {m f m' f' : Str} {r r' : List Nat}, bk m f r = bk m' f' r' → m = m' ∧ f = f' ∧ r = r'
  bnn : ∀ m f r, bk m f r ≠ .none
  beqv : ∀ m f r m' f' r', eqvD (.tup (bl m f r)) (.tup (bl m' f' r')) = decide (m = m' ∧ f = f' ∧ r = r')
  bgood : ∀ m f r, okStr m = true → okStr f = true → goodD (.tup (bl m f r)) = true ∧ dpD (.tup (bl m f r)) = 1
  bsnoc : ∀ (M : Store) m f r (k : Nat), r.length ≤ 1000 → addD M (.tup (bl m f r)) (.tup [.int k]) = some (.val (.tup (bl m f (r ++ [k]))))
  bown : ∀ m f r, ¬ sp m f → D.tup (bl m f r) = wayD m f r
def BRep.bw [BRep] (m f : Str) (r : List Nat) : D := .tup (BRep.bl m f r)
theorem BRep.kw [BRep] (m f : Str) (r : List Nat) : nkD (BRep.bw m f r) = some (BRep.bk m f r) := BRep.bkey m f r
theorem BRep.ew [BRep] (m f : Str) (r : List Nat) (m' f' : Str) (r' : List Nat) : eqvD (BRep.bw m f r) (BRep.bw m' f' r') = decide (m = m' ∧ f = f' ∧ r = r') := BRep.beqv m f r m' f' r'
theorem BRep.gw [BRep] (m f : Str) (r : List Nat) (h : okStr m = true) (g : okStr f = true) : goodD (BRep.bw m f r) = true ∧ dpD (BRep.bw m f r) = 1 := BRep.bgood m f r h g
theorem BRep.bnon [BRep] (m f : Str) (r : List Nat) : eqvD (BRep.bw m f r) .non = false ∧ eqvD .non (BRep.bw m f r) = false := ⟨rfl, rfl⟩
instance (priority := low) BRep.std : BRep := ⟨fun m f r => .str m :: .str f :: r.map fun i => .int (i : Nat), wayK, fun _ _ => False, nkD_way, wayK_depth, wayK_inj, fun m f r h => by simp [wayK] at h, way_eqv, fun m f r h g => way_good h g r, fun M m f r k h => way_snoc0 M m f r k h, fun _ _ _ _ => rfl⟩
section
variable [BRep]
open BRep
namespace Bnd
def toD : Bnd → D
  | par m f k => .tup [.str "param", .str m, .str f, .int (k : Nat)]
  | lt m f r => .tup [.str "let", bw m f r]
  | cnt m f r => .tup [.str "count", bw m f r]
  | sm m f r => .tup [.str "sum", bw m f r]
  | new => .tup [.str "let", .non]
def nk : Bnd → NestedKey
  | par m f k => .tup [.text "param", .text m, .text f, .num (k : Nat)]
  | lt m f r => .tup [.text "let", bk m f r]
  | cnt m f r => .tup [.text "count", bk m f r]
  | sm m f r => .tup [.text "sum", bk m f r]
  | new => .tup [.text "let", .none]
end Bnd
theorem keyN_two (s : Str) (m f : Str) (r : List Nat) : keyN (.tup [.str s, bw m f r]) = some (.tup [.text s, bk m f r]) := by
  have e : nkL [.str s, bw m f r] = some [.text s, bk m f r] := by
    rw [nkL, nkD, nkL, kw, nkL]; rfl
  have d : (NestedKey.tup [.text s, bk m f r]).depth = 2 := by
    rw [NestedKey.depth, NestedKey.depthAll, NestedKey.depth, NestedKey.depthAll, bdep, NestedKey.depthAll]; rfl
  show (match nkL [D.str s, bw m f r] with
    | some ks => if (NestedKey.tup ks).depth ≤ 8 then some (NestedKey.tup ks) else none
    | none => none) = _
  rw [e]
  simp only [d]
  rfl
theorem Bnd.key (b : Bnd) : keyN b.toD = some b.nk := by
  cases b with
  | par m f k => rfl
  | lt m f r => exact keyN_two _ _ _ _
  | cnt m f r => exact keyN_two _ _ _ _
  | sm m f r => exact keyN_two _ _ _ _
  | new => rfl
theorem eqv_two (s s' : Str) (a b : D) : eqvD (.tup [.str s, a]) (.tup [.str s', b]) = (decide (s = s') && eqvD a b) := by
  rw [eqvD, eqvL, eqvL, eqvL, eqvD_str, Bool.and_true]
theorem w_lc : decide (("let" : Str) = "count") = false := by decide +kernel
theorem w_ls : decide (("let" : Str) = "sum") = false := by decide +kernel
theorem w_cl : decide (("count" : Str) = "let") = false := by decide +kernel
theorem w_cs : decide (("count" : Str) = "sum") = false := by decide +kernel
theorem w_sl : decide (("sum" : Str) = "let") = false := by decide +kernel
theorem w_sc : decide (("sum" : Str) = "count") = false := by decide +kernel
theorem Bnd.eqv (b c : Bnd) : eqvD b.toD c.toD = decide (b = c) := by
  have n : ∀ {b c : Bnd}, b ≠ c → decide (b = c) = false := fun h => decide_eq_false h
  cases b with
  | par m f k =>
    cases c with
    | par m' f' k' =>
      rw [Bnd.toD, Bnd.toD, eqvD, eqvL, eqvL, eqvL, eqvL, eqvL, eqvD_str, eqvD_str, eqvD_str, eqvD_int]
      by_cases h : m = m' ∧ f = f' ∧ k = k'
      · obtain ⟨rfl, rfl, rfl⟩ := h; simp
      · rw [n (fun z => by cases z; exact h ⟨rfl, rfl, rfl⟩)]
        by_cases h1 : m = m'
        · by_cases h2 : f = f'
          · have h3 : ¬ ((k : Nat) : Int) = (k' : Nat) := fun z => h ⟨h1, h2, by omega⟩
            rw [decide_eq_false h3]; simp
          · rw [decide_eq_false h2]; simp
        · rw [decide_eq_false h1]; simp
    | lt m' f' r => rw [n (by simp), Bnd.toD, Bnd.toD, eqvD, eqvL, eqvD_str]; simp [eqvL]
    | cnt m' f' r => rw [n (by simp), Bnd.toD, Bnd.toD, eqvD, eqvL, eqvD_str]; simp [eqvL]
    | sm m' f' r => rw [n (by simp), Bnd.toD, Bnd.toD, eqvD, eqvL, eqvD_str]; simp [eqvL]
    | new => rw [n (by simp), Bnd.toD, Bnd.toD, eqvD, eqvL, eqvD_str]; simp [eqvL]
  | lt m f r =>
    cases c with
    | par m' f' k' => rw [n (by simp), Bnd.toD, Bnd.toD, eqvD, eqvL, eqvD_str]; simp [eqvL]
    | lt m' f' r' =>
      rw [Bnd.toD, Bnd.toD, eqv_two, ew, decide_eq_true rfl, Bool.true_and]
      simp
    | cnt m' f' r' => rw [n (by simp), Bnd.toD, Bnd.toD, eqv_two, w_lc]; rfl
    | sm m' f' r' => rw [n (by simp), Bnd.toD, Bnd.toD, eqv_two, w_ls]; rfl
    | new => rw [n (by simp), Bnd.toD, Bnd.toD, eqv_two, (bnon _ _ _).1, Bool.and_false]
  | cnt m f r =>
    cases c with
    | par m' f' k' => rw [n (by simp), Bnd.toD, Bnd.toD, eqvD, eqvL, eqvD_str]; simp [eqvL]
    | lt m' f' r' => rw [n (by simp), Bnd.toD, Bnd.toD, eqv_two, w_cl]; rfl
    | cnt m' f' r' =>
      rw [Bnd.toD, Bnd.toD, eqv_two, ew, decide_eq_true rfl, Bool.true_and]
      simp
    | sm m' f' r' => rw [n (by simp), Bnd.toD, Bnd.toD, eqv_two, w_cs]; rfl
    | new => rw [n (by simp), Bnd.toD, Bnd.toD, eqv_two, w_cl]; rfl
  | sm m f r =>
    cases c with
    | par m' f' k' => rw [n (by simp), Bnd.toD, Bnd.toD, eqvD, eqvL, eqvD_str]; simp [eqvL]
    | lt m' f' r' => rw [n (by simp), Bnd.toD, Bnd.toD, eqv_two, w_sl]; rfl
    | cnt m' f' r' => rw [n (by simp), Bnd.toD, Bnd.toD, eqv_two, w_sc]; rfl
    | sm m' f' r' =>
      rw [Bnd.toD, Bnd.toD, eqv_two, ew, decide_eq_true rfl, Bool.true_and]
      simp
    | new => rw [n (by simp), Bnd.toD, Bnd.toD, eqv_two, w_sl]; rfl
  | new =>
    cases c with
    | par m' f' k' => rw [n (by simp), Bnd.toD, Bnd.toD, eqvD, eqvL, eqvD_str]; simp [eqvL]
    | lt m' f' r' => rw [n (by simp), Bnd.toD, Bnd.toD, eqv_two, (bnon _ _ _).2, Bool.and_false]
    | cnt m' f' r' => rw [n (by simp), Bnd.toD, Bnd.toD, eqv_two, w_lc]; rfl
    | sm m' f' r' => rw [n (by simp), Bnd.toD, Bnd.toD, eqv_two, w_ls]; rfl
    | new => rw [Bnd.toD, eqv_two]; simp [eqvD]
end
end TP
namespace TP
open PySem L2
variable [BRep]
open BRep
inductive Bx where
  | num (n : Int) | use (b : Bnd) | op (s : Str) (a b : Bx) | lt (x : Bnd) (a b : Bx) | ite (a b c : Bx) | times (a : Bx) (i s : Bnd) (b c : Bx) | tell (a b : Bx) | stop (a : Bx) | call (m f : Str) (as : List Bx)
  deriving Inhabited
abbrev Sco := List (Str × Bnd)
def putS (sc : Sco) (x : Str) (b : Bnd) : Sco := if (sc.any fun p => decide (p.1 = x)) = true then sc.map (fun p => if p.1 = x then (p.1, b) else p) else sc ++ [(x, b)]
def lookS (sc : Sco) (x : Str) : Option Bnd := (sc.find? fun p => decide (p.1 = x)).map (·.2)
def kvS (sc : Sco) : EVd := sc.map fun p => (.inr p.1, p.2.toD)
theorem kvS_any (x : Str) : ∀ sc : Sco, ((kvS sc).any fun kv => decide (kv.1 = (Sum.inr x : Key))) = sc.any fun p => decide (p.1 = x)
  | [] => rfl
  | p :: sc => by
    have ih := kvS_any x sc
    unfold kvS at ih ⊢
    rw [List.map_cons, List.any_cons, List.any_cons, ih]
    by_cases h : p.1 = x
    · subst h; simp
    · rw [decide_eq_false h, decide_eq_false (fun z => h (Sum.inr.inj z))]
theorem kvS_put (sc : Sco) (x : Str) (b : Bnd) : kvS (putS sc x b) = putD (kvS sc) (.inr x) b.toD := by
  unfold putS putD
  rw [kvS_any]
  split
  · unfold kvS
    rw [List.map_map, List.map_map]
    refine List.map_congr_left fun p _ => ?_
    by_cases h : p.1 = x
    · subst h; simp
    · have h2 : ¬ (Sum.inr p.1 : Key) = .inr x := fun z => h (Sum.inr.inj z)
      simp [h, h2]
  · unfold kvS
    rw [List.map_append]; rfl
theorem kvS_look (x : Str) : ∀ sc : Sco, lookD (kvS sc) (.inr x) = (lookS sc x).map Bnd.toD
  | [] => rfl
  | p :: sc => by
    have ih := kvS_look x sc
    unfold kvS lookS lookD at *
    rw [List.map_cons, List.find?_cons, List.find?_cons]
    by_cases h : p.1 = x
    · subst h; simp
    · rw [decide_eq_false h, decide_eq_false (fun z => h (Sum.inr.inj z))]
      exact ih
theorem putS_len (sc : Sco) (x : Str) (b : Bnd) : (putS sc x b).length ≤ sc.length + 1 := by
  unfold putS
  split
  · rw [List.length_map]; omega
  · simp
theorem lookS_mem {sc : Sco} {x : Str} {b : Bnd} (h : lookS sc x = some b) : (x, b) ∈ sc := by
  unfold lookS at h
  cases q : sc.find? (fun p => decide (p.1 = x)) with
  | none => rw [q] at h; cases h
  | some p =>
    rw [q] at h
    cases h
    have h1 := List.find?_some q
    have h2 : p.1 = x := by simpa using h1
    have h3 := List.mem_of_find?_eq_some q
    rw [← h2]; exact h3
theorem putS_mem {sc : Sco} {x : Str} {b : Bnd} {p : Str × Bnd} (h : p ∈ putS sc x b) : p ∈ sc ∨ p = (x, b) := by
  unfold putS at h
  split at h
  · obtain ⟨q, hq, rfl⟩ := List.mem_map.mp h
    by_cases e : q.1 = x
    · rw [if_pos e, e]; exact .inr rfl
    · rw [if_neg e]; exact .inl hq
  · rcases List.mem_append.mp h with h | h
    · exact .inl h
    · exact .inr (List.mem_singleton.mp h)
theorem lookS_put (sc : Sco) (x : Str) (b : Bnd) (y : Str) : lookS (putS sc x b) y = if y = x then some b else lookS sc y := by
  unfold putS lookS
  by_cases hx : (sc.any fun p => decide (p.1 = x)) = true
  · rw [if_pos hx]
    induction sc with
    | nil => cases hx
    | cons p sc ih =>
      rw [List.map_cons, List.find?_cons, List.find?_cons]
      by_cases e : p.1 = x
      · rw [if_pos e]
        by_cases ey : y = x
        · subst ey; rw [if_pos rfl, decide_eq_true e]; rfl
        · have : ¬ p.1 = y := fun z => ey (z.symm.trans e)
          rw [if_neg ey, decide_eq_false this]
          simp only
          by_cases hx2 : (sc.any fun p => decide (p.1 = x)) = true
          · rw [ih hx2, if_neg ey]
          · have : (sc.map fun p => if p.1 = x then (p.1, b) else p) = sc := by
              conv => rhs; rw [← List.map_id sc]
              refine List.map_congr_left fun q hq => ?_
              have : ¬ q.1 = x := fun z => hx2 (List.any_eq_true.mpr ⟨q, hq, by simpa using z⟩)
              rw [if_neg this]; rfl
            rw [this]
      · rw [if_neg e]
        rw [List.any_cons, decide_eq_false e, Bool.false_or] at hx
        by_cases e2 : p.1 = y
        · have ey : ¬ y = x := fun z => e (e2.trans z)
          rw [decide_eq_true e2, if_neg ey]
        · rw [decide_eq_false e2]
          exact ih hx
  · rw [if_neg hx, List.find?_append]
    by_cases ey : y = x
    · subst ey
      have : sc.find? (fun p => decide (p.1 = y)) = none := by
        rw [List.find?_eq_none]
        intro q hq z
        exact hx (List.any_eq_true.mpr ⟨q, hq, z⟩)
      rw [this, if_pos rfl]
      simp
    · rw [if_neg ey]
      have : [(x, b)].find? (fun p => decide (p.1 = y)) = none := by
        rw [List.find?_eq_none]
        intro q hq z
        rw [List.mem_singleton] at hq
        subst hq
        exact ey (by simpa using (of_decide_eq_true z).symm)
      rw [this]
      simp
namespace Bx
mutual
def toD : Bx → D
  | num n => .tup [.str "num", .int n]
  | use b => .tup [.str "use", b.toD]
  | op s a b => .tup [.str "op", .str s, toD a, toD b]
  | lt x a b => .tup [.str "let", x.toD, toD a, toD b]
  | ite a b c => .tup [.str "if", toD a, toD b, toD c]
  | times a i s b c => .tup [.str "times", toD a, i.toD, s.toD, toD b, toD c]
  | tell a b => .tup [.str "tell", toD a, toD b]
  | stop a => .tup [.str "stop", toD a]
  | call m f as => .tup [.str "call", .str m, .str f, .tup (toDs as)]
def toDs : List Bx → List D
  | [] => []
  | e :: es => toD e :: toDs es
end
theorem toDs_eq : ∀ es : List Bx, toDs es = es.map toD
  | [] => by rw [toDs]; rfl
  | e :: es => by rw [toDs, toDs_eq es]; rfl
def parts : Bx → List Bx
  | num _ => []
  | use _ => []
  | op _ a b => [a, b]
  | lt _ a b => [a, b]
  | ite a b c => [a, b, c]
  | times a _ _ b c => [a, b, c]
  | tell a b => [a, b]
  | stop a => [a]
  | call _ _ as => as
def own : Bx → List Bnd
  | lt x _ _ => [x]
  | times _ i s _ _ => [i, s]
  | _ => []
mutual
def dep : Bx → Nat
  | num _ => 0
  | use _ => 0
  | op _ a b => max (dep a) (dep b) + 1
  | lt _ a b => max (dep a) (dep b) + 1
  | ite a b c => max (dep a) (max (dep b) (dep c)) + 1
  | times a _ _ b c => max (dep a) (max (dep b) (dep c)) + 1
  | tell a b => max (dep a) (dep b) + 1
  | stop a => dep a + 1
  | call _ _ as => deps as + 1
def deps : List Bx → Nat
  | [] => 0
  | e :: es => max (dep e) (deps es)
end
theorem deps_mem : ∀ {es : List Bx} {e : Bx}, e ∈ es → dep e ≤ deps es
  | e' :: es, e, h => by
    rw [deps]
    rcases List.mem_cons.mp h with rfl | h
    · omega
    · have := deps_mem h; omega
theorem dep_eq (e : Bx) (h : e.parts ≠ [] ∨ ∃ m f as, e = call m f as) : dep e = deps e.parts + 1 := by
  cases e <;> simp only [dep, deps, parts] <;> first | omega | (rcases h with h | ⟨_, _, _, h⟩ <;> first | exact absurd rfl h | cases h)
theorem parts_dep {e p : Bx} (h : p ∈ parts e) : dep p < dep e := by
  rw [dep_eq e (.inl fun z => by rw [z] at h; cases h)]
  have := deps_mem h
  omega
theorem deps_le {n : Nat} : ∀ {es : List Bx}, (∀ e ∈ es, dep e ≤ n) → deps es ≤ n
  | [], _ => by rw [deps]; omega
  | e :: es, h => by
    have h1 := h e List.mem_cons_self
    have h2 := deps_le (es := es) fun x hx => h x (List.mem_cons_of_mem _ hx)
    rw [deps]; omega
mutual
def cnt : Bx → Nat
  | num _ => 1
  | use _ => 1
  | op _ a b => cnt a + cnt b + 1
  | lt _ a b => cnt a + cnt b + 1
  | ite a b c => cnt a + cnt b + cnt c + 1
  | times a _ _ b c => cnt a + cnt b + cnt c + 1
  | tell a b => cnt a + cnt b + 1
  | stop a => cnt a + 1
  | call _ _ as => cnts as + 1
def cnts : List Bx → Nat
  | [] => 0
  | e :: es => cnt e + cnts es
end
theorem cnt_eq (e : Bx) : cnt e = 1 + cnts e.parts := by
  cases e <;> simp only [cnt, cnts, parts] <;> omega
theorem cnts_mem : ∀ {es : List Bx} {e : Bx}, e ∈ es → cnt e ≤ cnts es
  | e' :: es, e, h => by
    rw [cnts]
    rcases List.mem_cons.mp h with rfl | h
    · omega
    · have := cnts_mem h; omega
theorem parts_cnt {e p : Bx} (h : p ∈ e.parts) : cnt p < cnt e := by
  rw [cnt_eq e]
  have := cnts_mem h
  omega
section
variable (nm : Bnd → Str)
end
section
variable (m f : Str)
def moreS (r : List Nat) (sc : Sco) (e : Ex) (i : Nat) : Sco := match e with
  | .lt x _ _ => if i = 1 then putS sc x (.lt m f r) else sc
  | .times _ x s _ _ => if i = 2 then putS (putS sc x (.cnt m f r)) s (.sm m f r) else sc
  | _ => sc
end
section
variable (nm : Bnd → Str)
end
end Bx
namespace Bx
section
variable (p : Bnd → Prop)
end
end Bx
end TP
namespace TP
open PySem L2
variable [BRep]
open BRep
def parBs (m f : Str) : Nat → List Str → Sco
  | _, [] => []
  | k, x :: xs => (x, .par m f k) :: parBs m f (k + 1) xs
def mergeS (acc es : Sco) : Sco := es.foldl (fun acc p => putS acc p.1 p.2) acc
def parS (m f : Str) (ps : List Str) : Sco := mergeS [] (parBs m f 0 ps)
theorem kvS_merge : ∀ (es acc : Sco), kvS (mergeS acc es) = mergeP (kvS acc) (kvS es)
  | [], acc => rfl
  | p :: es, acc => by
    have h := kvS_merge es (putS acc p.1 p.2)
    rw [kvS_put] at h
    exact h
theorem kvS_parBs (m f : Str) : ∀ (ps : List Str) (k : Nat), kvS (parBs m f k ps) = parB m f k ps
  | [], _ => rfl
  | x :: xs, k => by
    have h := kvS_parBs m f xs (k + 1)
    unfold kvS at h ⊢
    rw [parBs, parB, List.map_cons, h]; rfl
theorem kvS_parS (m f : Str) (ps : List Str) : kvS (parS m f ps) = parKV m f ps := by
  unfold parS parKV
  rw [kvS_merge, kvS_parBs]; rfl
theorem mergeS_len : ∀ (es acc : Sco), (mergeS acc es).length ≤ acc.length + es.length
  | [], acc => by show acc.length ≤ acc.length + 0; omega
  | p :: r, acc => by
    have h1 := mergeS_len r (putS acc p.1 p.2)
    have h2 := putS_len acc p.1 p.2
    show (mergeS (putS acc p.1 p.2) r).length ≤ _
    rw [List.length_cons]; omega
theorem parBs_len (m f : Str) : ∀ (ps : List Str) (k : Nat), (parBs m f k ps).length = ps.length
  | [], _ => rfl
  | x :: xs, k => by rw [parBs, List.length_cons, List.length_cons, parBs_len m f xs (k + 1)]
theorem parS_len (m f : Str) (ps : List Str) : (parS m f ps).length ≤ ps.length := by
  have := mergeS_len (parBs m f 0 ps) []
  rw [parBs_len, List.length_nil, Nat.zero_add] at this
  exact this
theorem mergeS_mem : ∀ {es acc : Sco} {p : Str × Bnd}, p ∈ mergeS acc es → p ∈ acc ∨ p ∈ es
  | [], acc, p, h => .inl h
  | q :: es, acc, p, h => by
    rcases mergeS_mem (es := es) (acc := putS acc q.1 q.2) h with h | h
    · rcases putS_mem h with h | h
      · exact .inl h
      · exact .inr (by rw [h]; exact List.mem_cons_self)
    · exact .inr (List.mem_cons_of_mem _ h)
theorem parBs_mem {m f : Str} : ∀ {ps : List Str} {k : Nat} {p : Str × Bnd}, p ∈ parBs m f k ps → ∃ i, ps[i]? = some p.1 ∧ p.2 = .par m f (k + i)
  | x :: xs, k, p, h => by
    rw [parBs] at h
    rcases List.mem_cons.mp h with rfl | h
    · exact ⟨0, rfl, rfl⟩
    · obtain ⟨i, h1, h2⟩ := parBs_mem h
      exact ⟨i + 1, by simpa using h1, by rw [h2]; congr 1; omega⟩
theorem parS_mem {m f : Str} {ps : List Str} {p : Str × Bnd} (h : p ∈ parS m f ps) : ∃ i, ps[i]? = some p.1 ∧ p.2 = .par m f i := by
  rcases mergeS_mem h with h | h
  · exact absurd h List.not_mem_nil
  · obtain ⟨i, h1, h2⟩ := parBs_mem h
    exact ⟨i, h1, by rw [h2]; congr 1; omega⟩
theorem parBs_names (m f : Str) : ∀ (ps : List Str) (k : Nat), (parBs m f k ps).map (·.1) = ps
  | [], _ => rfl
  | x :: xs, k => by rw [parBs, List.map_cons, parBs_names m f xs (k + 1)]
theorem lookS_merge : ∀ (es acc : Sco) (x : Str), (∃ b, lookS acc x = some b) → ∃ b, lookS (mergeS acc es) x = some b
  | [], acc, x, h => h
  | p :: es, acc, x, h => by
    refine lookS_merge es (putS acc p.1 p.2) x ?_
    rw [lookS_put]
    by_cases e : x = p.1
    · rw [if_pos e]; exact ⟨_, rfl⟩
    · rw [if_neg e]; exact h
theorem lookS_mem2 : ∀ {es acc : Sco} {x : Str}, x ∈ es.map (·.1) → ∃ b, lookS (mergeS acc es) x = some b
  | p :: es, acc, x, h => by
    rw [List.map_cons] at h
    show ∃ b, lookS (mergeS (putS acc p.1 p.2) es) x = some b
    rcases List.mem_cons.mp h with rfl | h
    · exact lookS_merge es _ _ ⟨_, by rw [lookS_put, if_pos rfl]⟩
    · exact lookS_mem2 h
theorem parS_look {m f : Str} {ps : List Str} {x : Str} (h : x ∈ ps) : ∃ b, lookS (parS m f ps) x = some b := lookS_mem2 (by rw [parBs_names]; exact h)
def Bnd.ok : Bnd → Prop
  | par m f _ => okStr m = true ∧ okStr f = true
  | lt m f _ => okStr m = true ∧ okStr f = true
  | cnt m f _ => okStr m = true ∧ okStr f = true
  | sm m f _ => okStr m = true ∧ okStr f = true
  | new => True
theorem two_good {s : Str} (hs : okStr s = true) {m f : Str} (hm : okStr m = true) (hf : okStr f = true) (r : List Nat) : goodD (.tup [.str s, bw m f r]) = true ∧ dpD (.tup [.str s, bw m f r]) ≤ 2 := by
  obtain ⟨h1, h2⟩ := gw m f r hm hf
  have e1 : goodD (.str s) = true := hs
  have d1 : ∀ x : Str, dpD (.str x) = 0 := fun x => rfl
  rw [goodD, dpD, goodL, goodL, goodL, dpL, dpL, dpL, e1, h1, h2, d1]
  exact ⟨rfl, by decide⟩
theorem Bnd.good {b : Bnd} (h : b.ok) : goodD b.toD = true ∧ dpD b.toD ≤ 2 := by
  cases b with
  | par m f k =>
    have e0 : goodD (.str "param") = true := ok_param
    have e1 : goodD (.str m) = true := h.1
    have e2 : goodD (.str f) = true := h.2
    have d1 : ∀ x : Str, dpD (.str x) = 0 := fun x => rfl
    have d2 : ∀ x : Int, dpD (.int x) = 0 := fun x => rfl
    have g2 : ∀ x : Int, goodD (.int x) = true := fun x => rfl
    rw [Bnd.toD, goodD, dpD, goodL, goodL, goodL, goodL, goodL, dpL, dpL, dpL, dpL, dpL, e0, e1, e2, d1, d1, d1, d2, g2]
    exact ⟨rfl, by decide⟩
  | lt m f r => exact two_good ok_let h.1 h.2 r
  | cnt m f r => exact two_good ok_count h.1 h.2 r
  | sm m f r => exact two_good ok_sum h.1 h.2 r
  | new =>
    have e : Bnd.new.toD = .tup [.str "let", .non] := rfl
    rw [e]
    exact ⟨by decide +kernel, by decide +kernel⟩
namespace Bx
mutual
def Oks : Bx → Prop
  | num _ => True
  | use b => b.ok
  | op _ a b => Oks a ∧ Oks b
  | lt x a b => x.ok ∧ Oks a ∧ Oks b
  | ite a b c => Oks a ∧ Oks b ∧ Oks c
  | times a i s b c => i.ok ∧ s.ok ∧ Oks a ∧ Oks b ∧ Oks c
  | tell a b => Oks a ∧ Oks b
  | stop a => Oks a
  | call _ _ as => Okss as
def Okss : List Bx → Prop
  | [] => True
  | e :: es => Oks e ∧ Okss es
end
section
variable {m f : Str} (hm : okStr m = true) (hf : okStr f = true)
include hm hf
end
end Bx
end TP
namespace TP
open PySem L2
variable [BRep]
open BRep
inductive Sh where
  | num (n : Int) | use (x : D) | op (s : Str) | lt (x : D) | ite | times (i s : D) | tell | stop | call (m f : Str)
def Sh.spots : Sh → List Int
  | num _ => []
  | use _ => []
  | op _ => [2, 3]
  | lt _ => [2, 3]
  | ite => [1, 2, 3]
  | times _ _ => [1, 4, 5]
  | tell => [1, 2]
  | stop => [1]
  | call _ _ => []
end TP
namespace TP
open PySem L2
variable [BRep]
open BRep
section
variable [HasW]
end
namespace Bx
section
variable (p : Bnd → Prop)
mutual
def All : Bx → Prop
  | num _ => True
  | use b => p b
  | op _ a b => All a ∧ All b
  | lt x a b => p x ∧ All a ∧ All b
  | ite a b c => All a ∧ All b ∧ All c
  | times a i s b c => p i ∧ p s ∧ All a ∧ All b ∧ All c
  | tell a b => All a ∧ All b
  | stop a => All a
  | call _ _ as => Alls as
def Alls : List Bx → Prop
  | [] => True
  | e :: es => All e ∧ Alls es
end
end
mutual
theorem All.imp {p q : Bnd → Prop} (hpq : ∀ b, p b → q b) : ∀ {b : Bx}, All p b → All q b
  | num _, h => by rw [All]; trivial
  | use b, h => by rw [All] at *; exact hpq _ h
  | op _ a b, h => by rw [All] at *; exact ⟨All.imp hpq h.1, All.imp hpq h.2⟩
  | lt x a b, h => by rw [All] at *; exact ⟨hpq _ h.1, All.imp hpq h.2.1, All.imp hpq h.2.2⟩
  | ite a b c, h => by rw [All] at *; exact ⟨All.imp hpq h.1, All.imp hpq h.2.1, All.imp hpq h.2.2⟩
  | times a i s b c, h => by rw [All] at *; exact ⟨hpq _ h.1, hpq _ h.2.1, All.imp hpq h.2.2.1, All.imp hpq h.2.2.2.1, All.imp hpq h.2.2.2.2⟩
  | tell a b, h => by rw [All] at *; exact ⟨All.imp hpq h.1, All.imp hpq h.2⟩
  | stop a, h => by rw [All] at *; exact All.imp hpq h
  | call _ _ as, h => by rw [All] at *; exact Alls.imp hpq h
theorem Alls.imp {p q : Bnd → Prop} (hpq : ∀ b, p b → q b) : ∀ {bs : List Bx}, Alls p bs → Alls q bs
  | [], h => by rw [Alls]; trivial
  | b :: bs, h => by rw [Alls] at *; exact ⟨All.imp hpq h.1, Alls.imp hpq h.2⟩
end
end Bx
def scI (e : Ex) (ns : List Str) (i : Nat) : List Str := match e with
  | .lt x _ _ => if i = 1 then x :: ns else ns
  | .times _ x s _ _ => if i = 2 then x :: s :: ns else ns
  | _ => ns
theorem wf_at {nm : Str → Prop} {ah : Str → Str → Nat → Prop} {ns : List Str} {e p : Ex} {i : Nat} (h : Ex.Wf nm ah ns e) (hp : e.parts[i]? = some p) : Ex.Wf nm ah (scI e ns i) p := by
  cases e with
  | num n => simp [Ex.parts] at hp
  | use n => simp [Ex.parts] at hp
  | op s a b => rw [Ex.Wf] at h; simp only [Ex.parts] at hp; match i, hp with | 0, hp => cases hp; exact h.2.1 | 1, hp => cases hp; exact h.2.2
  | lt x a b => rw [Ex.Wf] at h; simp only [Ex.parts] at hp; match i, hp with | 0, hp => cases hp; exact h.2.1 | 1, hp => cases hp; exact h.2.2
  | ite a b c => rw [Ex.Wf] at h; simp only [Ex.parts] at hp; match i, hp with | 0, hp => cases hp; exact h.1 | 1, hp => cases hp; exact h.2.1 | 2, hp => cases hp; exact h.2.2
  | times a x s b c => rw [Ex.Wf] at h; simp only [Ex.parts] at hp; match i, hp with | 0, hp => cases hp; exact h.2.2.2.1 | 1, hp => cases hp; exact h.2.2.2.2.1 | 2, hp => cases hp; exact h.2.2.2.2.2
  | tell a b => rw [Ex.Wf] at h; simp only [Ex.parts] at hp; match i, hp with | 0, hp => cases hp; exact h.1 | 1, hp => cases hp; exact h.2
  | stop a => rw [Ex.Wf] at h; simp only [Ex.parts] at hp; match i, hp with | 0, hp => cases hp; exact h
  | call m f as => rw [Ex.Wf] at h; exact Ex.Wfs_mem h.2 (List.mem_of_getElem? hp)
def Bound (sc : Sco) (ns : List Str) : Prop := ∀ x ∈ ns, ∃ b, lookS sc x = some b
theorem bound_put {sc : Sco} {ns : List Str} (h : Bound sc ns) (x : Str) (b : Bnd) : Bound (putS sc x b) (x :: ns) := fun y hy => by
  rw [lookS_put]
  by_cases e : y = x
  · rw [if_pos e]; exact ⟨_, rfl⟩
  · rw [if_neg e]; exact h y ((List.mem_cons.mp hy).resolve_left e)
theorem bound_at {m f : Str} {r : List Nat} {sc : Sco} {ns : List Str} (h : Bound sc ns) (e : Ex) (i : Nat) : Bound (Bx.moreS m f r sc e i) (scI e ns i) := by
  cases e with
  | lt x a b =>
    simp only [Bx.moreS, scI]
    split
    · exact bound_put h _ _
    · exact h
  | times a x s b c =>
    simp only [Bx.moreS, scI]
    split
    · intro y hy
      rw [lookS_put, lookS_put]
      by_cases e1 : y = s
      · rw [if_pos e1]; exact ⟨_, rfl⟩
      · rw [if_neg e1]
        by_cases e2 : y = x
        · rw [if_pos e2]; exact ⟨_, rfl⟩
        · rw [if_neg e2]
          exact h y (((List.mem_cons.mp hy).resolve_left e2 |> List.mem_cons.mp).resolve_left e1)
    · exact h
  | _ => exact h
def NmAt (nm : Bnd → Str) (m f : Str) (r : List Nat) (e : Ex) : Prop := ∀ q p, Ex.sub e q = some p → match p with
  | .lt x _ _ => nm (.lt m f (r ++ q)) = x
  | .times _ i s _ _ => nm (.cnt m f (r ++ q)) = i ∧ nm (.sm m f (r ++ q)) = s
  | _ => True
theorem NmAt.part {nm : Bnd → Str} {m f : Str} {r : List Nat} {e p : Ex} {i : Nat} (h : NmAt nm m f r e) (hp : e.parts[i]? = some p) : NmAt nm m f (r ++ [i]) p := fun q x hx => by
  have e1 : Ex.sub e (i :: q) = some x := by rw [Ex.sub_cons, hp]; exact hx
  have h1 := h (i :: q) x e1
  have e2 : r ++ (i :: q) = (r ++ [i]) ++ q := by simp
  rw [e2] at h1
  exact h1
def NmS (nm : Bnd → Str) (sc : Sco) : Prop := ∀ x b, lookS sc x = some b → nm b = x
theorem NmS.put {nm : Bnd → Str} {sc : Sco} (h : NmS nm sc) {x : Str} {b : Bnd} (hb : nm b = x) : NmS nm (putS sc x b) := fun y c hc => by
  rw [lookS_put] at hc
  by_cases e : y = x
  · rw [if_pos e] at hc; cases hc; rw [e]; exact hb
  · rw [if_neg e] at hc; exact h y c hc
theorem NmS.at {nm : Bnd → Str} {m f : Str} {r : List Nat} {sc : Sco} {e : Ex} (h : NmS nm sc) (ha : NmAt nm m f r e) (i : Nat) : NmS nm (Bx.moreS m f r sc e i) := by
  have h0 := ha [] e (by rw [Ex.sub])
  rw [List.append_nil] at h0
  cases e with
  | lt x a b =>
    simp only [Bx.moreS]
    split
    · exact h.put h0
    · exact h
  | times a x s b c =>
    simp only [Bx.moreS]
    split
    · exact (h.put h0.1).put h0.2
    · exact h
  | _ => exact h
section
variable {nm : Bnd → Str} {P : Str → Prop} {ah : Str → Str → Nat → Prop} {m f : Str}
end
end TP
namespace TP
open PySem L2
variable [BRep]
open BRep
namespace Bx
end Bx
section
variable {nm : Bnd → Str} {P : Str → Prop} {ah : Str → Str → Nat → Prop} {m f : Str} (hP : ∀ c, P (nm c)) (hne : ∀ q, nm (.cnt m f q) ≠ nm (.sm m f q))
include hP hne
end
end TP
namespace TP
open PySem L2
variable [BRep]
open BRep
namespace Bx
def sub : Bx → List Nat → Option Bx
  | e, [] => some e
  | e, i :: r => match e.parts[i]? with
    | some p => sub p r
    | none => none
theorem sub_cons (e : Bx) (i : Nat) (r : List Nat) : sub e (i :: r) = (match e.parts[i]? with | some p => sub p r | none => none) := by rw [sub]
def scAtS (m f : Str) : List Nat → List Nat → Sco → Ex → Sco
  | _, [], sc, _ => sc
  | r, i :: q, sc, e => match e.parts[i]? with
    | some p => scAtS m f (r ++ [i]) q (moreS m f r sc e i) p
    | none => sc
section
variable (x : Bnd) (o : Bx)
end
section
variable (x : Bnd)
end
section
variable (ah : Str → Str → Nat → Prop)
mutual
def BWf : List Bnd → Bx → Prop
  | _, num n => -(10 ^ 30) ≤ n ∧ n ≤ 10 ^ 30
  | sc, use b => b ∈ sc
  | sc, op s a b => s ∈ signs ∧ BWf sc a ∧ BWf sc b
  | sc, lt x a b => BWf sc a ∧ BWf (x :: sc) b
  | sc, ite a b c => BWf sc a ∧ BWf sc b ∧ BWf sc c
  | sc, times a i s b c => (∃ m f q, i = .cnt m f q ∧ s = .sm m f q) ∧ BWf sc a ∧ BWf sc b ∧ BWf (i :: s :: sc) c
  | sc, tell a b => BWf sc a ∧ BWf sc b
  | sc, stop a => BWf sc a
  | sc, call m f as => ah m f as.length ∧ BWfs sc as
def BWfs : List Bnd → List Bx → Prop
  | _, [] => True
  | sc, e :: es => BWf sc e ∧ BWfs sc es
end
end
section
variable {ah : Str → Str → Nat → Prop}
mutual
theorem BWf.mono : ∀ (e : Bx) (sc sc' : List Bnd), (∀ y ∈ sc, y ∈ sc') → BWf ah sc e → BWf ah sc' e
  | num n, _, _, _, h => by rw [BWf] at *; exact h
  | use b, _, _, hs, h => by rw [BWf] at *; exact hs _ h
  | op s a b, sc, sc', hs, h => by rw [BWf] at *; exact ⟨h.1, BWf.mono a _ _ hs h.2.1, BWf.mono b _ _ hs h.2.2⟩
  | lt y a b, sc, sc', hs, h => by
    rw [BWf] at *
    refine ⟨BWf.mono a _ _ hs h.1, BWf.mono b _ _ (fun z hz => ?_) h.2⟩
    rcases List.mem_cons.mp hz with rfl | hz
    · exact List.mem_cons_self
    · exact List.mem_cons_of_mem _ (hs _ hz)
  | ite a b c, sc, sc', hs, h => by rw [BWf] at *; exact ⟨BWf.mono a _ _ hs h.1, BWf.mono b _ _ hs h.2.1, BWf.mono c _ _ hs h.2.2⟩
  | times a i s b c, sc, sc', hs, h => by
    rw [BWf] at *
    refine ⟨h.1, BWf.mono a _ _ hs h.2.1, BWf.mono b _ _ hs h.2.2.1, BWf.mono c _ _ (fun z hz => ?_) h.2.2.2⟩
    rcases List.mem_cons.mp hz with rfl | hz
    · exact List.mem_cons_self
    · rcases List.mem_cons.mp hz with rfl | hz
      · exact List.mem_cons_of_mem _ List.mem_cons_self
      · exact List.mem_cons_of_mem _ (List.mem_cons_of_mem _ (hs _ hz))
  | tell a b, sc, sc', hs, h => by rw [BWf] at *; exact ⟨BWf.mono a _ _ hs h.1, BWf.mono b _ _ hs h.2⟩
  | stop a, sc, sc', hs, h => by rw [BWf] at *; exact BWf.mono a _ _ hs h
  | call m f as, sc, sc', hs, h => by rw [BWf] at *; exact ⟨h.1, BWfs.mono as _ _ hs h.2⟩
theorem BWfs.mono : ∀ (es : List Bx) (sc sc' : List Bnd), (∀ y ∈ sc, y ∈ sc') → BWfs ah sc es → BWfs ah sc' es
  | [], _, _, _, h => by rw [BWfs]; trivial
  | e :: es, sc, sc', hs, h => by rw [BWfs] at *; exact ⟨BWf.mono e _ _ hs h.1, BWfs.mono es _ _ hs h.2⟩
end
section
variable {nm : Bnd → Str} {P : Str → Prop} (hP : ∀ c, P (nm c)) (hne : ∀ m f q, nm (.cnt m f q) ≠ nm (.sm m f q))
include hP hne
end
end
end Bx
end TP
namespace K06
open PySem L2 TP
open BRep
set_option maxHeartbeats 8000000
theorem seq1 {A B : FS} {ρ ρ' : EnvD} {N M' : Store} (h : A ρ N = .next ρ' M') : sSeq A B ρ N = B ρ' M' := by rw [sSeq_eq, h]
theorem seqR {A B : FS} {ρ : EnvD} {N M' : Store} {x : Slot} (h : A ρ N = .ret x M') : sSeq A B ρ N = .ret x M' := by rw [sSeq_eq, h]
theorem forGo_step {b : D → EnvD → Option EnvD} {body : FS} {d : D} {ds : List D} {ρ ρ1 ρ2 : EnvD} {M M2 : Store} (h1 : b d ρ = some ρ1) (h2 : body ρ1 M = .next ρ2 M2) : forGo b body (d :: ds) ρ M = forGo b body ds ρ2 M2 := by
  rw [forGo, h1]; simp only; rw [h2]
theorem way_cut (M : Store) (m f : Str) (r : List Nat) : slD M (wayD m f r) none (some 2) = some (.val (.tup [.str m, .str f])) := by
  show some (Slot.val (.tup (cutD (.str m :: .str f :: _) none (some 2)))) = _
  rw [cutD2]
theorem way_snoc (M : Store) (m f : Str) (r : List Nat) (i : Nat) (h : r.length ≤ 1000) : addD M (wayD m f r) (.tup [.int (i : Nat)]) = some (.val (wayD m f (r ++ [i]))) := by
  unfold wayD
  rw [List.map_append]
  have h2 : r.length + 1 + 1 + 1 ≤ 16777216 := by omega
  have h3 : r.length + 1 + 1 ≤ 16777216 := by omega
  simp [addD, h2, h3]
theorem idx_list (N : Store) (l : List D) (i : Nat) {d : D} (h : l[i]? = some d) : idxD N (.lst l) (.int (i : Nat)) = some (.val d) := by
  show ((atI l (i : Nat)).map Slot.val) = _
  rw [atI_nat h]; rfl
theorem idx_tuple (N : Store) (l : List D) (i : Nat) {d : D} (h : l[i]? = some d) : idxD N (.tup l) (.int (i : Nat)) = some (.val d) := by
  show ((atI l (i : Nat)).map Slot.val) = _
  rw [atI_nat h]; rfl
theorem more_S (m f : Str) (r : List Nat) (sc : Sco) (e : Ex) (i : Nat) : kvS (Bx.moreS m f r sc e i) = moreP e (bl m f r) (kvS sc) i := by
  cases e with
  | lt x a b =>
    simp only [Bx.moreS, moreP]
    split
    · rw [kvS_put]; rfl
    · rfl
  | times a x s b c =>
    simp only [Bx.moreS, moreP]
    split
    · rw [kvS_put, kvS_put]; rfl
    · rfl
  | _ => rfl
theorem moreS_len (m f : Str) (r : List Nat) (sc : Sco) (e : Ex) (i : Nat) : (Bx.moreS m f r sc e i).length ≤ sc.length + 2 := by
  have h1 := moreP_len e (bl m f r) (kvS sc) i
  rw [← more_S] at h1
  simpa [kvS] using h1
theorem rway_loop {m f : Str} (hsp : ¬ BRep.sp m f) (K : Nat) (s0 s1 s5 s6 s7 : Slot) : ∀ (q r : List Nat) (sc : Sco) (e p : Ex) (j : Nat) (M : Store) (s4 : Slot), Ex.sub e q = some p → r.length + q.length ≤ 900 → sc.length + 2 * q.length ≤ 9000 → M[j]? = some (.dK (kvS sc)) →
    ∃ X j' t4, forGo (bName 4) (lp_round_way_0 (sem (K + 2))) (q.map fun i => .int (i : Nat)) [s0, s1, .val (.ref j), .val (wayD m f r), s4, s5, s6, s7, .val e.toD] M = .next [s0, s1, .val (.ref j'), .val (wayD m f (r ++ q)), t4, s5, s6, s7, .val p.toD] (M ++ X) ∧ (M ++ X)[j']? = some (.dK (kvS (Bx.scAtS m f r q sc e)))
  | [], r, sc, e, p, j, M, s4, hs, _, _, hj => by
    rw [Ex.sub] at hs
    cases hs
    refine ⟨[], j, s4, ?_, ?_⟩
    · rw [List.append_nil, List.append_nil]; rfl
    · rw [List.append_nil, Bx.scAtS]; exact hj
  | i :: q, r, sc, e, p, j, M, s4, hs, hr, hl, hj => by
    rw [Ex.sub_cons] at hs
    rw [List.length_cons] at hr hl
    cases hi : e.parts[i]? with
    | none => rw [hi] at hs; cases hs
    | some e1 =>
      rw [hi] at hs
      have hs' : Ex.sub e1 q = some p := hs
      have hkl : (kvS sc).length ≤ 10000 := by simp only [kvS, List.length_map]; omega
      have h1 := more_ok (K + 1) e (bl m f r) j i (kvS sc) M hj hkl
      rw [← more_S] at h1
      have hbw : D.tup (bl m f r) = wayD m f r := bown m f r hsp
      rw [hbw] at h1
      have hml := moreS_len m f r sc e i
      have h2 := parts_ok (K + 1) e (M ++ [.dK (kvS (Bx.moreS m f r sc e i))])
      have h3 := idx_list (M ++ [.dK (kvS (Bx.moreS m f r sc e i))]) (e.parts.map Ex.toD) i (d := e1.toD) (by rw [List.getElem?_map, hi]; rfl)
      have h4 := way_snoc (M ++ [.dK (kvS (Bx.moreS m f r sc e i))]) m f r i (by omega)
      obtain ⟨X, j', t4, h5, h6⟩ := rway_loop hsp K s0 s1 s5 s6 s7 q (r ++ [i]) (Bx.moreS m f r sc e i) e1 p M.length (M ++ [.dK (kvS (Bx.moreS m f r sc e i))]) (.val (.int (i : Nat))) hs' (by rw [List.length_append, List.length_singleton]; omega) (by omega) (at_end M _)
      refine ⟨[.dK (kvS (Bx.moreS m f r sc e i))] ++ X, j', t4, ?_, ?_⟩
      · rw [List.map_cons, ← List.append_assoc]
        have hb : bName 4 (.int (i : Nat)) [s0, s1, .val (.ref j), .val (wayD m f r), s4, s5, s6, s7, .val e.toD] = some [s0, s1, .val (.ref j), .val (wayD m f r), .val (.int (i : Nat)), s5, s6, s7, .val e.toD] := rfl
        have e9 : r ++ i :: q = r ++ [i] ++ q := by rw [List.append_assoc]; rfl
        rw [e9, ← h5]
        refine forGo_step hb ?_
        obtain ⟨S1, hS1⟩ : ∃ z, M ++ [.dK (kvS (Bx.moreS m f r sc e i))] = z := ⟨_, rfl⟩
        rw [hS1] at h1 h2 h3 h4 ⊢
        obtain ⟨W, hW⟩ : ∃ z, wayD m f r = z := ⟨_, rfl⟩
        rw [hW] at h1 h4 ⊢
        obtain ⟨W2, hW2⟩ : ∃ z, wayD m f (r ++ [i]) = z := ⟨_, rfl⟩
        rw [hW2] at h4 ⊢
        obtain ⟨ED, hED⟩ : ∃ z, e.toD = z := ⟨_, rfl⟩
        rw [hED] at h1 h2 ⊢
        obtain ⟨PL, hPL⟩ : ∃ z, e.parts.map Ex.toD = z := ⟨_, rfl⟩
        rw [hPL] at h2 h3
        obtain ⟨E1, hE1⟩ : ∃ z, e1.toD = z := ⟨_, rfl⟩
        rw [hE1] at h3 ⊢
        obtain ⟨iz, hiz⟩ : ∃ z : Int, ((i : Nat) : Int) = z := ⟨_, rfl⟩
        rw [hiz] at h1 h3 h4 ⊢
        have h1' : sem (K + 2) f_more_round [ED, W, .ref j, .int iz] M = .ok (.val (.ref M.length)) S1 := h1
        have h2' : sem (K + 2) f_parts [ED] S1 = .ok (.own PL) S1 := h2
        rw [lp_round_way_0_eq]
        simp [h1', h2', h3, h4]
      · rw [← List.append_assoc, Bx.scAtS, hi]
        exact h6
section
variable {P : Pr} {x : Str × Row} (hfl : (flat P).length ≤ 1000) (hf : findF P x.1 x.2.f = some x) (hps : x.2.ps.length ≤ 5)
include hfl hf hps
theorem roundway_ok {q : List Nat} {p : Ex} (hs : Ex.sub x.2.b q = some p) (hq : q.length ≤ 800) (K : Nat) (M : Store) : ∃ X j, sem (K + 4) f_round_way [pgD P, wayD x.1 x.2.f q] M = .ok (.val (.ref j)) (M ++ X) ∧ (M ++ X)[j]? = some (.dK (kvS (Bx.scAtS x.1 x.2.f [] q (parS x.1 x.2.f x.2.ps) x.2.b))) := by
  have h3 := function_ok (K + 1) P x.1 x.2.f M hfl
  have hf' : (flat P).find? (isF x.1 x.2.f) = some x := hf
  rw [hf'] at h3
  simp only [pbD] at h3
  have h9 := params_ok (K + 2) x.1 x.2.f x.2.ps (by omega) M
  rw [← kvS_parS] at h9
  obtain ⟨X, j, t4, h5, h6⟩ := rway_loop (m := x.1) (f := x.2.f) (fun z => z) (K + 1) (.val (pgD P)) (.val (wayD x.1 x.2.f q)) (.val (.str x.1)) (.val (.str x.2.f)) (.val (.tup (x.2.ps.map .str))) q [] (parS x.1 x.2.f x.2.ps) x.2.b p M.length (M ++ [.dK (kvS (parS x.1 x.2.f x.2.ps))]) .un hs (by simp; omega) (by have := parS_len x.1 x.2.f x.2.ps; omega) (at_end M _)
  refine ⟨[.dK (kvS (parS x.1 x.2.f x.2.ps))] ++ X, j, ?_, by rw [← List.append_assoc]; exact h6⟩
  have sl0 : ∀ N, slD N (wayD x.1 x.2.f q) none (some 2) = some (.val (.tup [.str x.1, .str x.2.f])) := fun N => way_cut N x.1 x.2.f q
  have sl : ∀ N, slD N (wayD x.1 x.2.f q) (some 2) none = some (.val (.tup (q.map fun i => .int (i : Nat)))) := fun N => by
    show some (Slot.val (.tup (cutD (_ :: _ :: _) (some 2) none))) = _
    rw [cutD2b]
  have hw0 : D.tup [.str x.1, .str x.2.f] = wayD x.1 x.2.f [] := rfl
  have hit : itemsD (.tup (q.map fun i => .int (i : Nat))) = some (q.map fun i => .int (i : Nat)) := rfl
  rw [← List.append_assoc, e_round_way]
  obtain ⟨S1, hS1⟩ : ∃ z, M ++ [.dK (kvS (parS x.1 x.2.f x.2.ps))] = z := ⟨_, rfl⟩
  rw [hS1] at h5 h9 ⊢
  obtain ⟨PL, hPL⟩ : ∃ z, x.2.ps.map D.str = z := ⟨_, rfl⟩
  rw [hPL] at h3 h5 h9
  obtain ⟨W, hW⟩ : ∃ z, wayD x.1 x.2.f q = z := ⟨_, rfl⟩
  rw [hW] at sl sl0 h5 ⊢
  obtain ⟨QL, hQL⟩ : ∃ z, (q.map fun i => D.int (i : Nat)) = z := ⟨_, rfl⟩
  rw [hQL] at sl h5 hit
  rw [← hw0] at h5
  obtain ⟨ED, hED⟩ : ∃ z, x.2.b.toD = z := ⟨_, rfl⟩
  rw [hED] at h3 h5
  obtain ⟨PD, hPD⟩ : ∃ z, pgD P = z := ⟨_, rfl⟩
  rw [hPD] at h3 h5 ⊢
  have h3' : sem (K + 3) f_function [PD, .str x.1, .str x.2.f] M = .ok (.val (.tup [.tup PL, ED])) M := h3
  have h9' : sem (K + 3) f_params_round [.str x.1, .str x.2.f, .tup PL] M = .ok (.val (.ref M.length)) S1 := h9
  rw [show K + 1 + 2 = K + 3 by omega] at h5
  simp [runF, m_round_way, startD, sl0, sl, bTup, bNames, h3', h9', hit, h5]
theorem binderof_ok {q : List Nat} {y : Str} {c : Bnd} (hs : Ex.sub x.2.b q = some (.use y)) (hc : lookS (Bx.scAtS x.1 x.2.f [] q (parS x.1 x.2.f x.2.ps) x.2.b) y = some c) (hq : q.length ≤ 800) (K : Nat) (M : Store) : ∃ X, sem (K + 5) f_binder_of [pgD P, wayD x.1 x.2.f q] M = .ok (.val c.toD) (M ++ X) := by
  obtain ⟨X, j, h1, h2⟩ := roundway_ok hfl hf hps hs hq K M
  have h3 := atway_ok K P (wayD x.1 x.2.f q) (M ++ X) hfl (by
    show ((D.str x.1 :: D.str x.2.f :: q.map fun i => D.int (i : Nat)).all plainT) = true
    rw [List.all_cons, List.all_cons, List.all_map]
    simp [plainT])
  have ha : atW P (wayD x.1 x.2.f q) = some (.use y) := by
    unfold atW wayD
    simp only [hf, subR_row, hs]
  rw [ha] at h3
  have hu : optD (some (.use y)) = .tup [.str "use", .str y] := rfl
  rw [hu] at h3
  have hi : ∀ N, idxD N (.tup [.str "use", .str y]) (.int 1) = some (.val (.str y)) := fun _ => rfl
  have hl := kvS_look y (Bx.scAtS x.1 x.2.f [] q (parS x.1 x.2.f x.2.ps) x.2.b)
  rw [hc] at hl
  have hg : dgetD (M ++ X) (.ref j) (.str y) = some (.val c.toD) := by
    simp [dgetD, dGetO, h2, keyD, hl]
  refine ⟨X, ?_⟩
  rw [e_binder_of]
  obtain ⟨S, hS⟩ : ∃ z, M ++ X = z := ⟨_, rfl⟩
  rw [hS] at h1 h3 hg ⊢
  obtain ⟨W, hW⟩ : ∃ z, wayD x.1 x.2.f q = z := ⟨_, rfl⟩
  rw [hW] at h1 h3 ⊢
  obtain ⟨PD, hPD⟩ : ∃ z, pgD P = z := ⟨_, rfl⟩
  rw [hPD] at h1 h3 ⊢
  obtain ⟨U, hU⟩ : ∃ z, D.tup [.str "use", .str y] = z := ⟨_, rfl⟩
  rw [hU] at h3 hi
  simp [runF, m_binder_of, startD, h1, h3, hi, hg]
end
end K06
namespace K06
open PySem L2 TP
set_option maxHeartbeats 4000000
def spX : List (Key × D) := mergeD ["op", "let", "if", "tell", "stop", "times"] [.tup [.int 2, .int 3], .tup [.int 2, .int 3], .tup [.int 1, .int 2, .int 3], .tup [.int 1, .int 2], .tup [.int 1], .tup [.int 1, .int 4, .int 5]]
theorem lspots_ok (k : Nat) (e : Ex) (M : Store) : sem (k + 1) f__law_spots [e.toD] M = .ok (.val (.tup (e.spots.map .int))) (M ++ [.dK spX]) := by
  have t1 : lookD spX (.inr "num") = none := rfl
  have t2 : lookD spX (.inr "use") = none := rfl
  have t3 : lookD spX (.inr "op") = some (.tup [.int 2, .int 3]) := rfl
  have t4 : lookD spX (.inr "let") = some (.tup [.int 2, .int 3]) := rfl
  have t5 : lookD spX (.inr "if") = some (.tup [.int 1, .int 2, .int 3]) := rfl
  have t6 : lookD spX (.inr "times") = some (.tup [.int 1, .int 4, .int 5]) := rfl
  have t7 : lookD spX (.inr "tell") = some (.tup [.int 1, .int 2]) := rfl
  have t8 : lookD spX (.inr "stop") = some (.tup [.int 1]) := rfl
  have t9 : lookD spX (.inr "call") = none := rfl
  have hX : mergeD ["op", "let", "if", "tell", "stop", "times"] [.tup [.int 2, .int 3], .tup [.int 2, .int 3], .tup [.int 1, .int 2, .int 3], .tup [.int 1, .int 2], .tup [.int 1], .tup [.int 1, .int 4, .int 5]] = spX := rfl
  rw [e__law_spots]
  generalize spX = Y at *
  cases e <;> simp [runF, m__law_spots, startD, Ex.toD, Ex.spots, dVals, hX, dGet2, dGetO, isDD, at_end, keyD, t1, t2, t3, t4, t5, t6, t7, t8, t9]
theorem lparts_ok (k : Nat) (e : Ex) (M : Store) : ∃ X, sem (k + 2) f__law_parts [e.toD] M = .ok (.own (e.parts.map Ex.toD)) (M ++ X) := by
  have hs := lspots_ok k e
  rw [e__law_parts]
  cases e
  case call m f as =>
    exact ⟨[], by simp [runF, m__law_parts, startD, Ex.toD, Ex.parts, listD, elemsD, Ex.toDs_eq]⟩
  all_goals exact ⟨[.dK spX], by simp [Ex.toD, Ex.spots] at hs; simp [runF, m__law_parts, startD, Ex.toD, Ex.parts, hs, el__law_parts_0_eq, itemsD, lcGo, wipeD]⟩
theorem lrow_go (Φ : Nat → Fn) (k : Nat) (s0 s1 s3 : Slot) (M : Store) (rs : List (List Nat)) (hl : rs.length ≤ 1000000) (hr : ∀ r ∈ rs, r.length ≤ 1000) :
    lcGo (bName 4) dYes (el__law_rows_0 Φ) [s0, s1, .val (.int k), s3, .un] (rs.map rowD) [] M = .ok ((rs.map (k :: ·)).map rowD) M := by
  rw [lcGo_mp rowD (fun r => rowD (k :: r)) rs (fun r hm => ⟨_, rfl, ?_⟩) hl, List.map_map]
  · rfl
  · have := hr r hm
    have h2 : r.length + 1 ≤ 16777216 := by omega
    have h3 : 1 + r.length ≤ 16777216 := by omega
    have h4 : r.length < 16777216 := by omega
    simp [el__law_rows_0_eq, rowD, addD, h2, h3, h4]
theorem lrows_ok : ∀ (n : Nat) (e : Ex) (M : Store), e.dep ≤ n → n ≤ 500 → e.cnt ≤ 1000000 → ∃ X, sem (n + 3) f__law_rows [e.toD] M = .ok (.own (e.rows.map rowD)) (M ++ X)
  | n, e, M, hd, hn, hc => by
    have key : ∀ (ps : List Ex) (k : Nat) (acc : List D) (N : Store) (s2 s3 : Slot), (∀ p ∈ ps, p ∈ e.parts) → acc.length + (Ex.rowsL k ps).length ≤ 1000000 → ∃ X s2' s3', forGo (bTup [2, 3]) (lp__law_rows_0 (sem (n + 2))) (enumF k (ps.map Ex.toD)) [.val e.toD, .own acc, s2, s3, .un] N = .next [.val e.toD, .own (acc ++ (Ex.rowsL k ps).map rowD), s2', s3', .un] (N ++ X) := by
      intro ps
      induction ps with
      | nil => intro k acc N s2 s3 _ _; exact ⟨[], s2, s3, by simp [enumF, forGo, Ex.rowsL]⟩
      | cons p ps ih =>
        intro k acc N s2 s3 hps hl
        have hpe := hps p List.mem_cons_self
        have hpd := Ex.parts_dep hpe
        have hpc := Ex.parts_cnt hpe
        obtain ⟨m, rfl⟩ : ∃ m, n = m + 1 := ⟨n - 1, by omega⟩
        obtain ⟨X1, h1⟩ := lrows_ok m p N (by omega) (by omega) (by omega)
        have hrl := Ex.rows_len m (e := p) (by omega)
        rw [Ex.rowsL, List.length_append, List.length_map] at hl
        obtain ⟨X2, t2, t3, h2⟩ := ih (k + 1) (acc ++ ((p.rows.map (k :: ·)).map rowD)) (N ++ X1) (.val (.int k)) (.val p.toD) (fun q hq => hps q (List.mem_cons_of_mem _ hq)) (by simp; omega)
        refine ⟨X1 ++ X2, t2, t3, ?_⟩
        have hg := lrow_go (sem (m + 1 + 2)) k (.val e.toD) (.own acc) (.val p.toD) (N ++ X1) p.rows (by omega) (fun r hr => by have := Ex.rows_lens m (e := p) (by omega) hr; omega)
        rw [List.map_cons, enumF]
        unfold forGo
        have hz : acc.length + (((p.rows.map (k :: ·)).map rowD)).length ≤ sizeLine := by rw [szL, List.length_map, List.length_map]; omega
        generalize hRR : ((p.rows.map (k :: ·)).map rowD) = RR at *
        generalize hkI : ((k : Nat) : Int) = kI at *
        simp [lp__law_rows_0_eq, bTup, bNames, h1, itemsD, wipeD, hg, lstOf]
        rw [szL] at hz
        rw [if_pos hz]
        simp only
        rw [h2, Ex.rowsL, List.map_append, hRR, List.append_assoc, List.append_assoc]
    obtain ⟨X0, h0⟩ := lparts_ok n e M
    have hrl := Ex.rows_len n hd
    rw [Ex.rows_eq, List.length_cons] at hrl
    obtain ⟨X, t2, t3, h⟩ := key e.parts 0 [.tup []] (M ++ X0) .un .un (fun _ h => h) (by simp; omega)
    refine ⟨X0 ++ X, ?_⟩
    rw [e__law_rows]
    simp [runF, m__law_rows, startD, h0, enumL_eq, h]
    rw [Ex.rows_eq]
    rfl
end K06
namespace K06
open PySem L2 TP
open BRep
set_option maxHeartbeats 8000000
theorem tup_app (N : Store) (a b : List D) (h : a.length + b.length ≤ 16777216) : addD N (.tup a) (.tup b) = some (.val (.tup (a ++ b))) := by
  show (if a.length + b.length ≤ sizeLine then some (Slot.val (.tup (a ++ b))) else none) = _
  rw [if_pos (by rw [szL]; exact h)]
theorem sl_drop2 (N : Store) (m f : Str) (q : List Nat) : slD N (wayD m f q) (some 2) none = some (.val (rowD q)) := by
  show some (Slot.val (.tup (cutD (_ :: _ :: _) (some 2) none))) = _
  rw [cutD2b]; rfl
theorem sl_last (N : Store) (r : List Nat) (k : Nat) : slD N (rowD (r ++ [k])) none (some (-1)) = some (.val (rowD r)) := by
  show some (Slot.val (.tup (cutD _ none (some (-1))))) = _
  have e2 : HT.sIx ((r ++ [k]).map fun i => D.int (i : Nat)).length ((r ++ [k]).map fun i => D.int (i : Nat)).length (some (-1)) = r.length := by
    unfold HT.sIx
    simp only [List.length_map, List.length_append, List.length_singleton]
    rw [if_pos (by omega)]
    omega
  unfold cutD
  rw [e2, show HT.sIx ((r ++ [k]).map fun i => D.int (i : Nat)).length 0 none = 0 from rfl, List.drop_zero, Nat.sub_zero, List.map_append, List.take_left' (by rw [List.length_map])]
  rfl
theorem idx_last (N : Store) (r : List Nat) (k : Nat) : idxD N (rowD (r ++ [k])) (.int (-1)) = some (.val (.int (k : Nat))) := by
  unfold rowD
  rw [idxD_tup]
  have : atI ((r ++ [k]).map fun i => D.int (i : Nat)) (-1) = some (.int (k : Nat)) := by
    unfold atI
    have hx : ixN ((r ++ [k]).map fun i => D.int (i : Nat)).length (-1) = some r.length := by
      unfold ixN
      simp only [List.length_map, List.length_append, List.length_singleton]
      simp
      omega
    rw [hx]
    simp
  rw [this]; rfl
theorem ne_row (N : Store) (r : List Nat) : neD N (rowD r) (.tup []) = some (.val (.bl (decide (r ≠ [])))) := by
  obtain ⟨h1, h2⟩ := goodW_ints r
  have g : goodD (rowD r) = true := by unfold rowD; rw [goodD]; exact h1
  have d : dpD (rowD r) ≤ 190 := by unfold rowD; rw [dpD, h2]; omega
  have e := neD_of (M := N) g (show goodD (.tup []) = true from rfl) d
  rw [e]
  cases r with
  | nil => rfl
  | cons i r => rfl
section
variable {P : Pr} {x : Str × Row} (hfl : (flat P).length ≤ 1000) (hf : findF P x.1 x.2.f = some x)
include hfl hf
theorem nameof_par {k : Nat} {y : Str} (hk : x.2.ps[k]? = some y) (K : Nat) (M : Store) : ∃ X, sem (K + 5) f_name_of [pgD P, (Bnd.par x.1 x.2.f k).toD] M = .ok (.val (.str y)) (M ++ X) := by
  have h3 := function_ok (K + 2) P x.1 x.2.f M hfl
  have hf' : (flat P).find? (isF x.1 x.2.f) = some x := hf
  rw [hf'] at h3
  simp only [pbD] at h3
  refine ⟨[], ?_⟩
  rw [List.append_nil, e_name_of]
  have h3' : sem (K + 4) f_function [pgD P, .str x.1, .str x.2.f] M = .ok (.val (.tup [.tup (x.2.ps.map .str), x.2.b.toD])) M := h3
  have hd : (Bnd.par x.1 x.2.f k).toD = .tup [.str "param", .str x.1, .str x.2.f, .int (k : Nat)] := rfl
  rw [hd]
  have i0 : ∀ N, idxD N (.tup [.str "param", .str x.1, .str x.2.f, .int (k : Nat)]) (.int 0) = some (.val (.str "param")) := fun _ => rfl
  have i1 : ∀ N, idxD N (.tup [.str "param", .str x.1, .str x.2.f, .int (k : Nat)]) (.int 1) = some (.val (.str x.1)) := fun _ => rfl
  have i2 : ∀ N, idxD N (.tup [.str "param", .str x.1, .str x.2.f, .int (k : Nat)]) (.int 2) = some (.val (.str x.2.f)) := fun _ => rfl
  have i3 : ∀ N, idxD N (.tup [.str "param", .str x.1, .str x.2.f, .int (k : Nat)]) (.int 3) = some (.val (.int (k : Nat))) := fun _ => rfl
  have e0 : ∀ N, eqD N (.str "param") (.str "param") = some (.val (.bl true)) := fun N => eqW (s := "param") (t := "param") (b := true) (by decide +kernel) N
  have j0 : ∀ N, idxD N (.tup [.tup (x.2.ps.map .str), x.2.b.toD]) (.int 0) = some (.val (.tup (x.2.ps.map .str))) := fun _ => rfl
  have jk : ∀ N, idxD N (.tup (x.2.ps.map .str)) (.int (k : Nat)) = some (.val (.str y)) := fun N => idx_tuple N _ _ (by rw [List.getElem?_map, hk]; rfl)
  obtain ⟨T, hT⟩ : ∃ z, D.tup [.str "param", .str x.1, .str x.2.f, .int (k : Nat)] = z := ⟨_, rfl⟩
  rw [hT] at i0 i1 i2 i3 ⊢
  obtain ⟨B, hB⟩ : ∃ z, D.tup [.tup (x.2.ps.map .str), x.2.b.toD] = z := ⟨_, rfl⟩
  rw [hB] at h3' j0
  obtain ⟨PS, hPS⟩ : ∃ z, D.tup (x.2.ps.map .str) = z := ⟨_, rfl⟩
  rw [hPS] at j0 jk
  obtain ⟨KI, hKI⟩ : ∃ z : Int, ((k : Nat) : Int) = z := ⟨_, rfl⟩
  rw [hKI] at i3 jk
  obtain ⟨PD, hPD⟩ : ∃ z, pgD P = z := ⟨_, rfl⟩
  rw [hPD] at h3' ⊢
  simp [runF, m_name_of, startD, i0, i1, i2, i3, e0, h3', j0, jk]
def nmT : List (Key × D) := mergeD ["let", "count", "sum"] [.int 1, .int 2, .int 3]
theorem nameof_way {q : List Nat} {p : Ex} {s y : Str} {i : Int} (hs : Ex.sub x.2.b q = some p) (hne : ∀ N, eqD N (.str s) (.str "param") = some (.val (.bl false))) (ht : lookD nmT (.inr s) = some (.int i)) (hi : ∀ N, idxD N p.toD (.int i) = some (.val (.str y))) (K : Nat) (M : Store) :
    ∃ X, sem (K + 5) f_name_of [pgD P, .tup [.str s, wayD x.1 x.2.f q]] M = .ok (.val (.str y)) (M ++ X) := by
  have h3 := atway_ok K P (wayD x.1 x.2.f q) M hfl (by
    show ((D.str x.1 :: D.str x.2.f :: q.map fun i => D.int (i : Nat)).all plainT) = true
    rw [List.all_cons, List.all_cons, List.all_map]
    simp [plainT])
  have ha : atW P (wayD x.1 x.2.f q) = some p := by
    unfold atW wayD
    simp only [hf, subR_row, hs]
  rw [ha] at h3
  have hu : optD (some p) = p.toD := rfl
  rw [hu] at h3
  refine ⟨[.dK nmT], ?_⟩
  have i0 : ∀ N, idxD N (.tup [.str s, wayD x.1 x.2.f q]) (.int 0) = some (.val (.str s)) := fun _ => rfl
  have i1 : ∀ N, idxD N (.tup [.str s, wayD x.1 x.2.f q]) (.int 1) = some (.val (wayD x.1 x.2.f q)) := fun _ => rfl
  have hX : mergeD ["let", "count", "sum"] [.int 1, .int 2, .int 3] = nmT := rfl
  have hg : dgetD (M ++ [.dK nmT]) (.ref M.length) (.str s) = some (.val (.int i)) := by
    simp [dgetD, dGetO, at_end, keyD, ht]
  rw [e_name_of]
  obtain ⟨S, hS⟩ : ∃ z, M ++ [MO.dK nmT] = z := ⟨_, rfl⟩
  rw [hS] at hg ⊢
  obtain ⟨T, hT⟩ : ∃ z, D.tup [.str s, wayD x.1 x.2.f q] = z := ⟨_, rfl⟩
  rw [hT] at i0 i1 ⊢
  obtain ⟨W, hW⟩ : ∃ z, wayD x.1 x.2.f q = z := ⟨_, rfl⟩
  rw [hW] at h3 i1
  obtain ⟨PD, hPD⟩ : ∃ z, pgD P = z := ⟨_, rfl⟩
  rw [hPD] at h3 ⊢
  obtain ⟨ED, hED⟩ : ∃ z, p.toD = z := ⟨_, rfl⟩
  rw [hED] at h3 hi
  simp [runF, m_name_of, startD, i0, i1, hne, h3, dVals, hX, hS, hg, hi]
theorem nameof_lt {q : List Nat} {y : Str} {a b : Ex} (hs : Ex.sub x.2.b q = some (.lt y a b)) (K : Nat) (M : Store) : ∃ X, sem (K + 5) f_name_of [pgD P, (Bnd.lt x.1 x.2.f q).toD] M = .ok (.val (.str y)) (M ++ X) :=
  nameof_way hfl hf hs (fun N => eqW (s := "let") (t := "param") (b := false) (by decide +kernel) N) (i := 1) rfl (fun _ => rfl) K M
theorem nameof_cnt {q : List Nat} {i s : Str} {a b c : Ex} (hs : Ex.sub x.2.b q = some (.times a i s b c)) (K : Nat) (M : Store) : ∃ X, sem (K + 5) f_name_of [pgD P, (Bnd.cnt x.1 x.2.f q).toD] M = .ok (.val (.str i)) (M ++ X) :=
  nameof_way hfl hf hs (fun N => eqW (s := "count") (t := "param") (b := false) (by decide +kernel) N) (i := 2) rfl (fun _ => rfl) K M
theorem nameof_sm {q : List Nat} {i s : Str} {a b c : Ex} (hs : Ex.sub x.2.b q = some (.times a i s b c)) (K : Nat) (M : Store) : ∃ X, sem (K + 5) f_name_of [pgD P, (Bnd.sm x.1 x.2.f q).toD] M = .ok (.val (.str s)) (M ++ X) :=
  nameof_way hfl hf hs (fun N => eqW (s := "sum") (t := "param") (b := false) (by decide +kernel) N) (i := 3) rfl (fun _ => rfl) K M
end
theorem lat_loop (K : Nat) (s1 : Slot) : ∀ (r : List Nat) (e p : Ex) (s2 : Slot) (M : Store), Ex.sub e r = some p →
    ∃ X t2, forGo (bName 2) (lp__law_at_0 (sem (K + 2))) (r.map fun i => .int (i : Nat)) [.val e.toD, s1, s2] M = .next [.val p.toD, s1, t2] (M ++ X)
  | [], e, p, s2, M, h => by rw [Ex.sub] at h; cases h; exact ⟨[], s2, by simp [forGo]⟩
  | i :: r, e, p, s2, M, h => by
    rw [Ex.sub] at h
    split at h
    · rename_i q hq
      obtain ⟨X1, h1⟩ := lparts_ok K e M
      obtain ⟨X2, t2, h2⟩ := lat_loop K s1 r q p (.val (.int i)) (M ++ X1) h
      refine ⟨X1 ++ X2, t2, ?_⟩
      have hat := idx_list (M ++ X1) (e.parts.map Ex.toD) i (d := q.toD) (by rw [List.getElem?_map, hq]; rfl)
      rw [List.map_cons, ← List.append_assoc, ← h2]
      refine forGo_step rfl ?_
      obtain ⟨S, hS⟩ : ∃ z, M ++ X1 = z := ⟨_, rfl⟩
      rw [hS] at h1 hat ⊢
      obtain ⟨PD, hPD⟩ : ∃ z, e.parts.map Ex.toD = z := ⟨_, rfl⟩
      rw [hPD] at h1 hat
      obtain ⟨iz, hiz⟩ : ∃ z : Int, ((i : Nat) : Int) = z := ⟨_, rfl⟩
      rw [hiz] at hat ⊢
      obtain ⟨ED, hED⟩ : ∃ z, e.toD = z := ⟨_, rfl⟩
      rw [hED] at h1 ⊢
      rw [lp__law_at_0_eq]
      simp [h1, hat]
    · cases h
theorem lat_ok (K : Nat) {r : List Nat} {e p : Ex} (hs : Ex.sub e r = some p) (M : Store) : ∃ X, sem (K + 3) f__law_at [e.toD, rowD r] M = .ok (.val p.toD) (M ++ X) := by
  obtain ⟨X, t2, h⟩ := lat_loop K (.val (rowD r)) r e p .un M hs
  refine ⟨X, ?_⟩
  rw [e__law_at]
  have hit : itemsD (rowD r) = some (r.map fun i => .int (i : Nat)) := rfl
  obtain ⟨R, hR⟩ : ∃ z, rowD r = z := ⟨_, rfl⟩
  rw [hR] at h hit ⊢
  simp [runF, m__law_at, startD, hit, h]
end K06
namespace K06
open PySem L2 TP
open BRep
set_option maxHeartbeats 4000000
theorem idxS_of {y : Str} : ∀ {ys : List Str} {j : Nat}, idxS y ys = some j → ((ys.map D.str).map fun e => eqvD e (.str y)).idxOf true = j ∧ y ∈ ys
  | x :: ys, j, h => by
    rw [idxS] at h
    rw [List.map_cons, List.map_cons, List.idxOf_cons, eqvD_str]
    by_cases c : x = y
    · rw [if_pos c] at h
      cases h
      rw [decide_eq_true c]
      exact ⟨rfl, by rw [c]; exact List.mem_cons_self⟩
    · rw [if_neg c] at h
      obtain ⟨k, hk, e⟩ := Option.map_eq_some_iff.mp h
      obtain ⟨h1, h2⟩ := idxS_of hk
      rw [decide_eq_false c]
      refine ⟨?_, List.mem_cons_of_mem _ h2⟩
      show _ + 1 = j
      rw [h1]; exact e
theorem good_strs : ∀ {ys : List Str}, (∀ z ∈ ys, okStr z = true) → goodL (ys.map D.str) = true ∧ dpL (ys.map D.str) = 0
  | [], _ => ⟨rfl, rfl⟩
  | x :: ys, h => by
    obtain ⟨h1, h2⟩ := good_strs (ys := ys) fun z hz => h z (List.mem_cons_of_mem _ hz)
    have hx : goodD (.str x) = true := h x List.mem_cons_self
    rw [List.map_cons, goodL, dpL, hx, h1, h2]
    exact ⟨rfl, rfl⟩
theorem tidx {ys : List Str} {y : Str} {j : Nat} (h : ∀ z ∈ ys, okStr z = true) (hy : okStr y = true) (hj : idxS y ys = some j) (N : Store) : tupIdxE N (.tup (ys.map .str)) [.str y] = some (.val (.int (j : Nat))) := by
  obtain ⟨g1, g2⟩ := good_strs h
  obtain ⟨i1, i2⟩ := idxS_of hj
  have g3 : goodD (.str y) = true := hy
  have ha : ((ys.map D.str).any fun e => eqvD e (.str y)) = true := List.any_eq_true.mpr ⟨_, List.mem_map.mpr ⟨y, i2, rfl⟩, by rw [eqvD_str]; simp⟩
  unfold tupIdxE
  simp only
  rw [g1, g3, g2, ha, i1]
  rfl
theorem sub_snoc : ∀ {q : List Nat} {e u : Ex} {k : Nat}, Ex.sub e (q ++ [k]) = some u → ∃ p, Ex.sub e q = some p ∧ p.parts[k]? = some u
  | [], e, u, k, h => by
    refine ⟨e, rfl, ?_⟩
    rw [List.nil_append, Ex.sub] at h
    cases hk : e.parts[k]? with
    | none => rw [hk] at h; cases h
    | some p => rw [hk] at h; cases h; rfl
  | i :: q, e, u, k, h => by
    rw [List.cons_append, Ex.sub_cons] at h
    cases hi : e.parts[i]? with
    | none => rw [hi] at h; cases h
    | some p =>
      rw [hi] at h
      obtain ⟨v, h1, h2⟩ := sub_snoc h
      exact ⟨v, by rw [Ex.sub_cons, hi]; exact h1, h2⟩
theorem scAt_snoc (m f : Str) : ∀ (q r0 : List Nat) (sc : Sco) (e p u : Ex) (k : Nat), Ex.sub e q = some p → p.parts[k]? = some u → Bx.scAtS m f r0 (q ++ [k]) sc e = Bx.moreS m f (r0 ++ q) (Bx.scAtS m f r0 q sc e) p k
  | [], r0, sc, e, p, u, k, h, hk => by
    rw [Ex.sub] at h
    cases h
    have e1 : Bx.scAtS m f r0 [k] sc e = Bx.moreS m f r0 sc e k := by
      rw [Bx.scAtS, hk]
      simp only
      rw [Bx.scAtS]
    have e2 : Bx.scAtS m f r0 [] sc e = sc := by rw [Bx.scAtS]
    rw [List.nil_append, List.append_nil, e1, e2]
  | i :: q, r0, sc, e, p, u, k, h, hk => by
    rw [Ex.sub_cons] at h
    cases hi : e.parts[i]? with
    | none => rw [hi] at h; cases h
    | some e1 =>
      rw [hi] at h
      have ih := scAt_snoc m f q (r0 ++ [i]) (Bx.moreS m f r0 sc e i) e1 p u k h hk
      rw [List.cons_append, Bx.scAtS, Bx.scAtS, hi]
      simp only
      rw [ih, List.append_assoc]
      rfl
theorem eq_names {x y : Str} (hx : okStr x = true) (hy : okStr y = true) (N : Store) : eqD N (.str x) (.str y) = some (.val (.bl (decide (x = y)))) := by
  have e := eqD_of (M := N) (x := .str x) (y := .str y) hx hy (by rw [show dpD (.str x) = 0 from rfl]; omega)
  rw [e, eqvD_str]
theorem in_two (N : Store) (y a b : Str) : inD N (.str y) (.tup [.str a, .str b]) = some (.val (.bl (decide (a = y) || decide (b = y)))) := by
  have hfl : (flatD (.str y) && [D.str a, .str b].all flatD) = true := rfl
  show (if (flatD (.str y) && [D.str a, .str b].all flatD) = true then some (Slot.val (.bl ([D.str a, .str b].any fun d => eqvD d (.str y)))) else none) = _
  rw [if_pos hfl, List.any_cons, List.any_cons, eqvD_str, eqvD_str, List.any_nil, Bool.or_false]
section
variable (m f : Str) (q0 : List Nat) (body : Ex) (y : Str) (K : Nat) (s1 : Slot)
theorem near_turn {rr : List Nat} {p : Ex} (hp : Ex.sub body rr = some p) (k : Nat) (s5 s6 : Slot) (N : Store) {wd : Str} (hw : ∀ N, idxD N p.toD (.int 0) = some (.val (.str wd))) {b1 b2 : Bool} (h1 : ∀ N, eqD N (.str wd) (.str "let") = some (.val (.bl b1))) (h2 : ∀ N, eqD N (.str wd) (.str "times") = some (.val (.bl b2)))
    (c1 : b1 = true → k = 1 → ∃ d, (∀ N, idxD N p.toD (.int 1) = some (.val d)) ∧ ∀ N, eqD N d (.str y) = some (.val (.bl false))) (c2 : b2 = true → k = 2 → ∃ d, (∀ N, slD N p.toD (some 2) (some 4) = some (.val d)) ∧ ∀ N, inD N (.str y) d = some (.val (.bl false))) :
    ∃ X, wh__law_nearest_0 (sem (K + 3)) [.val (wayD m f q0), s1, .val body.toD, .val (rowD (rr ++ [k])), .val (.str y), s5, s6] N = .next [.val (wayD m f q0), s1, .val body.toD, .val (rowD rr), .val (.str y), .val p.toD, .val (.int (k : Nat))] (N ++ X) := by
  obtain ⟨X, hat⟩ := lat_ok K hp N
  refine ⟨X, ?_⟩
  have sl := fun N => sl_last N rr k
  have ix := fun N => idx_last N rr k
  have ng : ∀ N, negD N (.int 1) = some (.val (.int (-1))) := fun _ => rfl
  have k1 : ∀ N, eqD N (.int (k : Nat)) (.int 1) = some (.val (.bl (decide (((k : Nat) : Int) = 1)))) := fun N => eqD_int _ _ _
  have k2 : ∀ N, eqD N (.int (k : Nat)) (.int 2) = some (.val (.bl (decide (((k : Nat) : Int) = 2)))) := fun N => eqD_int _ _ _
  obtain ⟨z1, hz1⟩ : ∃ z, decide (((k : Nat) : Int) = 1) = z := ⟨_, rfl⟩
  obtain ⟨z2, hz2⟩ : ∃ z, decide (((k : Nat) : Int) = 2) = z := ⟨_, rfl⟩
  simp only [hz1] at k1
  simp only [hz2] at k2
  have c1' : b1 = true → z1 = true → ∃ d, (∀ N, idxD N p.toD (.int 1) = some (.val d)) ∧ ∀ N, eqD N d (.str y) = some (.val (.bl false)) := fun a b => c1 a (by rw [← hz1, decide_eq_true_eq] at b; omega)
  have c2' : b2 = true → z2 = true → ∃ d, (∀ N, slD N p.toD (some 2) (some 4) = some (.val d)) ∧ ∀ N, inD N (.str y) d = some (.val (.bl false)) := fun a b => c2 a (by rw [← hz2, decide_eq_true_eq] at b; omega)
  clear c1 c2 hz1 hz2
  obtain ⟨S, hS⟩ : ∃ z, N ++ X = z := ⟨_, rfl⟩
  rw [hS] at hat ⊢
  obtain ⟨R, hR⟩ : ∃ z, rowD (rr ++ [k]) = z := ⟨_, rfl⟩
  simp only [hR] at sl ix ⊢
  obtain ⟨R2, hR2⟩ : ∃ z, rowD rr = z := ⟨_, rfl⟩
  simp only [hR2] at sl hat ⊢
  obtain ⟨KI, hKI⟩ : ∃ z : Int, ((k : Nat) : Int) = z := ⟨_, rfl⟩
  simp only [hKI] at ix k1 k2 ⊢
  obtain ⟨ED, hED⟩ : ∃ z, p.toD = z := ⟨_, rfl⟩
  simp only [hED] at hat hw c1' c2' ⊢
  obtain ⟨BD, hBD⟩ : ∃ z, body.toD = z := ⟨_, rfl⟩
  simp only [hBD] at hat ⊢
  obtain ⟨W, hW⟩ : ∃ z, wayD m f q0 = z := ⟨_, rfl⟩
  simp only [hW] at ⊢
  have hat' : sem (K + 3) f__law_at [BD, R2] N = .ok (.val ED) S := hat
  rw [wh__law_nearest_0_eq]
  cases b1 with
  | true =>
    cases z1 with
    | true =>
      obtain ⟨d, i1, e1⟩ := c1' rfl rfl
      cases b2 with
      | true =>
        cases z2 with
        | true =>
          obtain ⟨d2, i2, e2⟩ := c2' rfl rfl
          simp [-eqD_int, sl, ix, ng, hat', hw, h1, h2, k1, k2, i1, e1, i2, e2]
        | false => simp [-eqD_int, sl, ix, ng, hat', hw, h1, h2, k1, k2, i1, e1]
      | false => simp [-eqD_int, sl, ix, ng, hat', hw, h1, h2, k1, k2, i1, e1]
    | false =>
      cases b2 with
      | true =>
        cases z2 with
        | true =>
          obtain ⟨d2, i2, e2⟩ := c2' rfl rfl
          simp [-eqD_int, sl, ix, ng, hat', hw, h1, h2, k1, k2, i2, e2]
        | false => simp [-eqD_int, sl, ix, ng, hat', hw, h1, h2, k1, k2]
      | false => simp [-eqD_int, sl, ix, ng, hat', hw, h1, h2, k1, k2]
  | false =>
    cases b2 with
    | true =>
      cases z2 with
      | true =>
        obtain ⟨d2, i2, e2⟩ := c2' rfl rfl
        simp [-eqD_int, sl, ix, ng, hat', hw, h1, h2, k1, k2, i2, e2]
      | false => simp [-eqD_int, sl, ix, ng, hat', hw, h1, h2, k1, k2]
    | false => simp [-eqD_int, sl, ix, ng, hat', hw, h1, h2, k1, k2]
theorem way_join (N : Store) (rr : List Nat) (hl : rr.length ≤ 900) : addD N (.tup [.str m, .str f]) (rowD rr) = some (.val (wayD m f rr)) := by
  have := tup_app N [.str m, .str f] (rr.map fun i => D.int (i : Nat)) (by simp; omega)
  exact this
theorem near_let {rr : List Nat} {a b : Ex} (hp : Ex.sub body rr = some (.lt y a b)) (hy : okStr y = true) (hl : rr.length ≤ 900) (s5 s6 : Slot) (N : Store) :
    ∃ X, wh__law_nearest_0 (sem (K + 3)) [.val (wayD m f q0), s1, .val body.toD, .val (rowD (rr ++ [1])), .val (.str y), s5, s6] N = .ret (.val (Bnd.lt m f rr).toD) (N ++ X) := by
  obtain ⟨X, hat⟩ := lat_ok K hp N
  refine ⟨X, ?_⟩
  have sl := fun N => sl_last N rr 1
  have ix := fun N => idx_last N rr 1
  have ng : ∀ N, negD N (.int 1) = some (.val (.int (-1))) := fun _ => rfl
  have i0 : ∀ N, idxD N (Ex.lt y a b).toD (.int 0) = some (.val (.str "let")) := fun _ => rfl
  have i1 : ∀ N, idxD N (Ex.lt y a b).toD (.int 1) = some (.val (.str y)) := fun _ => rfl
  have e0 : ∀ N, eqD N (.str "let") (.str "let") = some (.val (.bl true)) := fun N => eqW (s := "let") (t := "let") (b := true) (by decide +kernel) N
  have e1 : ∀ N, eqD N (.str y) (.str y) = some (.val (.bl true)) := fun N => by rw [eq_names hy hy, decide_eq_true rfl]
  have k1 : ∀ N, eqD N (.int ((1 : Nat) : Int)) (.int 1) = some (.val (.bl true)) := fun _ => rfl
  have wc := fun N => way_cut N m f q0
  have wj := fun N => way_join m f N rr hl
  have hd : (Bnd.lt m f rr).toD = .tup [.str "let", wayD m f rr] := rfl
  rw [hd]
  obtain ⟨S, hS⟩ : ∃ z, N ++ X = z := ⟨_, rfl⟩
  rw [hS] at hat ⊢
  obtain ⟨R, hR⟩ : ∃ z, rowD (rr ++ [1]) = z := ⟨_, rfl⟩
  simp only [hR] at sl ix ⊢
  obtain ⟨R2, hR2⟩ : ∃ z, rowD rr = z := ⟨_, rfl⟩
  simp only [hR2] at sl hat wj ⊢
  obtain ⟨KI, hKI⟩ : ∃ z : Int, ((1 : Nat) : Int) = z := ⟨_, rfl⟩
  rw [hKI] at k1
  simp only [hKI] at ix
  obtain ⟨ED, hED⟩ : ∃ z, (Ex.lt y a b).toD = z := ⟨_, rfl⟩
  simp only [hED] at hat i0 i1 ⊢
  obtain ⟨BD, hBD⟩ : ∃ z, body.toD = z := ⟨_, rfl⟩
  simp only [hBD] at hat ⊢
  obtain ⟨W, hW⟩ : ∃ z, wayD m f q0 = z := ⟨_, rfl⟩
  simp only [hW] at wc ⊢
  obtain ⟨W2, hW2⟩ : ∃ z, wayD m f rr = z := ⟨_, rfl⟩
  simp only [hW2] at wj ⊢
  have hat' : sem (K + 3) f__law_at [BD, R2] N = .ok (.val ED) S := hat
  rw [wh__law_nearest_0_eq]
  simp [-eqD_int, sl, ix, ng, hat', i0, i1, e0, e1, k1, wc, wj]
theorem near_times {rr : List Nat} {a b c : Ex} {i s w : Str} {j : Nat} (hoi : okStr i = true) (hos : okStr s = true) (hoy : okStr y = true) (hp : Ex.sub body rr = some (.times a i s b c)) (hin : decide (i = y) || decide (s = y)) (hj : idxS y [i, s] = some j) (hw : ∀ N, idxD N (.lst [.str "count", .str "sum"]) (.int (j : Nat)) = some (.val (.str w))) (hl : rr.length ≤ 900) (s5 s6 : Slot) (N : Store) :
    ∃ X, wh__law_nearest_0 (sem (K + 3)) [.val (wayD m f q0), s1, .val body.toD, .val (rowD (rr ++ [2])), .val (.str y), s5, s6] N = .ret (.val (.tup [.str w, wayD m f rr])) (N ++ X) := by
  obtain ⟨X, hat⟩ := lat_ok K hp N
  refine ⟨X, ?_⟩
  have sl := fun N => sl_last N rr 2
  have ix := fun N => idx_last N rr 2
  have ng : ∀ N, negD N (.int 1) = some (.val (.int (-1))) := fun _ => rfl
  have i0 : ∀ N, idxD N (Ex.times a i s b c).toD (.int 0) = some (.val (.str "times")) := fun _ => rfl
  have s24 : ∀ N, slD N (Ex.times a i s b c).toD (some 2) (some 4) = some (.val (.tup [.str i, .str s])) := fun _ => rfl
  have e0 : ∀ N, eqD N (.str "times") (.str "let") = some (.val (.bl false)) := fun N => eqW (s := "times") (t := "let") (b := false) (by decide +kernel) N
  have e1 : ∀ N, eqD N (.str "times") (.str "times") = some (.val (.bl true)) := fun N => eqW (s := "times") (t := "times") (b := true) (by decide +kernel) N
  have k2 : ∀ N, eqD N (.int ((2 : Nat) : Int)) (.int 2) = some (.val (.bl true)) := fun _ => rfl
  have hi : ∀ N, inD N (.str y) (.tup [.str i, .str s]) = some (.val (.bl true)) := fun N => by rw [in_two, hin]
  have ti : ∀ N, tupIdxE N (.tup [.str i, .str s]) [.str y] = some (.val (.int (j : Nat))) := fun N => tidx (ys := [i, s]) (fun z hz => by
    simp only [List.mem_cons, List.not_mem_nil, or_false] at hz
    rcases hz with rfl | rfl
    · exact hoi
    · exact hos) hoy hj N
  have wc := fun N => way_cut N m f q0
  have wj := fun N => way_join m f N rr hl
  obtain ⟨S, hS⟩ : ∃ z, N ++ X = z := ⟨_, rfl⟩
  rw [hS] at hat ⊢
  obtain ⟨R, hR⟩ : ∃ z, rowD (rr ++ [2]) = z := ⟨_, rfl⟩
  simp only [hR] at sl ix ⊢
  obtain ⟨R2, hR2⟩ : ∃ z, rowD rr = z := ⟨_, rfl⟩
  simp only [hR2] at sl hat wj ⊢
  obtain ⟨KI, hKI⟩ : ∃ z : Int, ((2 : Nat) : Int) = z := ⟨_, rfl⟩
  rw [hKI] at k2
  simp only [hKI] at ix
  obtain ⟨JI, hJI⟩ : ∃ z : Int, ((j : Nat) : Int) = z := ⟨_, rfl⟩
  simp only [hJI] at ti hw
  obtain ⟨ED, hED⟩ : ∃ z, (Ex.times a i s b c).toD = z := ⟨_, rfl⟩
  simp only [hED] at hat i0 s24 ⊢
  obtain ⟨BD, hBD⟩ : ∃ z, body.toD = z := ⟨_, rfl⟩
  simp only [hBD] at hat ⊢
  obtain ⟨W, hW⟩ : ∃ z, wayD m f q0 = z := ⟨_, rfl⟩
  simp only [hW] at wc ⊢
  obtain ⟨W2, hW2⟩ : ∃ z, wayD m f rr = z := ⟨_, rfl⟩
  simp only [hW2] at wj ⊢
  obtain ⟨CS, hCS⟩ : ∃ z, D.lst [.str "count", .str "sum"] = z := ⟨_, rfl⟩
  simp only [hCS] at hw
  have hat' : sem (K + 3) f__law_at [BD, R2] N = .ok (.val ED) S := hat
  rw [wh__law_nearest_0_eq]
  simp [-eqD_int, sl, ix, ng, hat', i0, s24, e0, e1, k2, hi, dMethK, ti, wc, wj, hCS, hw]
theorem near_loop (hy : okStr y = true) (hok : ∀ q x a b, Ex.sub body q = some (.lt x a b) → okStr x = true) (hne : ∀ q a i s b c, Ex.sub body q = some (.times a i s b c) → i ≠ s ∧ okStr i = true ∧ okStr s = true) (sc0 : Sco) {c : Bnd} : ∀ (n : Nat) (r : List Nat) (s5 s6 : Slot) (N : Store) (fuel : Nat), r.length = n → n ≤ 900 → n < fuel → (∃ u, Ex.sub body r = some u) → lookS (Bx.scAtS m f [] r sc0 body) y = some c →
    (∃ X, whGo (wc__law_nearest_0 (sem (K + 3))) (wh__law_nearest_0 (sem (K + 3))) fuel [.val (wayD m f q0), s1, .val body.toD, .val (rowD r), .val (.str y), s5, s6] N = .ret (.val c.toD) (N ++ X)) ∨
    (lookS sc0 y = some c ∧ ∃ X t5 t6, whGo (wc__law_nearest_0 (sem (K + 3))) (wh__law_nearest_0 (sem (K + 3))) fuel [.val (wayD m f q0), s1, .val body.toD, .val (rowD r), .val (.str y), s5, s6] N = .next [.val (wayD m f q0), s1, .val body.toD, .val (rowD []), .val (.str y), t5, t6] (N ++ X))
  | 0, r, s5, s6, N, fuel, hr, _, hf, _, hl => by
    have : r = [] := List.eq_nil_of_length_eq_zero hr
    subst this
    rw [Bx.scAtS] at hl
    obtain ⟨fu, rfl⟩ : ∃ z, fuel = z + 1 := ⟨fuel - 1, by omega⟩
    refine .inr ⟨hl, [], s5, s6, ?_⟩
    have hc : wc__law_nearest_0 (sem (K + 3)) [.val (wayD m f q0), s1, .val body.toD, .val (rowD []), .val (.str y), s5, s6] N = .ok false N := by
      have := ne_row N []
      rw [wc__law_nearest_0_eq]
      simp [this]
    rw [whGo, hc, List.append_nil]
  | n + 1, r, s5, s6, N, fuel, hr, hn, hf, ⟨u, hu⟩, hl => by
    obtain ⟨rr, k, rfl⟩ : ∃ rr k, r = rr ++ [k] := by
      have h0 : r ≠ [] := fun z => by rw [z] at hr; simp at hr
      exact ⟨r.dropLast, r.getLast h0, (List.dropLast_concat_getLast h0).symm⟩
    have hrl : rr.length = n := by rw [List.length_append, List.length_singleton] at hr; omega
    obtain ⟨p, hp, hpk⟩ := sub_snoc hu
    have hs := scAt_snoc m f rr [] sc0 body p u k hp hpk
    rw [List.nil_append] at hs
    rw [hs] at hl
    clear hs
    obtain ⟨fu, rfl⟩ : ∃ z, fuel = z + 1 := ⟨fuel - 1, by omega⟩
    have hc : wc__law_nearest_0 (sem (K + 3)) [.val (wayD m f q0), s1, .val body.toD, .val (rowD (rr ++ [k])), .val (.str y), s5, s6] N = .ok true N := by
      have := ne_row N (rr ++ [k])
      rw [decide_eq_true (by simp)] at this
      rw [wc__law_nearest_0_eq]
      obtain ⟨R, hR⟩ : ∃ z, rowD (rr ++ [k]) = z := ⟨_, rfl⟩
      rw [hR] at this ⊢
      simp [this]
    have hstep : ∀ ρ2 M2, wh__law_nearest_0 (sem (K + 3)) [.val (wayD m f q0), s1, .val body.toD, .val (rowD (rr ++ [k])), .val (.str y), s5, s6] N = .next ρ2 M2 → whGo (wc__law_nearest_0 (sem (K + 3))) (wh__law_nearest_0 (sem (K + 3))) (fu + 1) [.val (wayD m f q0), s1, .val body.toD, .val (rowD (rr ++ [k])), .val (.str y), s5, s6] N = whGo (wc__law_nearest_0 (sem (K + 3))) (wh__law_nearest_0 (sem (K + 3))) fu ρ2 M2 := fun ρ2 M2 h => by
      rw [whGo, hc]; simp only; rw [h]
    have hret : ∀ v M2, wh__law_nearest_0 (sem (K + 3)) [.val (wayD m f q0), s1, .val body.toD, .val (rowD (rr ++ [k])), .val (.str y), s5, s6] N = .ret v M2 → whGo (wc__law_nearest_0 (sem (K + 3))) (wh__law_nearest_0 (sem (K + 3))) (fu + 1) [.val (wayD m f q0), s1, .val body.toD, .val (rowD (rr ++ [k])), .val (.str y), s5, s6] N = .ret v M2 := fun v M2 h => by
      rw [whGo, hc]; simp only; rw [h]
    obtain ⟨OUT, hOUT⟩ : ∃ z, whGo (wc__law_nearest_0 (sem (K + 3))) (wh__law_nearest_0 (sem (K + 3))) (fu + 1) [.val (wayD m f q0), s1, .val body.toD, .val (rowD (rr ++ [k])), .val (.str y), s5, s6] N = z := ⟨_, rfl⟩
    rw [hOUT] at hstep hret ⊢
    clear hOUT hc
    -- on
    have go : lookS (Bx.scAtS m f [] rr sc0 body) y = some c → (∃ X, wh__law_nearest_0 (sem (K + 3)) [.val (wayD m f q0), s1, .val body.toD, .val (rowD (rr ++ [k])), .val (.str y), s5, s6] N = .next [.val (wayD m f q0), s1, .val body.toD, .val (rowD rr), .val (.str y), .val p.toD, .val (.int (k : Nat))] (N ++ X)) → (∃ X, OUT = .ret (.val c.toD) (N ++ X)) ∨ (lookS sc0 y = some c ∧ ∃ X t5 t6, OUT = .next [.val (wayD m f q0), s1, .val body.toD, .val (rowD []), .val (.str y), t5, t6] (N ++ X)) := fun hl2 ⟨X1, h1⟩ => by
      rw [hstep _ _ h1]
      rcases near_loop hy hok hne sc0 (c := c) n rr (.val p.toD) (.val (.int (k : Nat))) (N ++ X1) fu hrl (by omega) (by omega) ⟨p, hp⟩ hl2 with ⟨X2, h2⟩ | ⟨h3, X2, t5, t6, h2⟩
      · exact .inl ⟨X1 ++ X2, by rw [h2, List.append_assoc]⟩
      · exact .inr ⟨h3, X1 ++ X2, t5, t6, by rw [h2, List.append_assoc]⟩
    have other : (∀ x a b, p ≠ .lt x a b) → (∀ a i s b c, p ≠ .times a i s b c) → (∃ X, OUT = .ret (.val c.toD) (N ++ X)) ∨ (lookS sc0 y = some c ∧ ∃ X t5 t6, OUT = .next [.val (wayD m f q0), s1, .val body.toD, .val (rowD []), .val (.str y), t5, t6] (N ++ X)) := fun n1 n2 => by
      have e : Bx.moreS m f rr (Bx.scAtS m f [] rr sc0 body) p k = Bx.scAtS m f [] rr sc0 body := by
        cases p with
        | lt x a b => exact absurd rfl (n1 x a b)
        | times a i s b c => exact absurd rfl (n2 a i s b c)
        | _ => rfl
      rw [e] at hl
      refine go hl ?_
      have w : ∃ wd, (∀ N, idxD N p.toD (.int 0) = some (.val (.str wd))) ∧ (∀ N, eqD N (.str wd) (.str "let") = some (.val (.bl false))) ∧ ∀ N, eqD N (.str wd) (.str "times") = some (.val (.bl false)) := by
        cases p with
        | lt x a b => exact absurd rfl (n1 x a b)
        | times a i s b c => exact absurd rfl (n2 a i s b c)
        | num n => exact ⟨"num", fun _ => rfl, fun N => eqW (by decide +kernel) N, fun N => eqW (by decide +kernel) N⟩
        | use n => exact ⟨"use", fun _ => rfl, fun N => eqW (by decide +kernel) N, fun N => eqW (by decide +kernel) N⟩
        | op s a b => exact ⟨"op", fun _ => rfl, fun N => eqW (by decide +kernel) N, fun N => eqW (by decide +kernel) N⟩
        | ite a b c => exact ⟨"if", fun _ => rfl, fun N => eqW (by decide +kernel) N, fun N => eqW (by decide +kernel) N⟩
        | tell a b => exact ⟨"tell", fun _ => rfl, fun N => eqW (by decide +kernel) N, fun N => eqW (by decide +kernel) N⟩
        | stop a => exact ⟨"stop", fun _ => rfl, fun N => eqW (by decide +kernel) N, fun N => eqW (by decide +kernel) N⟩
        | call m f as => exact ⟨"call", fun _ => rfl, fun N => eqW (by decide +kernel) N, fun N => eqW (by decide +kernel) N⟩
      obtain ⟨wd, w0, w1, w2⟩ := w
      exact near_turn m f q0 body y K s1 hp k s5 s6 N w0 w1 w2 (fun z => by cases z) (fun z => by cases z)
    cases p with
    | lt x a b =>
      have w0 : ∀ N, idxD N (Ex.lt x a b).toD (.int 0) = some (.val (.str "let")) := fun _ => rfl
      have w1 : ∀ N, eqD N (.str "let") (.str "let") = some (.val (.bl true)) := fun N => eqW (s := "let") (t := "let") (b := true) (by decide +kernel) N
      have w2 : ∀ N, eqD N (.str "let") (.str "times") = some (.val (.bl false)) := fun N => eqW (s := "let") (t := "times") (b := false) (by decide +kernel) N
      have hx := hok _ _ _ _ hp
      by_cases h1 : k = 1
      · subst h1
        have e : Bx.moreS m f rr (Bx.scAtS m f [] rr sc0 body) (.lt x a b) 1 = putS (Bx.scAtS m f [] rr sc0 body) x (.lt m f rr) := rfl
        rw [e, lookS_put] at hl
        by_cases h2 : y = x
        · subst h2
          rw [if_pos rfl] at hl
          cases hl
          obtain ⟨X, h3⟩ := near_let m f q0 body y K s1 hp hy (by omega) s5 s6 N
          exact .inl ⟨X, hret _ _ h3⟩
        · rw [if_neg h2] at hl
          exact go hl (near_turn m f q0 body y K s1 hp 1 s5 s6 N w0 w1 w2 (fun _ _ => ⟨.str x, fun _ => rfl, fun N => by rw [eq_names hx hy, decide_eq_false (fun z => h2 z.symm)]⟩) (fun z => by cases z))
      · have e : Bx.moreS m f rr (Bx.scAtS m f [] rr sc0 body) (.lt x a b) k = Bx.scAtS m f [] rr sc0 body := by
          unfold Bx.moreS
          exact if_neg h1
        rw [e] at hl
        exact go hl (near_turn m f q0 body y K s1 hp k s5 s6 N w0 w1 w2 (fun _ z => absurd z h1) (fun z => by cases z))
    | times a i s b c' =>
      have w0 : ∀ N, idxD N (Ex.times a i s b c').toD (.int 0) = some (.val (.str "times")) := fun _ => rfl
      have w1 : ∀ N, eqD N (.str "times") (.str "let") = some (.val (.bl false)) := fun N => eqW (s := "times") (t := "let") (b := false) (by decide +kernel) N
      have w2 : ∀ N, eqD N (.str "times") (.str "times") = some (.val (.bl true)) := fun N => eqW (s := "times") (t := "times") (b := true) (by decide +kernel) N
      obtain ⟨his, hoi, hos⟩ := hne _ _ _ _ _ _ hp
      by_cases h1 : k = 2
      · subst h1
        have e : Bx.moreS m f rr (Bx.scAtS m f [] rr sc0 body) (.times a i s b c') 2 = putS (putS (Bx.scAtS m f [] rr sc0 body) i (.cnt m f rr)) s (.sm m f rr) := rfl
        rw [e, lookS_put, lookS_put] at hl
        by_cases h2 : y = s
        · subst h2
          rw [if_pos rfl] at hl
          cases hl
          have hj : idxS y [i, y] = some 1 := by
            rw [idxS, if_neg his, idxS, if_pos rfl]; rfl
          obtain ⟨X, h3⟩ := near_times m f q0 body y K s1 hoi hos hy hp (by simp) hj (w := "sum") (fun _ => rfl) (by omega) s5 s6 N
          exact .inl ⟨X, hret _ _ h3⟩
        · rw [if_neg h2] at hl
          by_cases h3 : y = i
          · subst h3
            rw [if_pos rfl] at hl
            cases hl
            have hj : idxS y [y, s] = some 0 := by rw [idxS, if_pos rfl]
            obtain ⟨X, h3⟩ := near_times m f q0 body y K s1 hoi hos hy hp (by simp) hj (w := "count") (fun _ => rfl) (by omega) s5 s6 N
            exact .inl ⟨X, hret _ _ h3⟩
          · rw [if_neg h3] at hl
            exact go hl (near_turn m f q0 body y K s1 hp 2 s5 s6 N w0 w1 w2 (fun z => by cases z) (fun _ _ => ⟨.tup [.str i, .str s], fun _ => rfl, fun N => by rw [in_two, decide_eq_false (fun z => h3 z.symm), decide_eq_false (fun z => h2 z.symm)]; rfl⟩))
      · have e : Bx.moreS m f rr (Bx.scAtS m f [] rr sc0 body) (.times a i s b c') k = Bx.scAtS m f [] rr sc0 body := by
          unfold Bx.moreS
          exact if_neg h1
        rw [e] at hl
        exact go hl (near_turn m f q0 body y K s1 hp k s5 s6 N w0 w1 w2 (fun z => by cases z) (fun _ z => absurd z h1))
    | num n => exact other (fun _ _ _ z => by cases z) (fun _ _ _ _ _ z => by cases z)
    | use n => exact other (fun _ _ _ z => by cases z) (fun _ _ _ _ _ z => by cases z)
    | op s a b => exact other (fun _ _ _ z => by cases z) (fun _ _ _ _ _ z => by cases z)
    | ite a b c => exact other (fun _ _ _ z => by cases z) (fun _ _ _ _ _ z => by cases z)
    | tell a b => exact other (fun _ _ _ z => by cases z) (fun _ _ _ _ _ z => by cases z)
    | stop a => exact other (fun _ _ _ z => by cases z) (fun _ _ _ _ _ z => by cases z)
    | call m f as => exact other (fun _ _ _ z => by cases z) (fun _ _ _ _ _ z => by cases z)
end
end K06
namespace K06
open PySem L2 TP
open BRep
set_option maxHeartbeats 8000000
theorem idxS_nd {y : Str} : ∀ {ps : List Str} {i : Nat}, ps.Nodup → ps[i]? = some y → idxS y ps = some i
  | x :: ps, 0, _, h => by cases h; rw [idxS, if_pos rfl]
  | x :: ps, i + 1, hn, h => by
    rw [List.nodup_cons] at hn
    have h' : ps[i]? = some y := by simpa using h
    have hxy : ¬ x = y := fun z => hn.1 (by rw [z]; exact List.mem_of_getElem? h')
    rw [idxS, if_neg hxy, idxS_nd hn.2 h']
    rfl
theorem nearest_ok {m f : Str} {ps : List Str} {b : Ex} (hnd : ps.Nodup) (hps : ∀ z ∈ ps, okStr z = true) (hpl : ps.length ≤ 1000) {r : List Nat} {y : Str} {c : Bnd} (hs : Ex.sub b r = some (.use y)) (hc : lookS (Bx.scAtS m f [] r (parS m f ps) b) y = some c) (hy : okStr y = true)
    (hok : ∀ q x a d, Ex.sub b q = some (.lt x a d) → okStr x = true) (hne : ∀ q a i s d e, Ex.sub b q = some (.times a i s d e) → i ≠ s ∧ okStr i = true ∧ okStr s = true) (hr : r.length ≤ 900) (K : Nat) (M : Store) :
    ∃ X, sem (K + 4) f__law_nearest [wayD m f r, .tup (ps.map .str), b.toD] M = .ok (.val c.toD) (M ++ X) := by
  have hLw : r.length < Lw := by unfold Lw; omega
  have s1 := fun N => sl_drop2 N m f r
  obtain ⟨X1, h1⟩ := lat_ok K hs M
  have i1 : ∀ N, idxD N (Ex.use y).toD (.int 1) = some (.val (.str y)) := fun _ => rfl
  have q0 : ∀ s3 s4 s5 s6, (sSet 3 (dFE (dEF (dSl slD (dVarB 0) (dSo (dC (.int 2))) dNo)))) [.val (wayD m f r), .val (.tup (ps.map .str)), .val b.toD, s3, s4, s5, s6] M = .next [.val (wayD m f r), .val (.tup (ps.map .str)), .val b.toD, .val (rowD r), s4, s5, s6] M := fun s3 s4 s5 s6 => by
    obtain ⟨W, hW⟩ : ∃ z, wayD m f r = z := ⟨_, rfl⟩
    rw [hW] at s1 ⊢
    simp [s1]
  have q1 : ∀ s4 s5 s6, (sSet 4 (dFE (dEF (dOp2 idxD (dEF (dCall 2 (sem (K + 3) f__law_at) (dCons (dVar 2) (dCons (dVar 3) dNil)))) (dC (.int 1)))))) [.val (wayD m f r), .val (.tup (ps.map .str)), .val b.toD, .val (rowD r), s4, s5, s6] M = .next [.val (wayD m f r), .val (.tup (ps.map .str)), .val b.toD, .val (rowD r), .val (.str y), s5, s6] (M ++ X1) := fun s4 s5 s6 => by
    obtain ⟨R, hR⟩ : ∃ z, rowD r = z := ⟨_, rfl⟩
    rw [hR] at h1 ⊢
    obtain ⟨U, hU⟩ : ∃ z, (Ex.use y).toD = z := ⟨_, rfl⟩
    rw [hU] at h1 i1
    simp [-List.append_assoc, h1, i1]
  have hst : startD 7 [wayD m f r, .tup (ps.map .str), b.toD] = [.val (wayD m f r), .val (.tup (ps.map .str)), .val b.toD, .un, .un, .un, .un] := rfl
  rw [e__law_nearest]
  rcases near_loop m f r b y K (.val (.tup (ps.map .str))) hy hok hne (parS m f ps) (c := c) r.length r .un .un (M ++ X1) Lw rfl hr hLw ⟨_, hs⟩ hc with ⟨X, h⟩ | ⟨hl, X, t5, t6, h⟩
  · refine ⟨X1 ++ X, ?_⟩
    have q2 : (sWhile Lw (wc__law_nearest_0 (sem (K + 3))) (wh__law_nearest_0 (sem (K + 3)))) [.val (wayD m f r), .val (.tup (ps.map .str)), .val b.toD, .val (rowD r), .val (.str y), .un, .un] (M ++ X1) = .ret (.val c.toD) (M ++ X1 ++ X) := h
    unfold runF m__law_nearest
    rw [hst, seq1 (q0 _ _ _ _), seq1 (q1 _ _ _), seqR q2, List.append_assoc]
  · refine ⟨X1 ++ X, ?_⟩
    have q2 : (sWhile Lw (wc__law_nearest_0 (sem (K + 3))) (wh__law_nearest_0 (sem (K + 3)))) [.val (wayD m f r), .val (.tup (ps.map .str)), .val b.toD, .val (rowD r), .val (.str y), .un, .un] (M ++ X1) = .next [.val (wayD m f r), .val (.tup (ps.map .str)), .val b.toD, .val (rowD []), .val (.str y), t5, t6] (M ++ X1 ++ X) := h
    obtain ⟨i, hi1, hi2⟩ := parS_mem (lookS_mem hl)
    simp only at hi1 hi2
    have ti : ∀ N, tupIdxE N (.tup (ps.map .str)) [.str y] = some (.val (.int (i : Nat))) := fun N => tidx hps hy (idxS_nd hnd hi1) N
    have wc := fun N => way_cut N m f r
    have a1 : ∀ N, addD N (.tup [.str "param"]) (.tup [.str m, .str f]) = some (.val (.tup [.str "param", .str m, .str f])) := fun N => tup_app N _ _ (by simp)
    have a2 : ∀ N (j : Int), addD N (.tup [.str "param", .str m, .str f]) (.tup [.int j]) = some (.val (.tup [.str "param", .str m, .str f, .int j])) := fun N j => tup_app N _ _ (by simp)
    have hcD : c.toD = .tup [.str "param", .str m, .str f, .int (i : Nat)] := by rw [hi2]; rfl
    have q3 : (sRet (dOp2 addD (dEF (dOp2 addD (dTup (dCons (dC (.str "param")) dNil)) (dEF (dSl slD (dVarB 0) dNo (dSo (dC (.int 2))))))) (dTup (dCons (dEF (dMethK tupIdxE (dVarB 1) (dCons (dVarB 4) dNil))) dNil)))) [.val (wayD m f r), .val (.tup (ps.map .str)), .val b.toD, .val (rowD []), .val (.str y), t5, t6] (M ++ X1 ++ X) = .ret (.val c.toD) (M ++ X1 ++ X) := by
      rw [hcD]
      obtain ⟨W, hW⟩ : ∃ z, wayD m f r = z := ⟨_, rfl⟩
      rw [hW] at wc ⊢
      obtain ⟨PL, hPL⟩ : ∃ z, ps.map D.str = z := ⟨_, rfl⟩
      rw [hPL] at ti ⊢
      obtain ⟨iz, hiz⟩ : ∃ z : Int, ((i : Nat) : Int) = z := ⟨_, rfl⟩
      rw [hiz] at ti ⊢
      simp [-List.append_assoc, wc, a1, a2, dMethK, ti]
    unfold runF m__law_nearest
    rw [hst, seq1 (q0 _ _ _ _), seq1 (q1 _ _ _), seq1 q2, seqR q3, List.append_assoc]
def isUse (e : Ex) (r : List Nat) : Bool := match Ex.sub e r with
  | some (.use _) => true
  | _ => false
def urows (e : Ex) : List (List Nat) := (Ex.rows e).filter (isUse e)
def bnB (m f : Str) (r0 : List Nat) (sc : Sco) (e : Ex) (r : List Nat) : Option Bnd := match Ex.sub e r with
  | some (.use y) => lookS (Bx.scAtS m f r0 r sc e) y
  | _ => none
def bD : Option Bnd → D
  | some c => c.toD
  | none => .non
theorem usesP_rows (m f : Str) : ∀ (n : Nat) (e : Ex) (r0 : List Nat) (sc : Sco), e.dep ≤ n → usesP e (bl m f r0) (kvS sc) = (urows e).map fun r => (.tup (bl m f (r0 ++ r)), bD (bnB m f r0 sc e r))
  | n, e, r0, sc, hd => by
    by_cases hu : ∃ x, e = .use x
    · obtain ⟨x, rfl⟩ := hu
      have h1 : urows (.use x) = [[]] := by unfold urows isUse; rw [Ex.rows_eq]; simp [Ex.parts, Ex.rowsL, Ex.sub]
      have h2 : bnB m f r0 sc (.use x) [] = lookS sc x := by unfold bnB; rw [Ex.sub]; simp only; rw [Bx.scAtS]
      rw [usesP, kvS_look, h1, List.map_cons, List.map_nil, h2, List.append_nil]
      cases lookS sc x <;> rfl
    · have hnu : ∀ x, e ≠ .use x := fun x h => hu ⟨x, h⟩
      have key : ∀ (ps : List Ex) (k : Nat), (∀ j p, ps[j]? = some p → e.parts[k + j]? = some p) → usesQ e (bl m f r0) (kvS sc) k ps = ((Ex.rowsL k ps).filter (isUse e)).map fun r => (.tup (bl m f (r0 ++ r)), bD (bnB m f r0 sc e r)) := by
        intro ps
        induction ps with
        | nil => intro k _; rfl
        | cons p ps ih =>
          intro k hps
          have hk : e.parts[k]? = some p := hps 0 p rfl
          have hpd := Ex.parts_dep (List.mem_of_getElem? hk)
          obtain ⟨l, rfl⟩ : ∃ l, n = l + 1 := ⟨n - 1, by omega⟩
          have h1 := usesP_rows m f l p (r0 ++ [k]) (Bx.moreS m f r0 sc e k) (by omega)
          have hw : bl m f r0 ++ [D.int (k : Nat)] = bl m f (r0 ++ [k]) := by
            show (D.str m :: .str f :: r0.map fun i => D.int (i : Nat)) ++ [D.int (k : Nat)] = D.str m :: .str f :: (r0 ++ [k]).map fun i => D.int (i : Nat)
            simp
          have hsub : ∀ r, Ex.sub e (k :: r) = Ex.sub p r := fun r => by rw [Ex.sub_cons, hk]
          rw [usesQ, Ex.rowsL, List.filter_append, List.map_append, ih (k + 1) (fun j q hq => by rw [show k + 1 + j = k + (j + 1) by omega]; exact hps (j + 1) q (by simpa using hq)), hw, ← more_S, h1, List.filter_map, List.map_map]
          congr 1
          have he : (isUse e ∘ fun r => k :: r) = isUse p := by
            funext r
            show isUse e (k :: r) = isUse p r
            unfold isUse; rw [hsub]
          rw [he]
          unfold urows
          refine List.map_congr_left fun r _ => ?_
          show (D.tup (bl m f (r0 ++ [k] ++ r)), bD (bnB m f (r0 ++ [k]) (Bx.moreS m f r0 sc e k) p r)) = (D.tup (bl m f (r0 ++ (k :: r))), bD (bnB m f r0 sc e (k :: r)))
          have hb : bnB m f r0 sc e (k :: r) = bnB m f (r0 ++ [k]) (Bx.moreS m f r0 sc e k) p r := by
            unfold bnB
            rw [hsub]
            cases Ex.sub p r with
            | none => rfl
            | some u =>
              cases u with
              | use y => simp only; rw [Bx.scAtS, hk]
              | _ => rfl
          rw [hb, List.append_assoc]; rfl
      have h0 : isUse e [] = false := by
        unfold isUse; rw [Ex.sub]
        cases e with
        | use x => exact absurd rfl (hnu x)
        | _ => rfl
      rw [usesP_eq e _ _ hnu, key e.parts 0 (fun j p h => by rw [Nat.zero_add]; exact h)]
      unfold urows
      rw [Ex.rows_eq, List.filter_cons_of_neg (by rw [h0]; decide)]
theorem sub_bound {nm : Str → Prop} {ah : Str → Str → Nat → Prop} {m f : Str} : ∀ (r r0 : List Nat) (sc : Sco) (e p : Ex) (ns : List Str), Ex.Wf nm ah ns e → Bound sc ns → Ex.sub e r = some p → ∃ ns', Ex.Wf nm ah ns' p ∧ Bound (Bx.scAtS m f r0 r sc e) ns'
  | [], r0, sc, e, p, ns, hw, hb, h => by rw [Ex.sub] at h; cases h; exact ⟨ns, hw, by rw [Bx.scAtS]; exact hb⟩
  | i :: r, r0, sc, e, p, ns, hw, hb, h => by
    rw [Ex.sub_cons] at h
    cases hi : e.parts[i]? with
    | none => rw [hi] at h; cases h
    | some u =>
      rw [hi] at h
      obtain ⟨ns', h1, h2⟩ := sub_bound r (r0 ++ [i]) (Bx.moreS m f r0 sc e i) u p (scI e ns i) (wf_at hw hi) (bound_at hb e i) h
      exact ⟨ns', h1, by rw [Bx.scAtS, hi]; exact h2⟩
theorem use_bnd {nm : Str → Prop} {ah : Str → Str → Nat → Prop} {m f : Str} {ps : List Str} {b : Ex} (hw : Ex.Wf nm ah ps b) {r : List Nat} (hr : isUse b r = true) : ∃ y c, Ex.sub b r = some (.use y) ∧ lookS (Bx.scAtS m f [] r (parS m f ps) b) y = some c ∧ bnB m f [] (parS m f ps) b r = some c := by
  unfold isUse at hr
  cases hs : Ex.sub b r with
  | none => rw [hs] at hr; cases hr
  | some u =>
    rw [hs] at hr
    cases u with
    | use y =>
      obtain ⟨ns', h1, h2⟩ := sub_bound r [] (parS m f ps) b _ ps hw (fun z hz => parS_look hz) hs
      rw [Ex.Wf] at h1
      obtain ⟨c, hc⟩ := h2 y h1
      exact ⟨y, c, rfl, hc, by unfold bnB; rw [hs]; exact hc⟩
    | _ => cases hr
end K06
namespace K06
open PySem L2 TP
set_option maxHeartbeats 8000000
def InB (m f : Str) (ps : List Str) (e : Ex) : Bnd → Prop
  | .par m' f' i => m' = m ∧ f' = f ∧ i < ps.length
  | .lt m' f' q => m' = m ∧ f' = f ∧ ∃ x a b, Ex.sub e q = some (.lt x a b)
  | .cnt m' f' q => m' = m ∧ f' = f ∧ ∃ a i s b c, Ex.sub e q = some (.times a i s b c)
  | .sm m' f' q => m' = m ∧ f' = f ∧ ∃ a i s b c, Ex.sub e q = some (.times a i s b c)
  | .new => False
theorem inB_ok {m f : Str} (hm : okStr m = true) (hf : okStr f = true) {ps : List Str} {e : Ex} {c : Bnd} (h : InB m f ps e c) : c.ok := by
  cases c with
  | par m' f' i => obtain ⟨rfl, rfl, h⟩ := h; exact ⟨hm, hf⟩
  | lt m' f' q => obtain ⟨rfl, rfl, h⟩ := h; exact ⟨hm, hf⟩
  | cnt m' f' q => obtain ⟨rfl, rfl, h⟩ := h; exact ⟨hm, hf⟩
  | sm m' f' q => obtain ⟨rfl, rfl, h⟩ := h; exact ⟨hm, hf⟩
  | new => exact absurd h id
end K06
namespace K06
open PySem L2 TP
set_option maxHeartbeats 8000000
theorem inB_home {P : Pr} (hn : KeysNd P) {x : Str × Row} (hx : x ∈ flat P) {c : Bnd} (h : InB x.1 x.2.f x.2.ps x.2.b c) : homeP P c.toD = some (x.1, x.2.f) := by
  have hwl : ∀ y a b, isWord (.lt y a b) "let" = true := fun y a b => by simp [isWord]
  have hwc : ∀ a i s b c, isWord (.times a i s b c) "count" = true := fun a i s b c => by simp [isWord]
  have hws : ∀ a i s b c, isWord (.times a i s b c) "sum" = true := fun a i s b c => by simp [isWord]
  have n1 : ¬ ("let" : Str) = "param" := by decide +kernel
  have n2 : ¬ ("count" : Str) = "param" := by decide +kernel
  have n3 : ¬ ("sum" : Str) = "param" := by decide +kernel
  have b1 : headB (.str "let") = true := by decide +kernel
  have b2 : headB (.str "count") = true := by decide +kernel
  have b3 : headB (.str "sum") = true := by decide +kernel
  cases c with
  | par m' f' i =>
    obtain ⟨rfl, rfl, h⟩ := h
    show homeP P (.tup [.str "param", .str x.1, .str x.2.f, .int (i : Nat)]) = _
    have e1 : homeP P (.tup [.str "param", .str x.1, .str x.2.f, .int (i : Nat)]) = homeA P x.1 x.2.f (.int (i : Nat)) := by simp only [homeP, if_true]
    have e2 : spotN (.int (i : Nat)) = some i := by
      show (if (0 : Int) ≤ (i : Nat) then some ((i : Nat) : Int).toNat else none) = _
      rw [if_pos (by omega), Int.toNat_natCast]
    rw [e1, homeA, findF_of hn hx, e2]
    simp only
    rw [if_pos h]
  | lt m' f' q =>
    obtain ⟨rfl, rfl, y, a, b, h⟩ := h
    have ha := atW_way hn hx q
    rw [h] at ha
    show homeP P (.tup [.str "let", wayD x.1 x.2.f q]) = _
    have e1 : homeP P (.tup [.str "let", wayD x.1 x.2.f q]) = homeB P "let" (wayD x.1 x.2.f q) := by simp only [homeP, if_neg n1, b1, true_and, if_true]
    rw [e1]
    unfold wayD at ha ⊢
    rw [homeB_some ha, if_pos (hwl _ _ _)]
  | cnt m' f' q =>
    obtain ⟨rfl, rfl, a, i, s, b, d, h⟩ := h
    have ha := atW_way hn hx q
    rw [h] at ha
    show homeP P (.tup [.str "count", wayD x.1 x.2.f q]) = _
    have e1 : homeP P (.tup [.str "count", wayD x.1 x.2.f q]) = homeB P "count" (wayD x.1 x.2.f q) := by simp only [homeP, if_neg n2, b2, true_and, if_true]
    rw [e1]
    unfold wayD at ha ⊢
    rw [homeB_some ha, if_pos (hwc _ _ _ _ _)]
  | sm m' f' q =>
    obtain ⟨rfl, rfl, a, i, s, b, d, h⟩ := h
    have ha := atW_way hn hx q
    rw [h] at ha
    show homeP P (.tup [.str "sum", wayD x.1 x.2.f q]) = _
    have e1 : homeP P (.tup [.str "sum", wayD x.1 x.2.f q]) = homeB P "sum" (wayD x.1 x.2.f q) := by simp only [homeP, if_neg n3, b3, true_and, if_true]
    rw [e1]
    unfold wayD at ha ⊢
    rw [homeB_some ha, if_pos (hws _ _ _ _ _)]
  | new => exact absurd h id
theorem hin_str (s : Str) (M : Store) : notInWD M (.str s) (.tup [.str "param", .str "let", .str "count", .str "sum"]) = some (.val (.bl (!headB (.str s)))) := by
  have e : ([D.str "param", .str "let", .str "count", .str "sum"].any fun d => eqvD d (.str s)) = headB (.str s) := by
    simp only [List.any_cons, List.any_nil, eqvD_str, Bool.or_false, headB]
    congr 1
    · rw [decide_eq_decide]; exact eq_comm
    · congr 1
      · rw [decide_eq_decide]; exact eq_comm
      · congr 1 <;> (rw [decide_eq_decide]; exact eq_comm)
  have h1 : notInD M (.str s) (.tup [.str "param", .str "let", .str "count", .str "sum"]) = some (.val (.bl (!headB (.str s)))) := by
    rw [← e]; rfl
  unfold notInWD
  rw [h1]
theorem wayT_way (m f : Str) (r : List Nat) : wayT (wayD m f r) = true := by
  unfold wayD wayT
  simp [List.all_eq_true, plainT]
theorem bnd_bindT (c : Bnd) : BindT c.toD := by
  have one : ∀ (s : Str) (r : List D), (∀ x ∈ r, wayT x = true) → BindT (.tup (.str s :: r)) := fun s r hr => ⟨rfl, (fun _ h => by cases h), fun h r' e => by
    simp only [D.tup.injEq, List.cons.injEq] at e
    obtain ⟨rfl, rfl⟩ := e
    exact ⟨hin_str s, hr⟩⟩
  cases c with
  | par m f k => exact one _ _ (by intro x hx; simp only [List.mem_cons, List.not_mem_nil, or_false] at hx; rcases hx with rfl | rfl | rfl <;> rfl)
  | lt m f r => exact one _ _ (by intro x hx; simp only [List.mem_cons, List.not_mem_nil, or_false] at hx; subst hx; exact wayT_way _ _ _)
  | cnt m f r => exact one _ _ (by intro x hx; simp only [List.mem_cons, List.not_mem_nil, or_false] at hx; subst hx; exact wayT_way _ _ _)
  | sm m f r => exact one _ _ (by intro x hx; simp only [List.mem_cons, List.not_mem_nil, or_false] at hx; subst hx; exact wayT_way _ _ _)
  | new => exact one _ _ (by intro x hx; simp only [List.mem_cons, List.not_mem_nil, or_false] at hx; subst hx; rfl)
end K06
namespace K06
open PySem L2 TP
open BRep
set_option maxHeartbeats 8000000
theorem lcGo_mpX {α : Type} {b : D → EnvD → Option EnvD} {f : FD} {ρ0 : EnvD} (t g : α → D) : ∀ (xs : List α) (acc : List D) (M : Store), (∀ x ∈ xs, ∃ ρ1, b (t x) ρ0 = some ρ1 ∧ ∀ S, ∃ X, f ρ1 S = .ok (g x) (S ++ X)) → acc.length + xs.length ≤ 1000000 → ∃ X, lcGo b dYes f ρ0 (xs.map t) acc M = .ok (acc ++ xs.map g) (M ++ X)
  | [], acc, M, _, _ => ⟨[], by simp [lcGo]⟩
  | x :: xs, acc, M, h, hl => by
    rw [List.length_cons] at hl
    obtain ⟨ρ1, h1, h2⟩ := h x List.mem_cons_self
    obtain ⟨X1, h3⟩ := h2 M
    obtain ⟨X2, h4⟩ := lcGo_mpX t g xs (acc ++ [g x]) (M ++ X1) (fun y hy => h y (List.mem_cons_of_mem _ hy)) (by rw [List.length_append, List.length_singleton]; omega)
    refine ⟨X1 ++ X2, ?_⟩
    have hd : ∀ S, dYes ρ1 S = .ok true S := fun _ => rfl
    rw [List.map_cons]
    unfold lcGo
    rw [h1]
    simp only [hd, h3]
    rw [if_pos (by rw [szL]; omega), h4, List.map_cons, List.append_assoc, List.append_assoc]
    rfl
theorem lcGo_fmX {α : Type} {b : D → EnvD → Option EnvD} {c : FB} {f : FD} {ρ0 : EnvD} (t : α → D) (p : α → Bool) (g : α → D) : ∀ (xs : List α) (acc : List D) (M : Store), (∀ x ∈ xs, ∃ ρ1, b (t x) ρ0 = some ρ1 ∧ (∀ S, ∃ X, c ρ1 S = .ok (p x) (S ++ X)) ∧ (p x = true → ∀ S, ∃ X, f ρ1 S = .ok (g x) (S ++ X))) → acc.length + xs.length ≤ 1000000 → ∃ X, lcGo b c f ρ0 (xs.map t) acc M = .ok (acc ++ (xs.filter p).map g) (M ++ X)
  | [], acc, M, _, _ => ⟨[], by simp [lcGo]⟩
  | x :: xs, acc, M, h, hl => by
    rw [List.length_cons] at hl
    obtain ⟨ρ1, h1, h2, h2'⟩ := h x List.mem_cons_self
    obtain ⟨X0, h0⟩ := h2 M
    rw [List.map_cons]
    unfold lcGo
    rw [h1]
    simp only [h0]
    cases hp : p x with
    | false =>
      obtain ⟨X2, h4⟩ := lcGo_fmX t p g xs acc (M ++ X0) (fun y hy => h y (List.mem_cons_of_mem _ hy)) (by omega)
      refine ⟨X0 ++ X2, ?_⟩
      simp only
      rw [h4, List.filter_cons_of_neg (by rw [hp]; decide), List.append_assoc]
    | true =>
      obtain ⟨X1, h3⟩ := h2' hp (M ++ X0)
      obtain ⟨X2, h4⟩ := lcGo_fmX t p g xs (acc ++ [g x]) (M ++ X0 ++ X1) (fun y hy => h y (List.mem_cons_of_mem _ hy)) (by rw [List.length_append, List.length_singleton]; omega)
      refine ⟨X0 ++ X1 ++ X2, ?_⟩
      simp only [h3]
      rw [if_pos (by rw [szL]; omega), h4, List.filter_cons_of_pos hp, List.map_cons]
      simp
def entD (p : Bnd × Str) : D := .tup [p.1.toD, .str p.2]
def ownL (m f : Str) (b : Ex) (r : List Nat) : List (Bnd × Str) := match Ex.sub b r with
  | some (.lt x _ _) => [(.lt m f r, x)]
  | some (.times _ i s _ _) => [(.cnt m f r, i), (.sm m f r, s)]
  | _ => []
def parL2 (m f : Str) : Nat → List Str → List (Bnd × Str)
  | _, [] => []
  | i, x :: xs => (.par m f i, x) :: parL2 m f (i + 1) xs
def allL (m f : Str) (ps : List Str) (b : Ex) : List (Bnd × Str) := parL2 m f 0 ps ++ (Ex.rows b).flatMap (ownL m f b)
theorem parL2_len (m f : Str) : ∀ (ps : List Str) (i : Nat), (parL2 m f i ps).length = ps.length
  | [], _ => rfl
  | _ :: ps, i => by rw [parL2, List.length_cons, parL2_len m f ps, List.length_cons]
theorem ownL_len (m f : Str) (b : Ex) (r : List Nat) : (ownL m f b r).length ≤ 2 := by
  unfold ownL
  split <;> simp
theorem par_go (Φ : Nat → Fn) (m f : Str) (s2 s3 s4 s5 s6 : Slot) (M : Store) : ∀ (xs : List Str) (i : Nat) (acc : List D), acc.length + xs.length ≤ 1000 → lcGo (bTup [7, 8]) dYes (el__law_all_0 Φ) [.val (.str m), .val (.str f), s2, s3, s4, s5, s6, .un, .un] (enumF i (xs.map .str)) acc M = .ok (acc ++ (parL2 m f i xs).map entD) M
  | [], i, acc, _ => by simp [enumF, lcGo, parL2]
  | x :: xs, i, acc, hl => by
    rw [List.length_cons] at hl
    rw [List.map_cons, enumF, parL2]
    unfold lcGo
    have hacc : acc.length < 16777216 := by omega
    have hd : ∀ (ρ : EnvD) (S : Store), dYes ρ S = .ok true S := fun _ _ => rfl
    simp only [bTup, bNames, List.set_cons_succ, List.set_cons_zero, hd]
    rw [el__law_all_0_eq]
    have ih := par_go Φ m f s2 s3 s4 s5 s6 M xs (i + 1) (acc ++ [entD (.par m f i, x)]) (by rw [List.length_append, List.length_singleton]; omega)
    have he : entD (.par m f i, x) = .tup [.tup [.str "param", .str m, .str f, .int (i : Nat)], .str x] := rfl
    rw [List.map_cons]
    rw [he] at ih ⊢
    simp [hacc, ih]
section
variable (m f : Str) (ps : List Str) (b : Ex)
theorem all_other (K : Nat) (s2 : Slot) {r : List Nat} {p : Ex} (hs : Ex.sub b r = some p) (acc : List D) (M : Store) (s6 : Slot) (wd : Str) (w0 : ∀ N, idxD N p.toD (.int 0) = some (.val (.str wd))) (w1 : ∀ N, eqD N (.str wd) (.str "let") = some (.val (.bl false))) (w2 : ∀ N, eqD N (.str wd) (.str "times") = some (.val (.bl false))) (he : ownL m f b r = []) : ∃ X t6, lp__law_all_0 (sem (K + 3)) [.val (.str m), .val (.str f), s2, .val b.toD, .own acc, .val (rowD r), s6, .un, .un] M = .next [.val (.str m), .val (.str f), s2, .val b.toD, .own (acc ++ (ownL m f b r).map entD), .val (rowD r), t6, .un, .un] (M ++ X) := by
  obtain ⟨X, hat⟩ := lat_ok K hs M
  refine ⟨X, .val p.toD, ?_⟩
  rw [he, List.map_nil, List.append_nil, lp__law_all_0_eq]
  obtain ⟨R, hR⟩ : ∃ z, rowD r = z := ⟨_, rfl⟩
  rw [hR] at hat ⊢
  obtain ⟨PD, hPD⟩ : ∃ z, p.toD = z := ⟨_, rfl⟩
  rw [hPD] at hat w0 ⊢
  obtain ⟨BD, hBD⟩ : ∃ z, b.toD = z := ⟨_, rfl⟩
  rw [hBD] at hat ⊢
  simp [-List.append_assoc, hat, w0, w1, w2]
theorem all_turn (K : Nat) (s2 : Slot) {r : List Nat} {p : Ex} (hs : Ex.sub b r = some p) (hr : r.length ≤ 900) (acc : List D) (hl : acc.length ≤ 500000) (M : Store) (s6 : Slot) : ∃ X t6, lp__law_all_0 (sem (K + 3)) [.val (.str m), .val (.str f), s2, .val b.toD, .own acc, .val (rowD r), s6, .un, .un] M = .next [.val (.str m), .val (.str f), s2, .val b.toD, .own (acc ++ (ownL m f b r).map entD), .val (rowD r), t6, .un, .un] (M ++ X) := by
  have ho : ∀ q, Ex.sub b r = some q → ownL m f b r = (match q with | .lt x _ _ => [(.lt m f r, x)] | .times _ i s _ _ => [(.cnt m f r, i), (.sm m f r, s)] | _ => []) := fun q hq => by
    unfold ownL; rw [hq]; cases q <;> rfl
  have ho2 := ho p hs
  have other := all_other m f b K s2 hs acc M s6
  cases p with
  | lt x a d =>
    obtain ⟨X, hat⟩ := lat_ok K hs M
    have wj := fun N => way_join m f N r hr
    have hacc : acc.length < 16777216 := by omega
    rw [ho2, lp__law_all_0_eq]
    refine ⟨X, .val (Ex.lt x a d).toD, ?_⟩
    have w0 : ∀ N, idxD N (Ex.lt x a d).toD (.int 0) = some (.val (.str "let")) := fun _ => rfl
    have w3 : ∀ N, idxD N (Ex.lt x a d).toD (.int 1) = some (.val (.str x)) := fun _ => rfl
    have w1 : ∀ N, eqD N (.str "let") (.str "let") = some (.val (.bl true)) := fun N => eqW (s := "let") (t := "let") (b := true) (by decide +kernel) N
    have w2 : ∀ N, eqD N (.str "let") (.str "times") = some (.val (.bl false)) := fun N => eqW (s := "let") (t := "times") (b := false) (by decide +kernel) N
    have he : entD (Bnd.lt m f r, x) = .tup [.tup [.str "let", wayD m f r], .str x] := rfl
    show _ = Out.next [_, _, _, _, .own (acc ++ [entD (Bnd.lt m f r, x)]), _, _, _, _] _
    rw [he]
    obtain ⟨W, hW⟩ : ∃ z, wayD m f r = z := ⟨_, rfl⟩
    rw [hW] at wj ⊢
    obtain ⟨R, hR⟩ : ∃ z, rowD r = z := ⟨_, rfl⟩
    rw [hR] at hat wj ⊢
    obtain ⟨PD, hPD⟩ : ∃ z, (Ex.lt x a d).toD = z := ⟨_, rfl⟩
    rw [hPD] at hat w0 w3 ⊢
    obtain ⟨BD, hBD⟩ : ∃ z, b.toD = z := ⟨_, rfl⟩
    rw [hBD] at hat ⊢
    simp [-List.append_assoc, hat, w0, w1, w2, w3, wj, hacc]
  | times a i s d e =>
    obtain ⟨X, hat⟩ := lat_ok K hs M
    have wj := fun N => way_join m f N r hr
    have hacc : acc.length < 16777216 := by omega
    rw [ho2, lp__law_all_0_eq]
    refine ⟨X, .val (Ex.times a i s d e).toD, ?_⟩
    have w0 : ∀ N, idxD N (Ex.times a i s d e).toD (.int 0) = some (.val (.str "times")) := fun _ => rfl
    have w3 : ∀ N, idxD N (Ex.times a i s d e).toD (.int 2) = some (.val (.str i)) := fun _ => rfl
    have w4 : ∀ N, idxD N (Ex.times a i s d e).toD (.int 3) = some (.val (.str s)) := fun _ => rfl
    have w1 : ∀ N, eqD N (.str "times") (.str "let") = some (.val (.bl false)) := fun N => eqW (s := "times") (t := "let") (b := false) (by decide +kernel) N
    have w2 : ∀ N, eqD N (.str "times") (.str "times") = some (.val (.bl true)) := fun N => eqW (s := "times") (t := "times") (b := true) (by decide +kernel) N
    have he : [(Bnd.cnt m f r, i), (Bnd.sm m f r, s)].map entD = [.tup [.tup [.str "count", wayD m f r], .str i], .tup [.tup [.str "sum", wayD m f r], .str s]] := rfl
    show _ = Out.next [_, _, _, _, .own (acc ++ [(Bnd.cnt m f r, i), (Bnd.sm m f r, s)].map entD), _, _, _, _] _
    rw [he]
    have hadd : ∀ N, addD N (.lst acc) (.lst [.tup [.tup [.str "count", wayD m f r], .str i], .tup [.tup [.str "sum", wayD m f r], .str s]]) = some (.own (acc ++ [.tup [.tup [.str "count", wayD m f r], .str i], .tup [.tup [.str "sum", wayD m f r], .str s]])) := fun N => by
      show (if acc.length + 2 ≤ sizeLine then some (Slot.own (acc ++ [_, _])) else none) = _
      rw [if_pos (by rw [szL]; omega)]
    obtain ⟨W, hW⟩ : ∃ z, wayD m f r = z := ⟨_, rfl⟩
    rw [hW] at wj hadd ⊢
    obtain ⟨R, hR⟩ : ∃ z, rowD r = z := ⟨_, rfl⟩
    rw [hR] at hat wj ⊢
    obtain ⟨PD, hPD⟩ : ∃ z, (Ex.times a i s d e).toD = z := ⟨_, rfl⟩
    rw [hPD] at hat w0 w3 w4 ⊢
    obtain ⟨BD, hBD⟩ : ∃ z, b.toD = z := ⟨_, rfl⟩
    rw [hBD] at hat ⊢
    simp [-List.append_assoc, hat, w0, w1, w2, w3, w4, wj, hadd]
  | num n => exact other "num" (fun _ => rfl) (fun N => eqW (by decide +kernel) N) (fun N => eqW (by decide +kernel) N) ho2
  | use n => exact other "use" (fun _ => rfl) (fun N => eqW (by decide +kernel) N) (fun N => eqW (by decide +kernel) N) ho2
  | op s a b => exact other "op" (fun _ => rfl) (fun N => eqW (by decide +kernel) N) (fun N => eqW (by decide +kernel) N) ho2
  | ite a b c => exact other "if" (fun _ => rfl) (fun N => eqW (by decide +kernel) N) (fun N => eqW (by decide +kernel) N) ho2
  | tell a b => exact other "tell" (fun _ => rfl) (fun N => eqW (by decide +kernel) N) (fun N => eqW (by decide +kernel) N) ho2
  | stop a => exact other "stop" (fun _ => rfl) (fun N => eqW (by decide +kernel) N) (fun N => eqW (by decide +kernel) N) ho2
  | call m f as => exact other "call" (fun _ => rfl) (fun N => eqW (by decide +kernel) N) (fun N => eqW (by decide +kernel) N) ho2
theorem all_loop (K : Nat) (s2 : Slot) : ∀ (rs : List (List Nat)) (acc : List D) (M : Store) (s5 s6 : Slot), (∀ r ∈ rs, r.length ≤ 900 ∧ ∃ p, Ex.sub b r = some p) → acc.length + 2 * rs.length ≤ 500000 →
    ∃ X t5 t6, forGo (bName 5) (lp__law_all_0 (sem (K + 3))) (rs.map rowD) [.val (.str m), .val (.str f), s2, .val b.toD, .own acc, s5, s6, .un, .un] M = .next [.val (.str m), .val (.str f), s2, .val b.toD, .own (acc ++ (rs.flatMap (ownL m f b)).map entD), t5, t6, .un, .un] (M ++ X)
  | [], acc, M, s5, s6, _, _ => ⟨[], s5, s6, by simp [forGo]⟩
  | r :: rs, acc, M, s5, s6, h, hl => by
    rw [List.length_cons] at hl
    obtain ⟨h1, p, h2⟩ := h r List.mem_cons_self
    obtain ⟨X1, t6, e1⟩ := all_turn m f b K s2 h2 h1 acc (by omega) M s6
    have := ownL_len m f b r
    obtain ⟨X2, u5, u6, e2⟩ := all_loop K s2 rs (acc ++ (ownL m f b r).map entD) (M ++ X1) (.val (rowD r)) t6 (fun q hq => h q (List.mem_cons_of_mem _ hq)) (by rw [List.length_append, List.length_map]; omega)
    refine ⟨X1 ++ X2, u5, u6, ?_⟩
    rw [List.map_cons, forGo_step rfl e1, e2, List.flatMap_cons, List.map_append, List.append_assoc, List.append_assoc]
theorem all_ok (K : Nat) (hpl : ps.length ≤ 100) (hd : b.dep ≤ K) (hK : K ≤ 400) (hc : b.cnt ≤ 100000) (M : Store) : ∃ X, sem (K + 4) f__law_all [.str m, .str f, .tup (ps.map .str), b.toD] M = .ok (.own ((allL m f ps b).map entD)) (M ++ X) := by
  obtain ⟨X1, hr⟩ := lrows_ok K b M hd (by omega) (by omega)
  have hrl := Ex.rows_len K hd
  obtain ⟨X2, t5, t6, hf⟩ := all_loop m f b K (.val (.tup (ps.map .str))) (Ex.rows b) ((parL2 m f 0 ps).map entD) (M ++ X1) .un .un (fun r hr => ⟨by have := Ex.rows_lens K hd hr; omega, Ex.rows_sub K hd hr⟩) (by rw [List.length_map, parL2_len]; omega)
  refine ⟨X1 ++ X2, ?_⟩
  have hp := par_go (sem (K + 3)) m f (.val (.tup (ps.map .str))) (.val b.toD) .un .un .un M ps 0 [] (by simp; omega)
  rw [List.nil_append] at hp
  have he : enumL (ps.map D.str) = enumF 0 (ps.map D.str) := enumL_eq _
  unfold allL
  rw [List.map_append, ← List.append_assoc, e__law_all]
  obtain ⟨A1, hA1⟩ : ∃ z, (parL2 m f 0 ps).map entD = z := ⟨_, rfl⟩
  rw [hA1] at hf hp ⊢
  obtain ⟨A2, hA2⟩ : ∃ z, ((Ex.rows b).flatMap (ownL m f b)).map entD = z := ⟨_, rfl⟩
  rw [hA2] at hf ⊢
  obtain ⟨RL, hRL⟩ : ∃ z, (Ex.rows b).map rowD = z := ⟨_, rfl⟩
  rw [hRL] at hr hf
  obtain ⟨PL, hPL⟩ : ∃ z, ps.map D.str = z := ⟨_, rfl⟩
  rw [hPL] at hf hp he ⊢
  obtain ⟨EL, hEL⟩ : ∃ z, enumF 0 PL = z := ⟨_, rfl⟩
  rw [hEL] at hp he
  obtain ⟨BD, hBD⟩ : ∃ z, b.toD = z := ⟨_, rfl⟩
  rw [hBD] at hr hf hp ⊢
  obtain ⟨S1, hS1⟩ : ∃ z, M ++ X1 = z := ⟨_, rfl⟩
  rw [hS1] at hr hf ⊢
  simp [-List.append_assoc, runF, m__law_all, startD, he, wipeD, hp, hr, itemsD, hf]
end
end K06
namespace K06
open PySem L2 TP
open BRep
set_option maxHeartbeats 8000000
theorem rows_nd : ∀ (n : Nat) (e : Ex), e.dep ≤ n → (Ex.rows e).Nodup
  | n, e, hd => by
    have key : ∀ (ps : List Ex) (k : Nat), (∀ p ∈ ps, p ∈ e.parts) → (Ex.rowsL k ps).Nodup ∧ ∀ r ∈ Ex.rowsL k ps, ∃ i q, r = i :: q ∧ k ≤ i := by
      intro ps
      induction ps with
      | nil => intro k _; exact ⟨List.nodup_nil, fun r h => absurd h List.not_mem_nil⟩
      | cons p ps ih =>
        intro k hps
        have hpd := Ex.parts_dep (hps p List.mem_cons_self)
        obtain ⟨l, rfl⟩ : ∃ l, n = l + 1 := ⟨n - 1, by omega⟩
        have h1 := rows_nd l p (by omega)
        obtain ⟨h2, h3⟩ := ih (k + 1) (fun q hq => hps q (List.mem_cons_of_mem _ hq))
        rw [Ex.rowsL]
        refine ⟨List.nodup_append.mpr ⟨?_, h2, ?_⟩, ?_⟩
        · exact List.pairwise_map.mpr (h1.imp fun h z => h (List.cons.inj z).2)
        · intro r hr r' hr' z
          obtain ⟨q, _, rfl⟩ := List.mem_map.mp hr
          obtain ⟨i, q', rfl, hi⟩ := h3 r' hr'
          have := (List.cons.inj z).1
          omega
        · intro r hr
          rcases List.mem_append.mp hr with hr | hr
          · obtain ⟨q, _, rfl⟩ := List.mem_map.mp hr
            exact ⟨k, q, rfl, Nat.le_refl _⟩
          · obtain ⟨i, q, e, hi⟩ := h3 r hr
            exact ⟨i, q, e, by omega⟩
    rw [Ex.rows_eq, List.nodup_cons]
    obtain ⟨h1, h2⟩ := key e.parts 0 fun _ h => h
    refine ⟨fun h => ?_, h1⟩
    obtain ⟨i, q, e, _⟩ := h2 [] h
    cases e
theorem filter_or {α : Type} (p q : α → Bool) (h : ∀ r, p r = true → q r = false) : ∀ U : List α, (U.filter p ++ U.filter q).Perm (U.filter fun r => p r || q r)
  | [] => .refl _
  | u :: U => by
    have ih := filter_or p q h U
    cases hp : p u with
    | true =>
      have hq := h u hp
      rw [List.filter_cons_of_pos hp, List.filter_cons_of_neg (by rw [hq]; decide), List.filter_cons_of_pos (by rw [hp]; rfl)]
      exact ih.cons u
    | false =>
      cases hq : q u with
      | true =>
        rw [List.filter_cons_of_neg (by rw [hp]; decide), List.filter_cons_of_pos hq, List.filter_cons_of_pos (by rw [hq]; simp)]
        exact List.perm_middle.trans (ih.cons u)
      | false =>
        rw [List.filter_cons_of_neg (by rw [hp]; decide), List.filter_cons_of_neg (by rw [hq]; decide), List.filter_cons_of_neg (by rw [hp, hq]; decide)]
        exact ih
theorem flat_filter {α β : Type} [DecidableEq β] (g : α → β) (U : List α) : ∀ C : List β, C.Nodup → (C.flatMap fun c => U.filter fun r => decide (g r = c)).Perm (U.filter fun r => decide (g r ∈ C))
  | [], _ => by
    have : (U.filter fun r => decide (g r ∈ ([] : List β))) = [] := List.filter_eq_nil_iff.mpr fun r _ => by simp
    rw [this]; exact .refl _
  | c :: C, h => by
    rw [List.nodup_cons] at h
    have ih := flat_filter g U C h.2
    rw [List.flatMap_cons]
    refine (ih.append_left _).trans ((filter_or _ _ (fun r hr => ?_) U).trans ?_)
    · have e := of_decide_eq_true hr
      refine decide_eq_false fun z => h.1 (by rw [← e]; exact z)
    · refine List.Perm.of_eq (List.filter_congr fun r _ => ?_)
      rw [← Bool.decide_or]
      exact decide_eq_decide.mpr (by rw [List.mem_cons])
section
variable (m f : Str) (ps : List Str) (b : Ex)
def Ent (p : Bnd × Str) : Prop :=
  (∃ i, p.1 = .par m f i ∧ ps[i]? = some p.2) ∨ (∃ q a d, p.1 = .lt m f q ∧ Ex.sub b q = some (.lt p.2 a d)) ∨ (∃ q a s d e, p.1 = .cnt m f q ∧ Ex.sub b q = some (.times a p.2 s d e)) ∨ (∃ q a s d e, p.1 = .sm m f q ∧ Ex.sub b q = some (.times a s p.2 d e))
theorem par_ent : ∀ (xs : List Str) (i : Nat), (∀ j y, xs[j]? = some y → ps[i + j]? = some y) → ∀ p ∈ parL2 m f i xs, Ent m f ps b p
  | [], _, _, p, h => absurd h List.not_mem_nil
  | x :: xs, i, hx, p, h => by
    rw [parL2] at h
    rcases List.mem_cons.mp h with rfl | h
    · exact .inl ⟨i, rfl, hx 0 x rfl⟩
    · exact par_ent xs (i + 1) (fun j y hj => by rw [show i + 1 + j = i + (j + 1) by omega]; exact hx (j + 1) y (by simpa using hj)) p h
theorem own_ent {r : List Nat} {p : Bnd × Str} (h : p ∈ ownL m f b r) : Ent m f ps b p ∧ (p.1 = .lt m f r ∨ p.1 = .cnt m f r ∨ p.1 = .sm m f r) := by
  unfold ownL at h
  cases hs : Ex.sub b r with
  | none => rw [hs] at h; exact absurd h List.not_mem_nil
  | some u =>
    rw [hs] at h
    cases u with
    | lt x a d =>
      simp only [List.mem_cons, List.not_mem_nil, or_false] at h
      subst h
      exact ⟨.inr (.inl ⟨r, a, d, rfl, hs⟩), .inl rfl⟩
    | times a i s d e =>
      simp only [List.mem_cons, List.not_mem_nil, or_false] at h
      rcases h with rfl | rfl
      · exact ⟨.inr (.inr (.inl ⟨r, a, s, d, e, rfl, hs⟩)), .inr (.inl rfl)⟩
      · exact ⟨.inr (.inr (.inr ⟨r, a, i, d, e, rfl, hs⟩)), .inr (.inr rfl)⟩
    | _ => exact absurd h List.not_mem_nil
theorem all_ent {p : Bnd × Str} (h : p ∈ allL m f ps b) : Ent m f ps b p := by
  rcases List.mem_append.mp h with h | h
  · exact par_ent m f ps b ps 0 (fun j y hj => by rw [Nat.zero_add]; exact hj) p h
  · obtain ⟨r, _, h⟩ := List.mem_flatMap.mp h
    exact (own_ent m f ps b h).1
theorem ent_inB {p : Bnd × Str} (h : Ent m f ps b p) : InB m f ps b p.1 := by
  rcases h with ⟨i, e, h⟩ | ⟨q, a, d, e, h⟩ | ⟨q, a, s, d, g, e, h⟩ | ⟨q, a, s, d, g, e, h⟩ <;> rw [e]
  · exact ⟨rfl, rfl, (List.getElem?_eq_some_iff.mp h).1⟩
  · exact ⟨rfl, rfl, _, _, _, h⟩
  · exact ⟨rfl, rfl, _, _, _, _, _, h⟩
  · exact ⟨rfl, rfl, _, _, _, _, _, h⟩
theorem par_nd : ∀ (xs : List Str) (i : Nat), ((parL2 m f i xs).map (·.1)).Nodup ∧ ∀ p ∈ parL2 m f i xs, ∃ j, i ≤ j ∧ p.1 = .par m f j
  | [], _ => ⟨List.nodup_nil, fun p h => absurd h List.not_mem_nil⟩
  | x :: xs, i => by
    obtain ⟨h1, h2⟩ := par_nd xs (i + 1)
    rw [parL2, List.map_cons, List.nodup_cons]
    refine ⟨⟨fun h => ?_, h1⟩, fun p h => ?_⟩
    · obtain ⟨p, hp, e⟩ := List.mem_map.mp h
      obtain ⟨j, hj, e'⟩ := h2 p hp
      have e2 : Bnd.par m f j = Bnd.par m f i := e'.symm.trans e
      have := (Bnd.par.inj e2).2.2
      omega
    · rcases List.mem_cons.mp h with rfl | h
      · exact ⟨i, Nat.le_refl _, rfl⟩
      · obtain ⟨j, hj, e⟩ := h2 p h
        exact ⟨j, by omega, e⟩
theorem own_nd (r : List Nat) : ((ownL m f b r).map (·.1)).Nodup := by
  unfold ownL
  cases Ex.sub b r with
  | none => exact List.nodup_nil
  | some u =>
    cases u with
    | lt x a d => simp
    | times a i s d e => simp
    | _ => exact List.nodup_nil
def rowB2 : Bnd → List Nat
  | .lt _ _ r => r
  | .cnt _ _ r => r
  | .sm _ _ r => r
  | _ => []
theorem own_row {r : List Nat} {p : Bnd × Str} (h : p ∈ ownL m f b r) : rowB2 p.1 = r ∧ ∀ j, p.1 ≠ .par m f j := by
  rcases (own_ent m f [] b h).2 with e | e | e <;> rw [e] <;> exact ⟨rfl, fun j z => by cases z⟩
theorem owns_nd : ∀ (rs : List (List Nat)), rs.Nodup → ((rs.flatMap (ownL m f b)).map (·.1)).Nodup
  | [], _ => List.nodup_nil
  | r :: rs, h => by
    rw [List.nodup_cons] at h
    rw [List.flatMap_cons, List.map_append]
    refine List.nodup_append.mpr ⟨own_nd m f b r, owns_nd rs h.2, fun c hc d hd z => ?_⟩
    obtain ⟨p, hp, rfl⟩ := List.mem_map.mp hc
    obtain ⟨p', hp', rfl⟩ := List.mem_map.mp hd
    obtain ⟨r', hr', hp2⟩ := List.mem_flatMap.mp hp'
    have h1 := (own_row m f b hp).1
    have h2 := (own_row m f b hp2).1
    exact h.1 (by rw [← h1, z, h2]; exact hr')
theorem all_nd (n : Nat) (hd : b.dep ≤ n) : ((allL m f ps b).map (·.1)).Nodup := by
  unfold allL
  rw [List.map_append]
  refine List.nodup_append.mpr ⟨(par_nd m f ps 0).1, owns_nd m f b _ (rows_nd n b hd), fun c hc d hd z => ?_⟩
  obtain ⟨p, hp, rfl⟩ := List.mem_map.mp hc
  obtain ⟨p', hp', rfl⟩ := List.mem_map.mp hd
  obtain ⟨r', hr', hp2⟩ := List.mem_flatMap.mp hp'
  obtain ⟨j, _, e⟩ := (par_nd m f ps 0).2 p hp
  exact (own_row m f b hp2).2 j (z.symm.trans e)
def Inn (r0 : List Nat) (e : Ex) (c : Bnd) : Prop := ∃ q, (c = .lt m f (r0 ++ q) ∧ ∃ x a d, Ex.sub e q = some (.lt x a d)) ∨ ((c = .cnt m f (r0 ++ q) ∨ c = .sm m f (r0 ++ q)) ∧ ∃ a i s d g, Ex.sub e q = some (.times a i s d g))
theorem sc_in : ∀ (q r0 : List Nat) (sc : Sco) (e : Ex) (y : Str) (c : Bnd), lookS (Bx.scAtS m f r0 q sc e) y = some c → lookS sc y = some c ∨ Inn m f r0 e c
  | [], r0, sc, e, y, c, h => by rw [Bx.scAtS] at h; exact .inl h
  | i :: q, r0, sc, e, y, c, h => by
    rw [Bx.scAtS] at h
    cases hi : e.parts[i]? with
    | none => rw [hi] at h; exact .inl h
    | some p =>
      rw [hi] at h
      rcases sc_in q (r0 ++ [i]) _ p y c h with h | ⟨q', h⟩
      · cases e with
        | lt x a d =>
          simp only [Bx.moreS] at h
          split at h
          · rw [lookS_put] at h
            split at h
            · cases h
              exact .inr ⟨[], .inl ⟨by rw [List.append_nil], x, a, d, by rw [Ex.sub]⟩⟩
            · exact .inl h
          · exact .inl h
        | times a j s d g =>
          simp only [Bx.moreS] at h
          split at h
          · rw [lookS_put] at h
            split at h
            · cases h
              exact .inr ⟨[], .inr ⟨.inr (by rw [List.append_nil]), a, j, s, d, g, by rw [Ex.sub]⟩⟩
            · rw [lookS_put] at h
              split at h
              · cases h
                exact .inr ⟨[], .inr ⟨.inl (by rw [List.append_nil]), a, j, s, d, g, by rw [Ex.sub]⟩⟩
              · exact .inl h
          · exact .inl h
        | _ => exact .inl h
      · refine .inr ⟨i :: q', ?_⟩
        have e1 : r0 ++ [i] ++ q' = r0 ++ i :: q' := by simp
        rw [e1] at h
        rw [Ex.sub_cons, hi]
        exact h
theorem bnd_all {r : List Nat} {y : Str} {c : Bnd} (hc : lookS (Bx.scAtS m f [] r (parS m f ps) b) y = some c) : c ∈ (allL m f ps b).map (·.1) := by
  unfold allL
  rw [List.map_append, List.mem_append]
  rcases sc_in m f r [] _ b y c hc with h | ⟨q, h⟩
  · refine .inl ?_
    obtain ⟨i, h1, h2⟩ := parS_mem (lookS_mem h)
    simp only at h1 h2
    have key : ∀ (xs : List Str) (k j : Nat) (z : Str), xs[j]? = some z → Bnd.par m f (k + j) ∈ (parL2 m f k xs).map (·.1) := by
      intro xs
      induction xs with
      | nil => intro k j z h; cases h
      | cons x xs ih =>
        intro k j z h
        rw [parL2, List.map_cons]
        cases j with
        | zero => exact List.mem_cons_self
        | succ j =>
          refine List.mem_cons_of_mem _ ?_
          rw [show k + (j + 1) = k + 1 + j by omega]
          exact ih (k + 1) j z (by simpa using h)
    have := key ps 0 i y h1
    rw [Nat.zero_add] at this
    rw [h2]; exact this
  · refine .inr (List.mem_map.mpr ?_)
    rcases h with ⟨e, x, a, d, h⟩ | ⟨e | e, a, i, s, d, g, h⟩
    · exact ⟨(c, x), List.mem_flatMap.mpr ⟨q, Ex.sub_rows h, by unfold ownL; rw [h, e]; exact List.mem_cons_self⟩, rfl⟩
    · exact ⟨(c, i), List.mem_flatMap.mpr ⟨q, Ex.sub_rows h, by unfold ownL; rw [h, e]; exact List.mem_cons_self⟩, rfl⟩
    · exact ⟨(c, s), List.mem_flatMap.mpr ⟨q, Ex.sub_rows h, by unfold ownL; rw [h, e]; exact List.mem_cons_of_mem _ List.mem_cons_self⟩, rfl⟩
def bnF (r : List Nat) : Bnd := (bnB m f [] (parS m f ps) b r).getD .new
def useC (c : Bnd) : List (List Nat) := (urows b).filter fun r => decide (bnF m f ps b r = c)
theorem seen_perm (n : Nat) (hd : b.dep ≤ n) (hw : ∀ r, isUse b r = true → ∃ y c, Ex.sub b r = some (.use y) ∧ lookS (Bx.scAtS m f [] r (parS m f ps) b) y = some c ∧ bnB m f [] (parS m f ps) b r = some c) : (((allL m f ps b).map (·.1)).flatMap (useC m f ps b)).Perm (urows b) := by
  refine (flat_filter (bnF m f ps b) (urows b) _ (all_nd m f ps b n hd)).trans (List.Perm.of_eq ?_)
  refine List.filter_eq_self.mpr fun r hr => decide_eq_true ?_
  obtain ⟨y, c, _, h2, h3⟩ := hw r (List.mem_filter.mp hr).2
  have : bnF m f ps b r = c := by unfold bnF; rw [h3]; rfl
  rw [this]
  exact bnd_all m f ps b h2
end
theorem uses_plain {P : Pr} (hn : KeysNd P) {x : Str × Row} (hx : x ∈ flat P) {c : Bnd} (h : InB x.1 x.2.f x.2.ps x.2.b c) (hw : ∀ r, isUse x.2.b r = true → ∃ c, bnB x.1 x.2.f [] (parS x.1 x.2.f x.2.ps) x.2.b r = some c) :
    usesOfP P c.toD = some ((useC x.1 x.2.f x.2.ps x.2.b c).map (wayD x.1 x.2.f)) := by
  rw [usesOfP_some (inB_home hn hx h) (findF_of hn hx)]
  have e1 : usesP x.2.b [.str x.1, .str x.2.f] (parKV x.1 x.2.f x.2.ps) = (urows x.2.b).map fun r => (.tup (bl x.1 x.2.f ([] ++ r)), bD (bnB x.1 x.2.f [] (parS x.1 x.2.f x.2.ps) x.2.b r)) := by
    rw [← kvS_parS]
    exact usesP_rows x.1 x.2.f x.2.b.dep x.2.b [] _ (Nat.le_refl _)
  rw [e1, List.filter_map, List.map_map]
  have e2 : (urows x.2.b).filter ((fun q : D × D => eqvD q.2 c.toD) ∘ fun r => (D.tup (bl x.1 x.2.f ([] ++ r)), bD (bnB x.1 x.2.f [] (parS x.1 x.2.f x.2.ps) x.2.b r))) = useC x.1 x.2.f x.2.ps x.2.b c := List.filter_congr fun r hr => by
    obtain ⟨c', h'⟩ := hw r (List.mem_filter.mp hr).2
    show eqvD (bD (bnB x.1 x.2.f [] (parS x.1 x.2.f x.2.ps) x.2.b r)) c.toD = _
    unfold bnF
    rw [h']
    exact Bnd.eqv c' c
  rw [e2]
  rfl
theorem way_dd (m f : Str) (r : List Nat) : wayD m f r = wayDD m f (r.map fun i => ((i : Nat) : Int)) := by
  unfold wayD wayDD
  rw [List.map_map]; rfl
theorem sort_ways (M : Store) {m f : Str} {rs rs' : List (List Nat)} (h : rs.Perm rs') : sortWD M [.lst (rs.map (wayD m f))] = sortWD M [.lst (rs'.map (wayD m f))] := by
  have e : ∀ l : List (List Nat), l.map (wayD m f) = (l.map fun r => r.map fun i => ((i : Nat) : Int)).map (wayDD m f) := fun l => by
    rw [List.map_map]; exact List.map_congr_left fun r _ => way_dd m f r
  rw [e, e, sortWD_lst, sortWD_lst, sortL_of_perm (h.map _)]
end K06
namespace K06
open PySem L2 TP
open BRep
set_option maxHeartbeats 8000000
theorem right_turn {Φ : Nat → Fn} {PD CD : D} {L : List D} {y sR : Str} (hl : L.length ≤ 100000) (hu : ∀ S, ∃ X, Φ f_uses_of [PD, CD] S = .ok (.own L) (S ++ X)) (hnm : ∀ S, ∃ X, Φ f_name_of [PD, CD] S = .ok (.val (.str y)) (S ++ X)) (hr : ∀ N, reprD N [.lst L] = some (.val (.str sR))) (s1 s2 s3 s4 s5 s6 s7 s8 s12 s13 s14 s15 s16 : Slot) (M : Store) :
    ∃ X, lp__law_right_0 Φ [.val PD, s1, s2, s3, s4, s5, s6, s7, s8, .val CD, .val (.str y), .own L, s12, s13, s14, s15, s16] M = .next [.val PD, s1, s2, s3, s4, s5, s6, s7, s8, .val CD, .val (.str y), .own L, s12, s13, s14, .own (L ++ [.tup []]), s16] (M ++ X) := by
  obtain ⟨X1, h1⟩ := hu M
  obtain ⟨X2, h2⟩ := hnm (M ++ X1)
  refine ⟨X1 ++ X2, ?_⟩
  have hi : ∀ N, isiD "list" N (.lst L) = some (.val (.bl true)) := fun _ => rfl
  have n1 : ∀ N, neD N (.str sR) (.str sR) = some (.val (.bl false)) := fun N => by rw [neS, decide_eq_true rfl]; rfl
  have n2 : ∀ N, neD N (.str y) (.str y) = some (.val (.bl false)) := fun N => by rw [neS, decide_eq_true rfl]; rfl
  have hL : L.length < sizeLine := by rw [szL]; omega
  have hL2 : L.length < 16777216 := by omega
  rw [lp__law_right_0_eq, ← List.append_assoc]
  simp [-List.append_assoc, h1, h2, hi, n1, n2, hr, hL, hL2]
theorem right_entry {Φ : Nat → Fn} {PD CD : D} {L DU SEEN : List D} {y sR : Str} (hl : L.length ≤ 100000) (hs : SEEN.length ≤ 100000) (hu : ∀ S, ∃ X, Φ f_uses_of [PD, CD] S = .ok (.own L) (S ++ X)) (hnm : ∀ S, ∃ X, Φ f_name_of [PD, CD] S = .ok (.val (.str y)) (S ++ X)) (hr : ∀ N, reprD N [.lst L] = some (.val (.str sR)))
    (s1 s2 s3 s6 s7 s8 s11 s12 s15 : Slot) (M : Store)
    (hlc : lcGo (bTup [14, 16]) (cd__law_right_1 Φ) (el__law_right_4 Φ) [.val PD, s1, s2, s3, .val (.lst DU), .val (.lst SEEN), s6, s7, s8, .val CD, .val (.str y), s11, s12, .un, .un, s15, .un] DU [] M = .ok L M) :
    ∃ X t12 t15, lp__law_right_1 Φ [.val PD, s1, s2, s3, .val (.lst DU), .val (.lst SEEN), s6, s7, s8, .val CD, .val (.str y), s11, s12, .un, .un, s15, .un] M = .next [.val PD, s1, s2, s3, .val (.lst DU), .val (.lst (SEEN ++ L)), s6, s7, s8, .val CD, .val (.str y), .own L, t12, .un, .un, t15, .un] (M ++ X) := by
  obtain ⟨X1, h1⟩ := right_turn hl hu hnm hr s1 s2 s3 (.val (.lst DU)) (.val (.lst SEEN)) s6 s7 s8 (.val (.int 0)) .un .un s15 .un M
  obtain ⟨X2, h2⟩ := right_turn hl hu hnm hr s1 s2 s3 (.val (.lst DU)) (.val (.lst SEEN)) s6 s7 s8 (.val (.int 1)) .un .un (.own (L ++ [.tup []])) .un (M ++ X1)
  refine ⟨X1 ++ X2, .val (.int 1), .own (L ++ [.tup []]), ?_⟩
  have hadd : ∀ N, addD N (.lst SEEN) (.lst L) = some (.own (SEEN ++ L)) := fun N => by
    show (if SEEN.length + L.length ≤ sizeLine then some (Slot.own (SEEN ++ L)) else none) = _
    rw [if_pos (by rw [szL]; omega)]
  have hrng : rng1D [.int 2] = some [.int 0, .int 1] := rfl
  have hit : itemsD (.lst DU) = some DU := rfl
  have hfor : forGo (bName 12) (lp__law_right_0 Φ) [.int 0, .int 1] [.val PD, s1, s2, s3, .val (.lst DU), .val (.lst SEEN), s6, s7, s8, .val CD, .val (.str y), .own L, s12, .un, .un, s15, .un] M = .next [.val PD, s1, s2, s3, .val (.lst DU), .val (.lst SEEN), s6, s7, s8, .val CD, .val (.str y), .own L, .val (.int 1), .un, .un, .own (L ++ [.tup []]), .un] (M ++ X1 ++ X2) := by
    rw [forGo_step rfl h1, forGo_step rfl h2]; rfl
  rw [lp__law_right_1_eq, ← List.append_assoc]
  simp [-List.append_assoc, hit, wipeD, hlc, hrng, hfor, hadd]
theorem right_loop {Φ : Nat → Fn} {PD : D} {DU : List D} {E : List (Bnd × Str)} (LF : Bnd → List D) (s1 s2 s3 s6 s7 s8 : Slot)
    (hu : ∀ p ∈ E, ∀ S, ∃ X, Φ f_uses_of [PD, p.1.toD] S = .ok (.own (LF p.1)) (S ++ X)) (hnm : ∀ p ∈ E, ∀ S, ∃ X, Φ f_name_of [PD, p.1.toD] S = .ok (.val (.str p.2)) (S ++ X)) (hr : ∀ p ∈ E, ∃ sR, ∀ N, reprD N [.lst (LF p.1)] = some (.val (.str sR)))
    (hlc : ∀ p ∈ E, ∀ s5 s10 s11 s12 s15 S, lcGo (bTup [14, 16]) (cd__law_right_1 Φ) (el__law_right_4 Φ) [.val PD, s1, s2, s3, .val (.lst DU), s5, s6, s7, s8, .val p.1.toD, s10, s11, s12, .un, .un, s15, .un] DU [] S = .ok (LF p.1) S) :
    ∀ (es : List (Bnd × Str)) (SEEN : List D) (s9 s10 s11 s12 s15 : Slot) (M : Store), (∀ p ∈ es, p ∈ E) → SEEN.length + (es.flatMap fun p => LF p.1).length ≤ 100000 →
    ∃ X t9 t10 t11 t12 t15, forGo (bTup [9, 10]) (lp__law_right_1 Φ) (es.map entD) [.val PD, s1, s2, s3, .val (.lst DU), .val (.lst SEEN), s6, s7, s8, s9, s10, s11, s12, .un, .un, s15, .un] M = .next [.val PD, s1, s2, s3, .val (.lst DU), .val (.lst (SEEN ++ es.flatMap fun p => LF p.1)), s6, s7, s8, t9, t10, t11, t12, .un, .un, t15, .un] (M ++ X)
  | [], SEEN, s9, s10, s11, s12, s15, M, _, _ => ⟨[], s9, s10, s11, s12, s15, by simp [forGo]⟩
  | p :: es, SEEN, s9, s10, s11, s12, s15, M, he, hl => by
    have hp := he p List.mem_cons_self
    rw [List.flatMap_cons, List.length_append] at hl
    obtain ⟨sR, hR⟩ := hr p hp
    obtain ⟨X1, t12, t15, h1⟩ := right_entry (DU := DU) (SEEN := SEEN) (by omega) (by omega) (hu p hp) (hnm p hp) hR s1 s2 s3 s6 s7 s8 s11 s12 s15 M (hlc p hp _ _ _ _ _ M)
    obtain ⟨X2, u9, u10, u11, u12, u15, h2⟩ := right_loop LF s1 s2 s3 s6 s7 s8 hu hnm hr hlc es (SEEN ++ LF p.1) (.val p.1.toD) (.val (.str p.2)) (.own (LF p.1)) t12 t15 (M ++ X1) (fun q hq => he q (List.mem_cons_of_mem _ hq)) (by rw [List.length_append]; omega)
    refine ⟨X1 ++ X2, u9, u10, u11, u12, u15, ?_⟩
    have hb : bTup [9, 10] (entD p) [.val PD, s1, s2, s3, .val (.lst DU), .val (.lst SEEN), s6, s7, s8, s9, s10, s11, s12, .un, .un, s15, .un] = some [.val PD, s1, s2, s3, .val (.lst DU), .val (.lst SEEN), s6, s7, s8, .val p.1.toD, .val (.str p.2), s11, s12, .un, .un, s15, .un] := rfl
    rw [List.map_cons, forGo_step hb h1, h2, List.flatMap_cons, List.append_assoc, List.append_assoc]
def wordE : Ex → Str
  | .num _ => "num"
  | .use _ => "use"
  | .op .. => "op"
  | .lt .. => "let"
  | .ite .. => "if"
  | .times .. => "times"
  | .tell .. => "tell"
  | .stop _ => "stop"
  | .call .. => "call"
def isU : Ex → Bool
  | .use _ => true
  | _ => false
theorem word_idx (p : Ex) (N : Store) : idxD N p.toD (.int 0) = some (.val (.str (wordE p))) := by cases p <;> rfl
theorem word_use (p : Ex) (N : Store) : eqD N (.str (wordE p)) (.str "use") = some (.val (.bl (isU p))) := by
  cases p
  · exact eqW (s := "num") (t := "use") (b := false) (by decide +kernel) N
  · exact eqW (s := "use") (t := "use") (b := true) (by decide +kernel) N
  · exact eqW (s := "op") (t := "use") (b := false) (by decide +kernel) N
  · exact eqW (s := "let") (t := "use") (b := false) (by decide +kernel) N
  · exact eqW (s := "if") (t := "use") (b := false) (by decide +kernel) N
  · exact eqW (s := "times") (t := "use") (b := false) (by decide +kernel) N
  · exact eqW (s := "tell") (t := "use") (b := false) (by decide +kernel) N
  · exact eqW (s := "stop") (t := "use") (b := false) (by decide +kernel) N
  · exact eqW (s := "call") (t := "use") (b := false) (by decide +kernel) N
theorem bnds_good : ∀ (cs : List Bnd), (∀ c ∈ cs, c.ok) → goodL (cs.map Bnd.toD) = true ∧ dpL (cs.map Bnd.toD) ≤ 2 ∧ eqvL (cs.map Bnd.toD) (cs.map Bnd.toD) = true
  | [], _ => ⟨rfl, Nat.zero_le _, rfl⟩
  | c :: cs, h => by
    obtain ⟨h1, h2, h3⟩ := bnds_good cs fun z hz => h z (List.mem_cons_of_mem _ hz)
    obtain ⟨g1, g2⟩ := Bnd.good (h c List.mem_cons_self)
    refine ⟨?_, ?_, ?_⟩
    · rw [List.map_cons, goodL, g1, h1]; rfl
    · rw [List.map_cons, dpL]; omega
    · rw [List.map_cons, eqvL, h3, Bnd.eqv, decide_eq_true rfl]; rfl
theorem ways_fit {m f : Str} (hm : nmB 12 m = true) (hf : nmB 12 f = true) (rs : List (List Nat)) (hl : rs.length ≤ 7776) (h : ∀ r ∈ rs, r.length ≤ 5 ∧ ∀ i ∈ r, i < 10) : Fit 500000 3 (.lst (rs.map (wayD m f))) := by
  have one : ∀ r ∈ rs, Fit 51 2 (wayD m f r) := fun r hr => by
    obtain ⟨h1, h2⟩ := h r hr
    have hi : FitL 20 1 (r.map fun i => D.int (i : Nat)) := FitL.upto (n := 2) (c := 5) (fun d hd => by
      obtain ⟨i, hi, rfl⟩ := List.mem_map.mp hd
      exact Fit.int (j := 1) (by decide) (by decide) (by have := h2 i hi; simpa using this)) (by rw [List.length_map]; exact h1) (by decide)
    exact (FitL.cons (Fit.str hm) (FitL.cons (Fit.str hf) hi)).tup
  have hL : FitL (7776 * 53) 2 (rs.map (wayD m f)) := FitL.upto (n := 51) (c := 7776) (fun d hd => by
    obtain ⟨r, hr, rfl⟩ := List.mem_map.mp hd
    exact one r hr) (by rw [List.length_map]; exact hl) (by decide)
  exact hL.lst.mono (by decide) (by decide)
end K06
namespace K06
open PySem L2 TP
open BRep
set_option maxHeartbeats 8000000
structure RightH (P : Pr) (x : Str × Row) (K : Nat) : Prop where
  fl : (flat P).length ≤ 1000
  nd : KeysNd P
  mem : x ∈ flat P
  names : ∀ q ∈ P, okStr q.1 = true ∧ ∀ r ∈ q.2, okStr r.f = true
  rows : ∀ y ∈ flat P, y.2.ps.length ≤ 100 ∧ y.2.b.dep ≤ K ∧ y.2.b.cnt ≤ 100000 ∧ okStr y.1 = true ∧ okStr y.2.f = true
  fm : nmB 12 x.1 = true
  ff : nmB 12 x.2.f = true
  bnd : ∀ r, isUse x.2.b r = true → ∃ y c, Ex.sub x.2.b r = some (.use y) ∧ lookS (Bx.scAtS x.1 x.2.f [] r (parS x.1 x.2.f x.2.ps) x.2.b) y = some c ∧ bnB x.1 x.2.f [] (parS x.1 x.2.f x.2.ps) x.2.b r = some c
  oku : ∀ q y, Ex.sub x.2.b q = some (.use y) → okStr y = true
  okl : ∀ q y a d, Ex.sub x.2.b q = some (.lt y a d) → okStr y = true
  okt : ∀ q a i s d e, Ex.sub x.2.b q = some (.times a i s d e) → i ≠ s ∧ okStr i = true ∧ okStr s = true
  psl : x.2.ps.length ≤ 5
  psn : x.2.ps.Nodup
  pso : ∀ z ∈ x.2.ps, okStr z = true
  dep : x.2.b.dep ≤ 5
  cnt : x.2.b.cnt ≤ 7776
  small : ∀ r ∈ Ex.rows x.2.b, ∀ i ∈ r, i < 10
def dueD (m f : Str) (ps : List Str) (b : Ex) (r : List Nat) : D := .tup [wayD m f r, (bnF m f ps b r).toD]
section
variable {P : Pr} {x : Str × Row} {K : Nat} (h : RightH P x K)
include h
theorem RightH.find : findF P x.1 x.2.f = some x := findF_of h.nd h.mem
theorem RightH.ok1 : okStr x.1 = true := (h.rows x h.mem).2.2.2.1
theorem RightH.ok2 : okStr x.2.f = true := (h.rows x h.mem).2.2.2.2
theorem RightH.row {r : List Nat} (hr : r ∈ Ex.rows x.2.b) : r.length ≤ 5 := Ex.rows_lens 5 h.dep hr
theorem RightH.bn {r : List Nat} (hr : r ∈ urows x.2.b) : ∃ y, Ex.sub x.2.b r = some (.use y) ∧ lookS (Bx.scAtS x.1 x.2.f [] r (parS x.1 x.2.f x.2.ps) x.2.b) y = some (bnF x.1 x.2.f x.2.ps x.2.b r) ∧ (bnF x.1 x.2.f x.2.ps x.2.b r).ok := by
  obtain ⟨y, c, h1, h2, h3⟩ := h.bnd r (List.mem_filter.mp hr).2
  have e : bnF x.1 x.2.f x.2.ps x.2.b r = c := by unfold bnF; rw [h3]; rfl
  refine ⟨y, h1, by rw [e]; exact h2, ?_⟩
  rw [e]
  obtain ⟨p, hp, e2⟩ := List.mem_map.mp (bnd_all x.1 x.2.f x.2.ps x.2.b h2)
  rw [← e2]
  exact inB_ok h.ok1 h.ok2 (ent_inB x.1 x.2.f x.2.ps x.2.b (all_ent x.1 x.2.f x.2.ps x.2.b hp))
theorem RightH.ulen : (urows x.2.b).length ≤ 7776 := by
  have h1 : (urows x.2.b).length ≤ (Ex.rows x.2.b).length := List.length_filter_le _ _
  rw [Ex.rows_len 5 h.dep] at h1
  exact Nat.le_trans h1 h.cnt
theorem right_ways (hK : 5 ≤ K) (s0 s3 s4 s5 s6 s7 s9 s10 s11 s12 s14 s15 s16 : Slot) (M : Store) : ∃ X, lcGo (bName 13) (cd__law_right_0 (sem (K + 6))) (el__law_right_0 (sem (K + 6))) [s0, .val (.str x.1), .val (.str x.2.f), s3, s4, s5, s6, s7, .val x.2.b.toD, s9, s10, s11, s12, .un, s14, s15, s16] ((Ex.rows x.2.b).map rowD) [] M = .ok ((urows x.2.b).map (wayD x.1 x.2.f)) (M ++ X) := by
  have hl := Ex.rows_len 5 h.dep
  have hc := h.cnt
  refine lcGo_fmX (b := bName 13) (c := cd__law_right_0 (sem (K + 6))) (f := el__law_right_0 (sem (K + 6))) (ρ0 := [s0, .val (.str x.1), .val (.str x.2.f), s3, s4, s5, s6, s7, .val x.2.b.toD, s9, s10, s11, s12, .un, s14, s15, s16]) rowD (isUse x.2.b) (wayD x.1 x.2.f) (Ex.rows x.2.b) [] M (fun r hr => ?_) (by rw [List.length_nil]; omega)
  refine ⟨_, rfl, fun S => ?_, fun _ S => ⟨[], ?_⟩⟩
  · obtain ⟨p, hp⟩ := Ex.rows_sub 5 h.dep hr
    obtain ⟨X, hat⟩ := lat_ok (K + 3) hp S
    have hat' : sem (K + 6) f__law_at [x.2.b.toD, rowD r] S = .ok (.val p.toD) (S ++ X) := hat
    have w0 := word_idx p
    have w1 := word_use p
    have hu : isUse x.2.b r = isU p := by
      unfold isUse; rw [hp]; cases p <;> rfl
    refine ⟨X, ?_⟩
    rw [hu]
    obtain ⟨PD, hPD⟩ : ∃ z, p.toD = z := ⟨_, rfl⟩
    rw [hPD] at hat' w0
    obtain ⟨BD, hBD⟩ : ∃ z, x.2.b.toD = z := ⟨_, rfl⟩
    rw [hBD] at hat' ⊢
    obtain ⟨R, hR⟩ : ∃ z, rowD r = z := ⟨_, rfl⟩
    rw [hR] at hat' ⊢
    simp [-List.append_assoc, cd__law_right_0_eq, hat', w0, w1]
  · have wj := way_join x.1 x.2.f S r (by have := h.row hr; omega)
    rw [List.append_nil]
    obtain ⟨R, hR⟩ : ∃ z, rowD r = z := ⟨_, rfl⟩
    rw [hR] at wj ⊢
    simp [-List.append_assoc, el__law_right_0_eq, wj]
theorem right_due (s0 s1 s2 s3 s4 s5 s6 s9 s10 s11 s12 s13 s15 s16 : Slot) (M : Store) : ∃ X, lcGo (bName 14) dYes (el__law_right_1 (sem (K + 6))) [s0, s1, s2, s3, s4, s5, s6, .val (.tup (x.2.ps.map .str)), .val x.2.b.toD, s9, s10, s11, s12, s13, .un, s15, s16] ((urows x.2.b).map (wayD x.1 x.2.f)) [] M = .ok ((urows x.2.b).map (dueD x.1 x.2.f x.2.ps x.2.b)) (M ++ X) := by
  have hl := h.ulen
  refine lcGo_mpX (wayD x.1 x.2.f) (dueD x.1 x.2.f x.2.ps x.2.b) (urows x.2.b) [] M (fun r hr => ⟨_, rfl, fun S => ?_⟩) (by rw [List.length_nil]; omega)
  obtain ⟨y, h1, h2, _⟩ := h.bn hr
  have hps := (h.rows x h.mem).1
  have hrl := h.row (List.mem_filter.mp hr).1
  obtain ⟨X, e⟩ := nearest_ok h.psn h.pso (by omega) h1 h2 (h.oku _ _ h1) h.okl h.okt (by omega) (K + 2) S
  have e' : sem (K + 6) f__law_nearest [wayD x.1 x.2.f r, .tup (x.2.ps.map .str), x.2.b.toD] S = .ok (.val (bnF x.1 x.2.f x.2.ps x.2.b r).toD) (S ++ X) := e
  refine ⟨X, ?_⟩
  unfold dueD
  obtain ⟨W, hW⟩ : ∃ z, wayD x.1 x.2.f r = z := ⟨_, rfl⟩
  rw [hW] at e' ⊢
  obtain ⟨BD, hBD⟩ : ∃ z, x.2.b.toD = z := ⟨_, rfl⟩
  rw [hBD] at e' ⊢
  obtain ⟨PS, hPS⟩ : ∃ z, D.tup (x.2.ps.map .str) = z := ⟨_, rfl⟩
  rw [hPS] at e' ⊢
  simp [-List.append_assoc, el__law_right_1_eq, e']
theorem right_told (s1 s2 s3 s4 s5 s6 s7 s8 s9 s10 s11 s12 s13 s15 s16 : Slot) (M : Store) : ∃ X, lcGo (bName 14) dYes (el__law_right_2 (sem (K + 6))) [.val (pgD P), s1, s2, s3, s4, s5, s6, s7, s8, s9, s10, s11, s12, s13, .un, s15, s16] ((urows x.2.b).map (wayD x.1 x.2.f)) [] M = .ok (((urows x.2.b).map (bnF x.1 x.2.f x.2.ps x.2.b)).map Bnd.toD) (M ++ X) := by
  have hl := h.ulen
  rw [List.map_map]
  refine lcGo_mpX (wayD x.1 x.2.f) (Bnd.toD ∘ bnF x.1 x.2.f x.2.ps x.2.b) (urows x.2.b) [] M (fun r hr => ⟨_, rfl, fun S => ?_⟩) (by rw [List.length_nil]; omega)
  obtain ⟨y, h1, h2, _⟩ := h.bn hr
  have hrl := h.row (List.mem_filter.mp hr).1
  obtain ⟨X, e⟩ := binderof_ok h.fl h.find h.psl h1 h2 (by omega) (K + 1) S
  have e' : sem (K + 6) f_binder_of [pgD P, wayD x.1 x.2.f r] S = .ok (.val (bnF x.1 x.2.f x.2.ps x.2.b r).toD) (S ++ X) := e
  refine ⟨X, ?_⟩
  show _ = R.ok (bnF x.1 x.2.f x.2.ps x.2.b r).toD _
  obtain ⟨W, hW⟩ : ∃ z, wayD x.1 x.2.f r = z := ⟨_, rfl⟩
  rw [hW] at e' ⊢
  obtain ⟨PD, hPD⟩ : ∃ z, pgD P = z := ⟨_, rfl⟩
  rw [hPD] at e' ⊢
  simp [-List.append_assoc, el__law_right_2_eq, e']
theorem right_ones (s0 s1 s2 s3 s4 s5 s6 s7 s8 s9 s10 s11 s12 s13 s15 : Slot) (M : Store) : lcGo (bTup [14, 16]) dYes (el__law_right_3 (sem (K + 6))) [s0, s1, s2, s3, s4, s5, s6, s7, s8, s9, s10, s11, s12, s13, .un, s15, .un] ((urows x.2.b).map (dueD x.1 x.2.f x.2.ps x.2.b)) [] M = .ok (((urows x.2.b).map (bnF x.1 x.2.f x.2.ps x.2.b)).map Bnd.toD) M := by
  have hl := h.ulen
  rw [List.map_map]
  refine lcGo_mp (dueD x.1 x.2.f x.2.ps x.2.b) (Bnd.toD ∘ bnF x.1 x.2.f x.2.ps x.2.b) (urows x.2.b) (fun r hr => ⟨_, rfl, ?_⟩) (by omega)
  simp [el__law_right_3_eq]
theorem right_some {c : Bnd} (hc : c.ok) (s0 s1 s2 s3 s4 s5 s6 s7 s8 s10 s11 s12 s13 s15 : Slot) (M : Store) : lcGo (bTup [14, 16]) (cd__law_right_1 (sem (K + 6))) (el__law_right_4 (sem (K + 6))) [s0, s1, s2, s3, s4, s5, s6, s7, s8, .val c.toD, s10, s11, s12, s13, .un, s15, .un] ((urows x.2.b).map (dueD x.1 x.2.f x.2.ps x.2.b)) [] M = .ok ((useC x.1 x.2.f x.2.ps x.2.b c).map (wayD x.1 x.2.f)) M := by
  have hl := h.ulen
  have := lcGo_fmap (b := bTup [14, 16]) (c := cd__law_right_1 (sem (K + 6))) (f := el__law_right_4 (sem (K + 6))) (ρ0 := [s0, s1, s2, s3, s4, s5, s6, s7, s8, .val c.toD, s10, s11, s12, s13, .un, s15, .un]) (M := M) (dueD x.1 x.2.f x.2.ps x.2.b) (fun r => decide (bnF x.1 x.2.f x.2.ps x.2.b r = c)) (wayD x.1 x.2.f) (urows x.2.b) [] (fun r hr => ⟨_, rfl, ?_, fun _ => ?_⟩) (by rw [szL, List.length_nil]; omega)
  · rw [List.nil_append] at this; exact this
  · obtain ⟨y, _, _, h3⟩ := h.bn hr
    obtain ⟨g1, d1⟩ := Bnd.good h3
    obtain ⟨g2, d2⟩ := Bnd.good hc
    have e : ∀ N, eqD N (bnF x.1 x.2.f x.2.ps x.2.b r).toD c.toD = some (.val (.bl (decide (bnF x.1 x.2.f x.2.ps x.2.b r = c)))) := fun N => by
      rw [eqD_of N g1 g2 (by omega), Bnd.eqv]
    generalize decide (bnF x.1 x.2.f x.2.ps x.2.b r = c) = tr at *
    obtain ⟨BD, hBD⟩ : ∃ z, (bnF x.1 x.2.f x.2.ps x.2.b r).toD = z := ⟨_, rfl⟩
    rw [hBD] at e ⊢
    obtain ⟨CD, hCD⟩ : ∃ z, c.toD = z := ⟨_, rfl⟩
    rw [hCD] at e ⊢
    simp [cd__law_right_1_eq, e]
  · simp [el__law_right_4_eq]
theorem right_name {p : Bnd × Str} (hp : p ∈ allL x.1 x.2.f x.2.ps x.2.b) (M : Store) : ∃ X, sem (K + 6) f_name_of [pgD P, p.1.toD] M = .ok (.val (.str p.2)) (M ++ X) := by
  rcases all_ent x.1 x.2.f x.2.ps x.2.b hp with ⟨i, e, hi⟩ | ⟨q, a, d, e, hi⟩ | ⟨q, a, s, d, g, e, hi⟩ | ⟨q, a, s, d, g, e, hi⟩ <;> rw [e]
  · exact nameof_par h.fl h.find hi (K + 1) M
  · exact nameof_lt h.fl h.find hi (K + 1) M
  · exact nameof_cnt h.fl h.find hi (K + 1) M
  · exact nameof_sm h.fl h.find hi (K + 1) M
theorem right_uses (hK : K ≤ 299) {p : Bnd × Str} (hp : p ∈ allL x.1 x.2.f x.2.ps x.2.b) (M : Store) : ∃ X, sem (K + 6) f_uses_of [pgD P, p.1.toD] M = .ok (.own ((useC x.1 x.2.f x.2.ps x.2.b p.1).map (wayD x.1 x.2.f))) (M ++ X) := by
  have hin := ent_inB x.1 x.2.f x.2.ps x.2.b (all_ent x.1 x.2.f x.2.ps x.2.b hp)
  obtain ⟨X, e⟩ := usesof_ok K hK P p.1.toD M h.fl h.rows (bnd_bindT p.1) (Bnd.good (inB_ok h.ok1 h.ok2 hin)).1
  rw [uses_plain h.nd h.mem hin (fun r hr => by obtain ⟨y, c, _, _, h3⟩ := h.bnd r hr; exact ⟨c, h3⟩)] at e
  exact ⟨X, e⟩
theorem right_repr (c : Bnd) : ∃ sR, ∀ N, reprD N [.lst ((useC x.1 x.2.f x.2.ps x.2.b c).map (wayD x.1 x.2.f))] = some (.val (.str sR)) := by
  have hl : (useC x.1 x.2.f x.2.ps x.2.b c).length ≤ 7776 := Nat.le_trans (List.length_filter_le _ _) h.ulen
  have hf := ways_fit h.fm h.ff (useC x.1 x.2.f x.2.ps x.2.b c) hl fun r hr => by
    have hr' := (List.mem_filter.mp (List.mem_filter.mp hr).1).1
    exact ⟨h.row hr', h.small r hr'⟩
  exact ⟨_, fun N => hf.repr (by decide) (by decide) N⟩
end
end K06
namespace K06
open PySem L2 TP
set_option maxHeartbeats 4000000
theorem eq_pair (M : Store) {a b c d : Str} (ha : okStr a = true) (hb : okStr b = true) (hc : okStr c = true) (hd : okStr d = true) : eqD M (.tup [.str a, .str b]) (.tup [.str c, .str d]) = some (.val (.bl (decide (a = c) && decide (b = d)))) := by
  have g : ∀ {x y : Str}, okStr x = true → okStr y = true → goodD (.tup [.str x, .str y]) = true := fun {x y} hx hy => by
    have h1 : goodD (.str x) = true := hx
    have h2 : goodD (.str y) = true := hy
    rw [goodD, goodL, goodL, goodL, h1, h2]; rfl
  rw [eqD_of M (g ha hb) (g hc hd) (by simp [dpD, dpL])]
  have : eqvD (.tup [.str a, .str b]) (.tup [.str c, .str d]) = (eqvD (.str a) (.str c) && (eqvD (.str b) (.str d) && true)) := rfl
  rw [this, eqvD_str, eqvD_str, Bool.and_true]
def findR (P : Pr) (m f : Str) : Option Row := ((flat P).find? fun x => decide (x.1 = m) && decide (x.2.f = f)).map (·.2)
theorem found_rows (Φ : Nat → Fn) (s0 s4 : Slot) (m f nm : Str) (hm : okStr m = true) (hf : okStr f = true) (hn : okStr nm = true) (M : Store) : ∀ (rs : List Row) (s5 : Slot), (∀ r ∈ rs, okStr r.f = true) →
    (∃ s5', forGo (bName 5) (lp__law_found_0 Φ) (rs.map Row.toD) [s0, .val (.str m), .val (.str f), .val (.str nm), s4, s5] M = match (rs.map fun r => (nm, r)).find? (fun x => decide (x.1 = m) && decide (x.2.f = f)) with
      | some x => .ret (.val x.2.toD) M
      | none => .next [s0, .val (.str m), .val (.str f), .val (.str nm), s4, s5'] M)
  | [], s5, _ => ⟨s5, rfl⟩
  | r :: rs, s5, h => by
    obtain ⟨s5', ih⟩ := found_rows Φ s0 s4 m f nm hm hf hn M rs (.val r.toD) fun x hx => h x (List.mem_cons_of_mem _ hx)
    refine ⟨s5', ?_⟩
    have hr := h r List.mem_cons_self
    have hq := eq_pair M hn hr hm hf
    have i0 : idxD M r.toD (.int 0) = some (.val (.str r.f)) := rfl
    rw [List.map_cons, List.map_cons, List.find?_cons]
    unfold forGo
    rw [bName_eq]
    simp only [List.set_cons_succ, List.set_cons_zero]
    have hb : lp__law_found_0 Φ [s0, .val (.str m), .val (.str f), .val (.str nm), s4, .val r.toD] M = if (decide (nm = m) && decide (r.f = f)) = true then .ret (.val r.toD) M else .next [s0, .val (.str m), .val (.str f), .val (.str nm), s4, .val r.toD] M := by
      rw [lp__law_found_0_eq]
      by_cases hc : (decide (nm = m) && decide (r.f = f)) = true
      · rw [if_pos hc]
        rw [hc] at hq
        simp [i0, hq]
      · rw [if_neg hc]
        have hc' := Bool.eq_false_iff.mpr hc
        rw [hc'] at hq
        simp [i0, hq]
    rw [hb]
    by_cases hc : (decide (nm = m) && decide (r.f = f)) = true
    · rw [if_pos hc]
      simp only [hc]
    · rw [if_neg hc]
      simp only [Bool.eq_false_iff.mpr hc]
      exact ih
theorem found_mods (Φ : Nat → Fn) (s0 : Slot) (m f : Str) (hm : okStr m = true) (hf : okStr f = true) (M : Store) : ∀ (P : Pr) (s3 s4 s5 : Slot), (∀ q ∈ P, okStr q.1 = true ∧ ∀ r ∈ q.2, okStr r.f = true) →
    (∃ s3' s4' s5', forGo (bTup [3, 4]) (lp__law_found_1 Φ) (P.map rmD) [s0, .val (.str m), .val (.str f), s3, s4, s5] M = match (flat P).find? (fun x => decide (x.1 = m) && decide (x.2.f = f)) with
      | some x => .ret (.val x.2.toD) M
      | none => .next [s0, .val (.str m), .val (.str f), s3', s4', s5'] M)
  | [], s3, s4, s5, _ => ⟨s3, s4, s5, rfl⟩
  | (nm, rs) :: P, s3, s4, s5, h => by
    obtain ⟨hn, hrs⟩ := h (nm, rs) List.mem_cons_self
    obtain ⟨t5, hg⟩ := found_rows Φ s0 (.val (.tup (rs.map Row.toD))) m f nm hm hf hn M rs s5 hrs
    obtain ⟨u3, u4, u5, ih⟩ := found_mods Φ s0 m f hm hf M P (.val (.str nm)) (.val (.tup (rs.map Row.toD))) t5 fun q hq => h q (List.mem_cons_of_mem _ hq)
    refine ⟨u3, u4, u5, ?_⟩
    rw [List.map_cons, flat, List.find?_append]
    have hb : bTup [3, 4] (rmD (nm, rs)) [s0, .val (.str m), .val (.str f), s3, s4, s5] = some [s0, .val (.str m), .val (.str f), .val (.str nm), .val (.tup (rs.map Row.toD)), s5] := rfl
    unfold forGo
    rw [hb]
    have hit : itemsD (.tup (rs.map Row.toD)) = some (rs.map Row.toD) := rfl
    have hl : lp__law_found_1 Φ [s0, .val (.str m), .val (.str f), .val (.str nm), .val (.tup (rs.map Row.toD)), s5] M = match (rs.map fun r => (nm, r)).find? (fun x => decide (x.1 = m) && decide (x.2.f = f)) with
      | some x => .ret (.val x.2.toD) M
      | none => .next [s0, .val (.str m), .val (.str f), .val (.str nm), .val (.tup (rs.map Row.toD)), t5] M := by
      rw [lp__law_found_1_eq]
      cases hfd : (rs.map fun r => (nm, r)).find? (fun x => decide (x.1 = m) && decide (x.2.f = f)) with
      | none => rw [hfd] at hg; simp [hit, hg]
      | some x => rw [hfd] at hg; simp [hit, hg]
    simp only [hl]
    cases hfd : (rs.map fun r => (nm, r)).find? (fun x => decide (x.1 = m) && decide (x.2.f = f)) with
    | none =>
      simp only [Option.none_or]
      exact ih
    | some x => simp only [Option.some_or]
theorem found_ok (K : Nat) (P : Pr) (hP : ∀ q ∈ P, okStr q.1 = true ∧ ∀ r ∈ q.2, okStr r.f = true) (m f : Str) (hm : okStr m = true) (hf : okStr f = true) (r : Row) (h : findR P m f = some r) (M : Store) : sem (K + 1) f__law_found [pgD P, .str m, .str f] M = .ok (.val r.toD) M := by
  obtain ⟨s3, s4, s5, hg⟩ := found_mods (sem K) (.val (pgD P)) m f hm hf M P .un .un .un hP
  unfold findR at h
  cases hfd : (flat P).find? (fun x => decide (x.1 = m) && decide (x.2.f = f)) with
  | none => rw [hfd] at h; cases h
  | some x =>
    rw [hfd] at h hg
    cases h
    have hit : itemsD (pgD P) = some (P.map rmD) := rfl
    rw [e__law_found]
    simp [runF, m__law_found, startD, hit, hg]
theorem lfound_ok (K : Nat) {P : Pr} (hP : ∀ q ∈ P, okStr q.1 = true ∧ ∀ r ∈ q.2, okStr r.f = true) {m f : Str} (hm : okStr m = true) (hf : okStr f = true) {x : Str × Row} (h : (flat P).find? (isF m f) = some x) (M : Store) : sem (K + 1) f__law_found [pgD P, .str m, .str f] M = .ok (.val x.2.toD) M := by
  refine found_ok K P hP m f hm hf x.2 ?_ M
  have h' : (flat P).find? (fun x => decide (x.1 = m) && decide (x.2.f = f)) = some x := h
  unfold findR
  rw [h']; rfl
end K06
namespace K06
open PySem L2 TP
open BRep
set_option maxHeartbeats 8000000
theorem right_ok {P : Pr} {x : Str × Row} {K : Nat} (h : RightH P x K) (hK : 5 ≤ K) (hK2 : K ≤ 299) (M : Store) : ∃ X, sem (K + 7) f__law_right [pgD P, .str x.1, .str x.2.f] M = .ok (.val (.bl true)) (M ++ X) := by
  have hul := h.ulen
  have g0 : sem (K + 6) f__law_found [pgD P, .str x.1, .str x.2.f] M = .ok (.val x.2.toD) M := lfound_ok (K + 5) h.names h.ok1 h.ok2 h.find M
  obtain ⟨X1, g1⟩ := lrows_ok (K + 3) x.2.b M (by have := h.dep; omega) (by omega) (by have := h.cnt; omega)
  have g1' : sem (K + 6) f__law_rows [x.2.b.toD] M = .ok (.own ((Ex.rows x.2.b).map rowD)) (M ++ X1) := g1
  clear g1
  have PSd : x.2.toD = .tup [.str x.2.f, .tup (x.2.ps.map .str), x.2.b.toD] := rfl
  obtain ⟨X2, g2⟩ := right_ways h hK (.val (pgD P)) .un .un .un (.val (.str x.2.f)) (.val (.tup (x.2.ps.map .str))) .un .un .un .un .un .un .un (M ++ X1)
  obtain ⟨X3, g3⟩ := right_due h (.val (pgD P)) (.val (.str x.1)) (.val (.str x.2.f)) (.val (.lst ((urows x.2.b).map (wayD x.1 x.2.f)))) .un .un (.val (.str x.2.f)) .un .un .un .un .un .un .un (M ++ X1 ++ X2)
  obtain ⟨X4, g4⟩ := right_told h (.val (.str x.1)) (.val (.str x.2.f)) (.val (.lst ((urows x.2.b).map (wayD x.1 x.2.f)))) (.val (.lst ((urows x.2.b).map (dueD x.1 x.2.f x.2.ps x.2.b)))) .un (.val (.str x.2.f)) (.val (.tup (x.2.ps.map .str))) (.val x.2.b.toD) .un .un .un .un .un .un .un (M ++ X1 ++ X2 ++ X3)
  have g5 := fun S => right_ones h (.val (pgD P)) (.val (.str x.1)) (.val (.str x.2.f)) (.val (.lst ((urows x.2.b).map (wayD x.1 x.2.f)))) (.val (.lst ((urows x.2.b).map (dueD x.1 x.2.f x.2.ps x.2.b)))) .un (.val (.str x.2.f)) (.val (.tup (x.2.ps.map .str))) (.val x.2.b.toD) .un .un .un .un .un .un S
  have hne : ∀ N, neD N (.lst (((urows x.2.b).map (bnF x.1 x.2.f x.2.ps x.2.b)).map Bnd.toD)) (.lst (((urows x.2.b).map (bnF x.1 x.2.f x.2.ps x.2.b)).map Bnd.toD)) = some (.val (.bl false)) := fun N => by
    obtain ⟨b1, b2, b3⟩ := bnds_good ((urows x.2.b).map (bnF x.1 x.2.f x.2.ps x.2.b)) fun c hc => by
      obtain ⟨r, hr, rfl⟩ := List.mem_map.mp hc
      obtain ⟨_, _, _, h3⟩ := h.bn hr
      exact h3
    have gd : goodD (.lst (((urows x.2.b).map (bnF x.1 x.2.f x.2.ps x.2.b)).map Bnd.toD)) = true := by rw [goodD]; exact b1
    rw [neD_of N gd gd (by rw [dpD]; omega)]
    have : eqvD (.lst (((urows x.2.b).map (bnF x.1 x.2.f x.2.ps x.2.b)).map Bnd.toD)) (.lst (((urows x.2.b).map (bnF x.1 x.2.f x.2.ps x.2.b)).map Bnd.toD)) = true := by rw [eqvD]; exact b3
    rw [this]; rfl
  obtain ⟨X6, g6⟩ := all_ok x.1 x.2.f x.2.ps x.2.b (K + 2) (h.rows x h.mem).1 (by have := h.dep; omega) (by omega) (by have := h.cnt; omega) (M ++ X1 ++ X2 ++ X3 ++ X4)
  have g6' : sem (K + 6) f__law_all [.str x.1, .str x.2.f, .tup (x.2.ps.map .str), x.2.b.toD] (M ++ X1 ++ X2 ++ X3 ++ X4) = .ok (.own ((allL x.1 x.2.f x.2.ps x.2.b).map entD)) (M ++ X1 ++ X2 ++ X3 ++ X4 ++ X6) := g6
  clear g6
  have hperm := seen_perm x.1 x.2.f x.2.ps x.2.b 5 h.dep h.bnd
  have hseen : ((allL x.1 x.2.f x.2.ps x.2.b).flatMap fun p => (useC x.1 x.2.f x.2.ps x.2.b p.1).map (wayD x.1 x.2.f)) = ((((allL x.1 x.2.f x.2.ps x.2.b).map (·.1)).flatMap (useC x.1 x.2.f x.2.ps x.2.b)).map (wayD x.1 x.2.f)) := by
    rw [List.map_flatMap, List.flatMap_map]
  obtain ⟨X7, t9, t10, t11, t12, t15, g7⟩ := right_loop (Φ := sem (K + 6)) (PD := pgD P) (DU := (urows x.2.b).map (dueD x.1 x.2.f x.2.ps x.2.b)) (E := allL x.1 x.2.f x.2.ps x.2.b) (fun c => (useC x.1 x.2.f x.2.ps x.2.b c).map (wayD x.1 x.2.f)) (.val (.str x.1)) (.val (.str x.2.f)) (.val (.lst ((urows x.2.b).map (wayD x.1 x.2.f)))) (.val (.str x.2.f)) (.val (.tup (x.2.ps.map .str))) (.val x.2.b.toD)
    (fun p hp S => right_uses h hK2 hp S) (fun p hp S => right_name h hp S) (fun p _ => right_repr h p.1) (fun p hp s5 s10 s11 s12 s15 S => right_some h (inB_ok h.ok1 h.ok2 (ent_inB x.1 x.2.f x.2.ps x.2.b (all_ent x.1 x.2.f x.2.ps x.2.b hp))) _ _ _ _ _ _ _ _ _ _ _ _ _ _ S)
    (allL x.1 x.2.f x.2.ps x.2.b) [] .un .un .un .un .un (M ++ X1 ++ X2 ++ X3 ++ X4 ++ X6) (fun p hp => hp) (by
      rw [hseen, List.length_nil, List.length_map, hperm.length_eq]; omega)
  rw [List.nil_append, hseen] at g7
  have hsort := fun N => sort_ways N (m := x.1) (f := x.2.f) hperm
  have hsw : ∀ N, ∃ L, sortWD N [.lst ((urows x.2.b).map (wayD x.1 x.2.f))] = some (.own L) ∧ eqD N (.lst L) (.lst L) = some (.val (.bl true)) := fun N => by
    have e : (urows x.2.b).map (wayD x.1 x.2.f) = ((urows x.2.b).map fun r => r.map fun i => ((i : Nat) : Int)).map (wayDD x.1 x.2.f) := by
      rw [List.map_map]; exact List.map_congr_left fun r _ => way_dd x.1 x.2.f r
    rw [e, sortWD_lst]
    refine ⟨_, rfl, ?_⟩
    have one : ∀ l : List Int, goodL (l.map .int) = true ∧ dpL (l.map .int) = 0 ∧ eqvL (l.map .int) (l.map .int) = true := by
      intro l
      induction l with
      | nil => exact ⟨rfl, rfl, rfl⟩
      | cons i l ih =>
        obtain ⟨i1, i2, i3⟩ := ih
        refine ⟨?_, ?_, ?_⟩
        · rw [List.map_cons, goodL, i1]; rfl
        · rw [List.map_cons, dpL, i2]; rfl
        · rw [List.map_cons, eqvL, i3, eqvD_int, decide_eq_true rfl]; rfl
    have way : ∀ r : List Int, goodD (wayDD x.1 x.2.f r) = true ∧ dpD (wayDD x.1 x.2.f r) ≤ 1 ∧ eqvD (wayDD x.1 x.2.f r) (wayDD x.1 x.2.f r) = true := fun r => by
      obtain ⟨i1, i2, i3⟩ := one r
      have o1 : goodD (.str x.1) = true := h.ok1
      have o2 : goodD (.str x.2.f) = true := h.ok2
      have d0 : ∀ s : Str, dpD (.str s) = 0 := fun _ => rfl
      unfold wayDD
      refine ⟨?_, ?_, ?_⟩
      · rw [goodD, goodL, goodL, o1, o2, i1]; rfl
      · rw [dpD, dpL, dpL, d0, d0, i2]; decide
      · rw [eqvD, eqvL, eqvL, eqvD_str, eqvD_str, decide_eq_true rfl, decide_eq_true rfl, i3]; rfl
    have all : ∀ l : List (List Int), goodL (l.map (wayDD x.1 x.2.f)) = true ∧ dpL (l.map (wayDD x.1 x.2.f)) ≤ 1 ∧ eqvL (l.map (wayDD x.1 x.2.f)) (l.map (wayDD x.1 x.2.f)) = true := by
      intro l
      induction l with
      | nil => exact ⟨rfl, Nat.zero_le _, rfl⟩
      | cons i l ih =>
        obtain ⟨i1, i2, i3⟩ := ih
        obtain ⟨w1, w2, w3⟩ := way i
        refine ⟨?_, ?_, ?_⟩
        · rw [List.map_cons, goodL, i1, w1]; rfl
        · rw [List.map_cons, dpL]; omega
        · rw [List.map_cons, eqvL, i3, w3]; rfl
    obtain ⟨a1, a2, a3⟩ := all (sortL ((urows x.2.b).map fun r => r.map fun i => ((i : Nat) : Int)))
    have gd : goodD (.lst ((sortL ((urows x.2.b).map fun r => r.map fun i => ((i : Nat) : Int))).map (wayDD x.1 x.2.f))) = true := by rw [goodD]; exact a1
    rw [eqD_of N gd gd (by rw [dpD]; omega)]
    rw [eqvD, a3]
  obtain ⟨SL, hs1, hs2⟩ := hsw (M ++ X1 ++ X2 ++ X3 ++ X4 ++ X6 ++ X7)
  have hs0 := hsort (M ++ X1 ++ X2 ++ X3 ++ X4 ++ X6 ++ X7)
  rw [hs1] at hs0
  clear hsort hsw hperm hseen
  refine ⟨X1 ++ X2 ++ X3 ++ X4 ++ X6 ++ X7, ?_⟩
  have hS : M ++ (X1 ++ X2 ++ X3 ++ X4 ++ X6 ++ X7) = M ++ X1 ++ X2 ++ X3 ++ X4 ++ X6 ++ X7 := by simp
  rw [hS, e__law_right]
  clear hS
  rw [PSd] at g0
  obtain ⟨DUL, hDU⟩ : ∃ z, (urows x.2.b).map (dueD x.1 x.2.f x.2.ps x.2.b) = z := ⟨_, rfl⟩
  rw [hDU] at g3 g4 g5 g7
  obtain ⟨SEEN, hSE⟩ : ∃ z, ((((allL x.1 x.2.f x.2.ps x.2.b).map (·.1)).flatMap (useC x.1 x.2.f x.2.ps x.2.b)).map (wayD x.1 x.2.f)) = z := ⟨_, rfl⟩
  rw [hSE] at g7 hs0
  obtain ⟨WL, hWL⟩ : ∃ z, (urows x.2.b).map (wayD x.1 x.2.f) = z := ⟨_, rfl⟩
  rw [hWL] at g2 g3 g4 g5 g7 hs1
  obtain ⟨BL, hBL⟩ : ∃ z, ((urows x.2.b).map (bnF x.1 x.2.f x.2.ps x.2.b)).map Bnd.toD = z := ⟨_, rfl⟩
  rw [hBL] at g4 g5 hne
  obtain ⟨RL, hRL⟩ : ∃ z, (Ex.rows x.2.b).map rowD = z := ⟨_, rfl⟩
  rw [hRL] at g1' g2
  obtain ⟨AL, hAL⟩ : ∃ z, (allL x.1 x.2.f x.2.ps x.2.b).map entD = z := ⟨_, rfl⟩
  rw [hAL] at g6' g7
  obtain ⟨PS, hPS⟩ : ∃ z, D.tup (x.2.ps.map .str) = z := ⟨_, rfl⟩
  rw [hPS] at g0 g2 g3 g4 g5 g6' g7
  obtain ⟨BD, hBD⟩ : ∃ z, x.2.b.toD = z := ⟨_, rfl⟩
  rw [hBD] at g0 g1' g2 g3 g4 g5 g6' g7
  obtain ⟨PD, hPD⟩ : ∃ z, pgD P = z := ⟨_, rfl⟩
  rw [hPD] at g0 g2 g3 g4 g5 g7 ⊢
  have hst : startD 17 [PD, .str x.1, .str x.2.f] = [.val PD, .val (.str x.1), .val (.str x.2.f), .un, .un, .un, .un, .un, .un, .un, .un, .un, .un, .un, .un, .un, .un] := rfl
  have q0 : (sAsg (bTup [6, 7, 8]) (dEF (dCall 3 (sem (K + 6) f__law_found) (dCons (dVar 0) (dCons (dVar 1) (dCons (dVar 2) dNil)))))) [.val PD, .val (.str x.1), .val (.str x.2.f), .un, .un, .un, .un, .un, .un, .un, .un, .un, .un, .un, .un, .un, .un] M = .next [.val PD, .val (.str x.1), .val (.str x.2.f), .un, .un, .un, .val (.str x.2.f), .val PS, .val BD, .un, .un, .un, .un, .un, .un, .un, .un] M := by
    simp [bTup, bNames, g0]
  have q1 : (sSet 3 (dLc (dIt (dEF (dCall 1 (sem (K + 6) f__law_rows) (dCons (dVar 8) dNil)))) (bName 13) (cd__law_right_0 (sem (K + 6))) (el__law_right_0 (sem (K + 6))) [13])) [.val PD, .val (.str x.1), .val (.str x.2.f), .un, .un, .un, .val (.str x.2.f), .val PS, .val BD, .un, .un, .un, .un, .un, .un, .un, .un] M = .next [.val PD, .val (.str x.1), .val (.str x.2.f), .own WL, .un, .un, .val (.str x.2.f), .val PS, .val BD, .un, .un, .un, .un, .un, .un, .un, .un] (M ++ X1 ++ X2) := by
    have hit : itemsD (.lst RL) = some RL := rfl
    simp [-List.append_assoc, g1', hit, wipeD, g2]
  have q2 : (sFz 3 (sSet 4 (dLc (dIt (dVar 3)) (bName 14) dYes (el__law_right_1 (sem (K + 6))) [14]))) [.val PD, .val (.str x.1), .val (.str x.2.f), .own WL, .un, .un, .val (.str x.2.f), .val PS, .val BD, .un, .un, .un, .un, .un, .un, .un, .un] (M ++ X1 ++ X2) = .next [.val PD, .val (.str x.1), .val (.str x.2.f), .val (.lst WL), .own DUL, .un, .val (.str x.2.f), .val PS, .val BD, .un, .un, .un, .un, .un, .un, .un, .un] (M ++ X1 ++ X2 ++ X3) := by
    have hit : itemsD (.lst WL) = some WL := rfl
    simp [-List.append_assoc, hit, wipeD, g3]
  have q3 : (sFz 4 (sFz 3 (sIf (dBo (dOp2 neD (dEF (dLc (dIt (dVar 3)) (bName 14) dYes (el__law_right_2 (sem (K + 6))) [14])) (dEF (dLc (dIt (dVar 4)) (bTup [14, 16]) dYes (el__law_right_3 (sem (K + 6))) [14, 16])))) (sSeq (sRet (dFE (dC (.bl false)))) sNil) sNil))) [.val PD, .val (.str x.1), .val (.str x.2.f), .val (.lst WL), .own DUL, .un, .val (.str x.2.f), .val PS, .val BD, .un, .un, .un, .un, .un, .un, .un, .un] (M ++ X1 ++ X2 ++ X3) = .next [.val PD, .val (.str x.1), .val (.str x.2.f), .val (.lst WL), .val (.lst DUL), .un, .val (.str x.2.f), .val PS, .val BD, .un, .un, .un, .un, .un, .un, .un, .un] (M ++ X1 ++ X2 ++ X3 ++ X4) := by
    have hit : itemsD (.lst WL) = some WL := rfl
    have hit2 : itemsD (.lst DUL) = some DUL := rfl
    simp [-List.append_assoc, hit, hit2, wipeD, g4, g5, hne]
  have q4 : (sSet 5 (dFE (dEF (dLst dNil)))) [.val PD, .val (.str x.1), .val (.str x.2.f), .val (.lst WL), .val (.lst DUL), .un, .val (.str x.2.f), .val PS, .val BD, .un, .un, .un, .un, .un, .un, .un, .un] (M ++ X1 ++ X2 ++ X3 ++ X4) = .next [.val PD, .val (.str x.1), .val (.str x.2.f), .val (.lst WL), .val (.lst DUL), .val (.lst []), .val (.str x.2.f), .val PS, .val BD, .un, .un, .un, .un, .un, .un, .un, .un] (M ++ X1 ++ X2 ++ X3 ++ X4) := by
    simp [-List.append_assoc]
  have q5 : (sFor (dIt (dEF (dCall 4 (sem (K + 6) f__law_all) (dCons (dVar 1) (dCons (dVar 2) (dCons (dVar 7) (dCons (dVar 8) dNil))))))) (bTup [9, 10]) (lp__law_right_1 (sem (K + 6)))) [.val PD, .val (.str x.1), .val (.str x.2.f), .val (.lst WL), .val (.lst DUL), .val (.lst []), .val (.str x.2.f), .val PS, .val BD, .un, .un, .un, .un, .un, .un, .un, .un] (M ++ X1 ++ X2 ++ X3 ++ X4) = .next [.val PD, .val (.str x.1), .val (.str x.2.f), .val (.lst WL), .val (.lst DUL), .val (.lst SEEN), .val (.str x.2.f), .val PS, .val BD, t9, t10, t11, t12, .un, .un, t15, .un] (M ++ X1 ++ X2 ++ X3 ++ X4 ++ X6 ++ X7) := by
    have hit : itemsD (.lst AL) = some AL := rfl
    simp [-List.append_assoc, g6', hit, g7]
  have q6 : (sRet (dOp2 eqD (dEF (dPr sortWD (dCons (dVarB 5) dNil))) (dEF (dPr sortWD (dCons (dVarB 3) dNil))))) [.val PD, .val (.str x.1), .val (.str x.2.f), .val (.lst WL), .val (.lst DUL), .val (.lst SEEN), .val (.str x.2.f), .val PS, .val BD, t9, t10, t11, t12, .un, .un, t15, .un] (M ++ X1 ++ X2 ++ X3 ++ X4 ++ X6 ++ X7) = .ret (.val (.bl true)) (M ++ X1 ++ X2 ++ X3 ++ X4 ++ X6 ++ X7) := by
    simp [-List.append_assoc, hs0, hs1, hs2]
  unfold runF m__law_right
  rw [hst, seq1 q0, seq1 q1, seq1 q2, seq1 q3, seq1 q4, seq1 q5, seqR q6]
end K06
namespace K06
open PySem L2 TP
set_option maxHeartbeats 2000000
theorem names_pre (Φ : Nat → Fn) (n : Int) (M : Store) : m__law_names Φ (startD 5 [.int n]) M = (sSeq (sSet 2 (dOp2 idxD (dVarB 2) (dEF (dOp2 TP.modD (dVarB 0) (dC (.int 3)))))) (sSeq (sRet (dLc (dRng1 (dCons (dC (.int 16)) dNil)) (bName 3) dYes (el__law_names_4 Φ) [3])) sNil)) [.val (.int n), .val (.str "qzbmxkcwhvjpgyld"), .own (pools.map fun l => .lst (l.map .str)), .un, .un] M := by kernel_rfl
theorem names_ok (K : Nat) (n : Int) (M : Store) : sem (K + 1) f__law_names [.int n] M = .ok (.own ((namesL n).map .str)) M := by
  rw [e__law_names]
  unfold runF
  rw [names_pre]
  have h1 : atI (pools.map fun l => D.lst (l.map .str)) (n % 3) = some (.lst ((pool n).map .str)) := by
    rw [atI_map, (pool_mem n).2]; rfl
  have h2 : lcGo (bName 3) dYes (el__law_names_4 (sem K)) [.val (.int n), .val (.str "qzbmxkcwhvjpgyld"), .val (.lst ((pool n).map .str)), .un, .un] (rngL 0 16) [] M = .ok ((rngL 0 16).map fun d => match d with | .int k => .str (nameAt n k) | _ => .non) M := by
    refine lcGo_map _ _ (fun d hd => ?_) (by rw [rngL_len, szL]; omega)
    obtain ⟨i, hi⟩ := List.getElem?_of_mem hd
    obtain ⟨hi1, rfl⟩ := rngL_get hi
    have h3 : atI ((pool n).map D.str) (spotAt n (0 + (i : Int))) = some (.str (nameAt n (0 + (i : Int)))) := by
      rw [atI_map, (nameAt_mem n _).2]; rfl
    unfold spotAt at h3
    have m1 : ∀ x, mulOk 2 x = true := fun x => mulOk_l (by decide) (by decide)
    have m2 : mulOk (2 * (n / 48 % 8) + 1) (0 + (i : Int)) = true := mulOk_l (by omega) (by omega)
    refine ⟨_, rfl, ?_⟩
    rw [Int.zero_add] at h3 m2 ⊢
    simp [el__law_names_4_eq, m1, m2, h3]
  have h4 : ((rngL 0 16).map fun d => match d with | .int k => D.str (nameAt n k) | _ => .non) = (namesL n).map .str := by
    unfold namesL rngL
    rw [List.map_map, List.map_map]
    apply List.map_congr_left
    intro k _
    show D.str (nameAt n (0 + (k : Int))) = D.str (nameAt n (k : Int))
    rw [Int.zero_add]
  rw [h4] at h2
  have h5 : rng1D [.int 16] = some (rngL 0 16) := rfl
  simp [-rng1D_int, h1, h5, wipeD, h2]
theorem number_ok (K : Nat) (n : Int) (M : Store) : ∃ r : Int, sem (K + 1) f__law_number [.int n] M = .ok (.val (.int r)) M ∧ -(10 ^ 30) ≤ r ∧ r ≤ 10 ^ 30 := by
  rw [e__law_number]
  obtain ⟨a, ha, haa⟩ := atI_mem (xs := [(10 : Int) ^ 30, -(10 ^ 30), 1001, 0]) (i := n / 12 % 4) (by omega) (by show _ < (4 : Int); omega)
  obtain ⟨r, hr, hra⟩ := atI_mem (xs := [n / 12 % 5, n / 12 % 5 - 2, n / 12 % 100, a]) (i := n % 12 / 3) (by omega) (by show _ < (4 : Int); omega)
  have h1 := atI_map D.int [(10 : Int) ^ 30, -(10 ^ 30), 1001, 0] (n / 12 % 4)
  have h2 := atI_map D.int [n / 12 % 5, n / 12 % 5 - 2, n / 12 % 100, a] (n % 12 / 3)
  rw [haa] at h1
  rw [hra] at h2
  simp at h1 h2
  refine ⟨r, ?_, ?_⟩
  · simp [runF, m__law_number, startD, h1, h2]
  · simp only [List.mem_cons, List.not_mem_nil, or_false] at ha hr
    rcases hr with rfl | rfl | rfl | rfl
    · omega
    · omega
    · omega
    · rcases ha with rfl | rfl | rfl | rfl <;> omega
theorem goodStrs1 : ∀ (sc : List Str), (∀ x ∈ sc, okStr x = true) → goodL (sc.map .str) = true ∧ dpL (sc.map .str) = 0
  | [], _ => ⟨rfl, rfl⟩
  | s :: sc, h => by
    obtain ⟨h1, h2⟩ := goodStrs1 sc fun x hx => h x (List.mem_cons_of_mem _ hx)
    have h3 : goodD (.str s) = true := h s List.mem_cons_self
    have h4 : dpD (.str s) = 0 := rfl
    rw [List.map_cons, goodL, dpL, h1, h2, h3, h4]
    exact ⟨rfl, rfl⟩
theorem goodStrs {sc : List Str} (h : ∀ x ∈ sc, okStr x = true) : goodD (.lst (sc.map .str)) = true ∧ dpD (.lst (sc.map .str)) ≤ 190 := by
  obtain ⟨h1, h2⟩ := goodStrs1 sc h
  rw [goodD, dpD, h1, h2]
  exact ⟨rfl, by decide⟩
theorem leaf_ok (K : Nat) (at_ : D) (sc : List Str) (hsc : ∀ x ∈ sc, okStr x = true) (n : Int) (M : Store) (nm : Str → Prop) (ah : Str → Str → Nat → Prop) : ∃ e : Ex, sem (K + 2) f__law_leaf [at_, .lst (sc.map .str), .int n] M = .ok (.val e.toD) M ∧ Ex.Wf nm ah sc e ∧ e.dep = 0 ∧ e.cnt = 1 := by
  obtain ⟨r, hr, hr0, hr1⟩ := number_ok K (n / 4) M
  rw [e__law_leaf]
  cases sc with
  | nil =>
    refine ⟨.num r, ?_, by rw [Ex.Wf]; exact ⟨hr0, hr1⟩, by rw [Ex.dep], by rw [Ex.cnt]⟩
    have hne : ∀ M, neD M (.lst []) (.lst []) = some (.val (.bl false)) := fun M => rfl
    simp [runF, m__law_leaf, startD, hne, hr, Ex.toD]
  | cons s ss =>
    have hg := goodStrs hsc
    have hne : ∀ M, neD M (.lst ((s :: ss).map .str)) (.lst []) = some (.val (.bl true)) := fun M => by
      rw [neD_of M hg.1 (by decide +kernel) hg.2]
      rfl
    by_cases hn : 0 < n % 4
    · have hl : (0 : Int) < ((s :: ss).length : Int) := by simp
      obtain ⟨x, hx, hxa⟩ := atI_mem (xs := s :: ss) (i := n / 4 % ((s :: ss).length : Int)) (Int.emod_nonneg _ (by omega)) (Int.emod_lt_of_pos _ hl)
      have h2 := atI_map D.str (s :: ss) (n / 4 % ((s :: ss).length : Int))
      rw [hxa] at h2
      refine ⟨.use x, ?_, by rw [Ex.Wf]; exact hx, by rw [Ex.dep], by rw [Ex.cnt]⟩
      have hl' : 0 < (s :: ss).length := by simp
      generalize hL : s :: ss = L at *
      simp [runF, m__law_leaf, startD, hne, hn, hl', h2, Ex.toD]
    · refine ⟨.num r, ?_, by rw [Ex.Wf]; exact ⟨hr0, hr1⟩, by rw [Ex.dep], by rw [Ex.cnt]⟩
      generalize hL : s :: ss = L at *
      simp [runF, m__law_leaf, startD, hne, hn, hr, Ex.toD]
def CellsD (c : D) : Prop := ∃ ns : List Int, ns.length ≤ 63 ∧ (c = .fro (ns.map .int) ∨ c = .lst (ns.map .int))
theorem cell1 (K : Nat) {c : D} (hc : CellsD c) {j : Nat} {k : Int} {M : Store} (hj : M[j]? = some (.lst [.int k])) (h0 : -1 ≤ k) (h1 : k < 2 ^ 40) :
    ∃ r : Int, 0 ≤ r ∧ sem (K + 1) f__law_cell [c, .ref j] M = .ok (.val (.int r)) (M.set j (.lst [.int (k + 1)])) := by
  obtain ⟨ns, hl, rfl | rfl⟩ := hc
  · exact cell_fro ns j k M hl hj h0 h1
  · exact cell_ok ns j k M hl hj h0 h1
end K06
namespace K06
open PySem L2 TP
set_option maxHeartbeats 4000000
structure Ah where
  m : Str
  f : Str
  k : Nat
  q : Bool
def Ah.toD (r : Ah) : D := .tup [.str r.m, .str r.f, .int r.k, .bl r.q]
def AhOk (ah : List Ah) : Prop := ah.length ≤ 1000 ∧ ∀ r ∈ ah, okStr r.m = true ∧ okStr r.f = true ∧ r.k ≤ 5
def ahP (ah : List Ah) (m f : Str) (k : Nat) : Prop := ∃ r ∈ ah, r.m = m ∧ r.f = f ∧ r.k = k
def AtOk (M : Store) (a : Nat) (n : Int) (ah : List Ah) (q : Bool) : Prop := ∃ kvs : List (Key × D), M[a]? = some (.dK kvs) ∧ lookD kvs (.inr "names") = some (.lst ((namesL n).map .str)) ∧ lookD kvs (.inr "ahead") = some (.lst (ah.map Ah.toD)) ∧ lookD kvs (.inr "quiet") = some (.bl q)
theorem AtOk.set {M : Store} {a j : Nat} {n : Int} {ah : List Ah} {q : Bool} {o : MO} (h : AtOk M a n ah q) (hj : j ≠ a) : AtOk (M.set j o) a n ah q := by
  obtain ⟨kvs, h1, h2⟩ := h
  exact ⟨kvs, by rw [List.getElem?_set_ne hj]; exact h1, h2⟩
theorem at_names {M : Store} {a : Nat} {n : Int} {ah : List Ah} {q : Bool} (h : AtOk M a n ah q) : dgetD M (.ref a) (.str "names") = some (.val (.lst ((namesL n).map .str))) := by
  obtain ⟨kvs, h1, h2, h3, h4⟩ := h
  simp [dgetD, dGetO, h1, keyD, h2]
theorem at_ahead {M : Store} {a : Nat} {n : Int} {ah : List Ah} {q : Bool} (h : AtOk M a n ah q) : dgetD M (.ref a) (.str "ahead") = some (.val (.lst (ah.map Ah.toD))) := by
  obtain ⟨kvs, h1, h2, h3, h4⟩ := h
  simp [dgetD, dGetO, h1, keyD, h3]
theorem at_quiet {M : Store} {a : Nat} {n : Int} {ah : List Ah} {q : Bool} (h : AtOk M a n ah q) : dgetD M (.ref a) (.str "quiet") = some (.val (.bl q)) := by
  obtain ⟨kvs, h1, h2, h3, h4⟩ := h
  simp [dgetD, dGetO, h1, keyD, h4]
def ExprOk (K d : Nat) : Prop := ∀ (cs : D) (j a : Nat) (c : Int) (M : Store) (n : Int) (ah : List Ah) (q : Bool) (sc : List Str) (dI : Int), dI = d → CellsD cs → j ≠ a → M[j]? = some (.lst [.int c]) → -1 ≤ c → c + 8 ^ d < 2 ^ 39 → AtOk M a n ah q → AhOk ah → (∀ x ∈ sc, x ∈ namesL n) → sc.length + 2 * d ≤ 100 →
  ∃ (e : Ex) (c' : Int), sem K f__law_expression [cs, .ref j, .ref a, .lst (sc.map .str), .int dI] M = .ok (.val e.toD) (M.set j (.lst [.int c'])) ∧ Ex.Wf (· ∈ namesL n) (ahP ah) sc e ∧ e.dep ≤ d ∧ e.cnt ≤ 6 ^ d ∧ c < c' ∧ c' ≤ c + 8 ^ d
def PartOk (f K d : Nat) : Prop := ∀ (cs : D) (j a : Nat) (c : Int) (M : Store) (n : Int) (ah : List Ah) (q : Bool) (sc : List Str) (m : Int) (dI : Int), dI = d + 2 → CellsD cs → j ≠ a → M[j]? = some (.lst [.int c]) → -1 ≤ c → c + 8 ^ (d + 2) < 2 ^ 39 + 1 → AtOk M a n ah q → AhOk ah → (∀ x ∈ sc, x ∈ namesL n) → sc.length + 2 * (d + 2) ≤ 100 →
  ∃ (e : Ex) (c' : Int), sem K f [cs, .ref j, .ref a, .lst (sc.map .str), .int dI, .int m] M = .ok (.val e.toD) (M.set j (.lst [.int c'])) ∧ Ex.Wf (· ∈ namesL n) (ahP ah) sc e ∧ e.dep ≤ d + 2 ∧ e.cnt ≤ 6 ^ (d + 2) ∧ c ≤ c' ∧ c' + 1 ≤ c + 8 ^ (d + 2)
theorem pow8 (d : Nat) : (8 : Int) ^ (d + 1) = 8 * 8 ^ d := by rw [Int.pow_succ, Int.mul_comm]
theorem pow6 (d : Nat) : (6 : Nat) ^ (d + 2) = 6 * 6 ^ (d + 1) ∧ 6 ^ (d + 1) = 6 * 6 ^ d ∧ 1 ≤ 6 ^ d := ⟨by rw [Nat.pow_succ, Nat.mul_comm], by rw [Nat.pow_succ, Nat.mul_comm], by have := @Nat.pow_le_pow_left 1 6 (by decide) d; rwa [Nat.one_pow] at this⟩
theorem pow8pos : ∀ d : Nat, (1 : Int) ≤ 8 ^ d
  | 0 => by decide
  | d + 1 => by rw [pow8]; have := pow8pos d; omega
theorem sign_at (n : Int) (q : Bool) : ∃ s ∈ signs, ∃ ch : Nat, atI (Str.ofString "+-*=</&").cps.toList (n % (if q = true then 5 else 7)) = some ch ∧ (⟨#[ch]⟩ : Str) = s ∧ okStr s = true := by
  have h0 : 0 ≤ n % (if q then 5 else 7) ∧ n % (if q then 5 else 7) < 7 := by cases q <;> simp <;> omega
  obtain ⟨s, hs, ha⟩ := atI_mem (xs := signs) (i := n % (if q then 5 else 7)) h0.1 h0.2
  have h1 : signs.all (fun s => decide ((⟨#[s.cps.toList.headD 0]⟩ : Str) = s) && okStr s) = true := by decide +kernel
  have h2 := List.all_eq_true.mp h1 s hs
  simp only [Bool.and_eq_true, decide_eq_true_eq] at h2
  refine ⟨s, hs, s.cps.toList.headD 0, ?_, h2.1, h2.2⟩
  have h3 : (Str.ofString "+-*=</&").cps.toList = signs.map fun s => s.cps.toList.headD 0 := by decide +kernel
  rw [h3, atI_map, ha]
  rfl
theorem op_ok {K d : Nat} (ih : ExprOk K (d + 1)) : PartOk f__law_op (K + 1) d := by
  intro cs j a c M n ah q sc m dI hd hcs hja hj h0 h1 hat hah hsc hl
  rw [e__law_op]
  have hp : (8 : Int) ^ (d + 2) = 8 * 8 ^ (d + 1) := pow8 (d + 1)
  have hp1 := pow8pos (d + 1)
  have h6 := pow6 d
  obtain ⟨s, hs, ch, hsa, hse, hso⟩ := sign_at m q
  obtain ⟨e1, c1, r1, w1, d1, n1, l1, u1⟩ := ih cs j a c M n ah q sc (dI - 1) (by omega) hcs hja hj h0 (by omega) hat hah hsc (by omega)
  obtain ⟨e2, c2, r2, w2, d2, n2, l2, u2⟩ := ih cs j a c1 (M.set j (.lst [.int c1])) n ah q sc (dI - 1) (by omega) hcs hja (get_set hj) (by omega) (by omega) (hat.set hja) hah hsc (by omega)
  rw [set_set] at r2
  have hi : intD M [.bl q] = some (.val (.int (if q = true then 1 else 0))) := by cases q <;> rfl
  have hx : atI [D.int 7, D.int 5] (if q = true then 1 else 0) = some (.int (if q = true then 5 else 7)) := by cases q <;> rfl
  have hpos : (0 : Int) < (if q = true then 5 else 7) := by cases q <;> decide
  have hlen : (Str.ofString "+-*=</&").length ≤ 16777216 := by decide +kernel
  generalize (if q = true then (5 : Int) else 7) = md at hx hpos hsa
  by_cases hstar : s = "*"
  · have he : ∀ M, eqD M (.str s) (.str "*") = some (.val (.bl true)) := fun M => by rw [eqD_str M hso (by decide +kernel), decide_eq_true hstar]
    refine ⟨.op s e1 (.num (m / 7 % 1000 - 3)), c1, ?_, ?_, ?_, by rw [Ex.cnt, Ex.cnt]; omega, by omega, by omega⟩
    · simp [runF, m__law_op, startD, at_quiet hat, hi, hx, hpos, hlen, hsa, hse, r1, he, Ex.toD]
    · rw [Ex.Wf, Ex.Wf]
      exact ⟨hs, w1, by omega, by omega⟩
    · rw [Ex.dep, Ex.dep]; omega
  · have he : ∀ M, eqD M (.str s) (.str "*") = some (.val (.bl false)) := fun M => by rw [eqD_str M hso (by decide +kernel), decide_eq_false hstar]
    refine ⟨.op s e1 e2, c2, ?_, ?_, ?_, by rw [Ex.cnt]; omega, by omega, by omega⟩
    · simp [runF, m__law_op, startD, at_quiet hat, hi, hx, hpos, hlen, hsa, hse, r1, r2, he, Ex.toD]
    · rw [Ex.Wf]
      exact ⟨hs, w1, w2⟩
    · rw [Ex.dep]; omega
theorem draws {K d : Nat} (ih : ExprOk K (d + 1)) {el : FD} {b : D → EnvD → Option EnvD} {ρ0 : EnvD} {cs : D} {j a : Nat} {c : Int} {M : Store} {n : Int} {ah : List Ah} {q : Bool} {sc : List Str} {dI : Int} (hd : dI = d + 2) (hcs : CellsD cs) (hja : j ≠ a) (hj : M[j]? = some (.lst [.int c])) (h0 : -1 ≤ c) (h1 : c + 5 * 8 ^ (d + 1) < 2 ^ 39) (hat : AtOk M a n ah q) (hah : AhOk ah) (hsc : ∀ x ∈ sc, x ∈ namesL n) (hl : sc.length + 2 * (d + 2) ≤ 100)
    (hel : ∀ x N, ∃ ρ1, b x ρ0 = some ρ1 ∧ el ρ1 N = (sem K f__law_expression [cs, .ref j, .ref a, .lst (sc.map .str), .int (dI - 1)] N).map Slot.d) (k : Nat) (hk : k ≤ 5) :
    ∃ (es : List Ex) (c' : Int), lcGo b dYes el ρ0 (rngL 0 k) [] M = .ok (es.map Ex.toD) (M.set j (.lst [.int c'])) ∧ es.length = k ∧ (∀ e ∈ es, Ex.Wf (· ∈ namesL n) (ahP ah) sc e ∧ e.dep ≤ d + 1 ∧ e.cnt ≤ 6 ^ (d + 1)) ∧ c ≤ c' ∧ c' ≤ c + 5 * 8 ^ (d + 1) := by
  have hB := pow8pos (d + 1)
  obtain ⟨res, M', h, ⟨es, c', e1, e2, e3, e4, e5, e6⟩, hlen⟩ := lcGo_inv (b := b) (f := el) (ρ0 := ρ0)
    (fun i acc N => ∃ (es : List Ex) (c' : Int), acc = es.map Ex.toD ∧ es.length = i ∧ N = M.set j (.lst [.int c']) ∧ (∀ e ∈ es, Ex.Wf (· ∈ namesL n) (ahP ah) sc e ∧ e.dep ≤ d + 1 ∧ e.cnt ≤ 6 ^ (d + 1)) ∧ c ≤ c' ∧ c' ≤ c + i * 8 ^ (d + 1)) (rngL 0 k) (by rw [rngL_len, szL]; omega)
    (fun i x acc N hx ⟨es, c', e1, e2, e3, e4, e5, e6⟩ => by
      obtain ⟨hi, rfl⟩ := rngL_get hx
      subst e1 e3
      have hi5 : (i : Int) * 8 ^ (d + 1) ≤ 4 * 8 ^ (d + 1) := Int.mul_le_mul_of_nonneg_right (by omega) (by omega)
      obtain ⟨e, c2, r, w, dd, nn, l, u⟩ := ih cs j a c' (M.set j (.lst [.int c'])) n ah q sc (dI - 1) (by omega) hcs hja (get_set hj) (by omega) (by omega) (hat.set hja) hah hsc (by omega)
      rw [set_set] at r
      obtain ⟨ρ1, hb, he⟩ := hel (.int (0 + (i : Int))) (M.set j (.lst [.int c']))
      rw [r] at he
      refine ⟨ρ1, hb, e.toD, _, he, es ++ [e], c2, by simp, by simp [e2], rfl, ?_, by omega, ?_⟩
      · intro y hy
        rcases List.mem_append.mp hy with hy | hy
        · exact e4 y hy
        · rw [List.mem_singleton] at hy; subst hy; exact ⟨w, dd, nn⟩
      · have : ((i + 1 : Nat) : Int) * 8 ^ (d + 1) = (i : Int) * 8 ^ (d + 1) + 8 ^ (d + 1) := by
          rw [Int.natCast_add, Int.add_mul]; simp
        omega) k 0 [] M (by rw [rngL_len]; rfl) rfl ⟨[], c, rfl, rfl, (set_self hj).symm, by simp, by omega, by simp⟩
  rw [rngL_len] at e2 e6
  subst e1 e3
  have hk5 : (k : Int) * 8 ^ (d + 1) ≤ 5 * 8 ^ (d + 1) := Int.mul_le_mul_of_nonneg_right (by omega) (by omega)
  exact ⟨es, c', by simpa using h, e2, e4, e5, by omega⟩
theorem goodAh1 : ∀ (ah : List Ah), (∀ r ∈ ah, okStr r.m = true ∧ okStr r.f = true ∧ r.k ≤ 5) → goodL (ah.map Ah.toD) = true ∧ dpL (ah.map Ah.toD) ≤ 1
  | [], _ => ⟨rfl, by decide⟩
  | r :: ah, h => by
    obtain ⟨h1, h2⟩ := goodAh1 ah fun x hx => h x (List.mem_cons_of_mem _ hx)
    obtain ⟨h3, h4, _⟩ := h r List.mem_cons_self
    have h5 : goodD (.str r.m) = true := h3
    have h6 : goodD (.str r.f) = true := h4
    have h7 : goodD r.toD = true := by
      have e1 : goodD (.int r.k) = true := by rw [goodD]
      have e2 : goodD (.bl r.q) = true := by rw [goodD]
      have e3 : goodD (.tup [.str r.m, .str r.f, .int r.k, .bl r.q]) = goodL [.str r.m, .str r.f, .int r.k, .bl r.q] := by rw [goodD]
      rw [Ah.toD, e3, goodL, goodL, goodL, goodL, goodL, h5, h6, e1, e2]
      rfl
    have h8 : dpD r.toD = 1 := rfl
    rw [List.map_cons, goodL, dpL, h1, h7, h8]
    exact ⟨rfl, by omega⟩
theorem call_rows (K : Nat) (cs : D) (j a : Nat) (M : Store) (n : Int) (ah : List Ah) (q : Bool) (sc : List Str) (m dI : Int) (hat : AtOk M a n ah q) (hah : ah.length ≤ 1000) : lcGo (bName 11) (cd__law_call_0 (sem K)) (el__law_call_0 (sem K)) [.val cs, .val (.ref j), .val (.ref a), .val (.lst (sc.map .str)), .val (.int dI), .val (.int m), .un, .un, .un, .un, .un, .un, .un] (ah.map Ah.toD) [] M = .ok ((ah.filter fun r => r.q || !q).map Ah.toD) M := by
  have hq1 := at_quiet hat
  have := lcGo_fmap (b := bName 11) (c := cd__law_call_0 (sem K)) (f := el__law_call_0 (sem K)) (ρ0 := [.val cs, .val (.ref j), .val (.ref a), .val (.lst (sc.map .str)), .val (.int dI), .val (.int m), .un, .un, .un, .un, .un, .un, .un]) (M := M) Ah.toD (fun r => r.q || !q) Ah.toD ah [] (fun r hr => by
      refine ⟨_, rfl, ?_, fun _ => ?_⟩
      · cases hq : r.q <;> simp [cd__law_call_0_eq, Ah.toD, hq, hq1]
      · simp [el__law_call_0_eq]) (by rw [szL, List.length_nil]; omega)
  simpa using this
theorem eqv_cons (x : D) (xs : List D) : eqvD (.lst (x :: xs)) (.lst []) = false := rfl
theorem ah_ne (r0 : Ah) (rs : List Ah) (h : ∀ r ∈ r0 :: rs, okStr r.m = true ∧ okStr r.f = true ∧ r.k ≤ 5) (M : Store) : eqD M (.lst ((r0 :: rs).map Ah.toD)) (.lst []) = some (.val (.bl false)) := by
  have hg := goodAh1 _ h
  rw [eqD_of M (by rw [goodD]; exact hg.1) (by decide +kernel) (by rw [dpD]; omega)]
  rw [List.map_cons, eqv_cons]
theorem ee (M : Store) : eqD M (.lst []) (.lst []) = some (.val (.bl true)) := rfl
theorem call_nil (K : Nat) (cs : D) (j a : Nat) (M : Store) (n : Int) (ah : List Ah) (q : Bool) (sc : List Str) (m dI : Int) (hat : AtOk M a n ah q) (hah : ah.length ≤ 1000) (hs : (ah.filter fun r => r.q || !q) = []) : sem (K + 1) f__law_call [cs, .ref j, .ref a, .lst (sc.map .str), .int dI, .int m] M = sem K f__law_leaf [.ref a, .lst (sc.map .str), .int m] M := by
  have hf := call_rows K cs j a M n ah q sc m dI hat hah
  have h2 := at_ahead hat
  rw [hs] at hf
  rw [e__law_call]
  generalize hR : sem K f__law_leaf [.ref a, .lst (sc.map .str), .int m] M = R0
  simp only [List.map_nil] at hf
  simp [runF, m__law_call, startD, h2, itemsD, wipeD, hf, ee, hR]
  cases R0 <;> rfl
theorem call_cons (K : Nat) (cs : D) (j a : Nat) (M : Store) (n : Int) (ah : List Ah) (q : Bool) (sc : List Str) (m dI : Int) (hat : AtOk M a n ah q) (hah : ah.length ≤ 1000) (L : List D) (hs : (ah.filter fun r => r.q || !q).map Ah.toD = L) (hL : 0 < L.length) (he : ∀ M, eqD M (.lst L) (.lst []) = some (.val (.bl false)))
    (rm rf : Str) (rI : Int) (rk : Nat) (rq : Bool) (hr : atI L (m % (L.length : Int)) = some (.tup [.str rm, .str rf, .int rI, .bl rq])) (es : List Ex) (M' : Store) (hb : rng1D [.int rI] = some (rngL 0 rk)) (hes : lcGo (bName 12) dYes (el__law_call_1 (sem K)) [.val cs, .val (.ref j), .val (.ref a), .val (.lst (sc.map .str)), .val (.int dI), .val (.int m), .own L, .val (.str rm), .val (.str rf), .val (.int rI), .val (.bl rq), .un, .un] (rngL 0 rk) [] M = .ok (es.map Ex.toD) M') :
    sem (K + 1) f__law_call [cs, .ref j, .ref a, .lst (sc.map .str), .int dI, .int m] M = .ok (.val (Ex.call rm rf es).toD) M' := by
  have hf := call_rows K cs j a M n ah q sc m dI hat hah
  have h2 := at_ahead hat
  rw [hs] at hf
  rw [e__law_call]
  simp [-rng1D_int, runF, m__law_call, startD, h2, itemsD, wipeD, hf, he, hL, hr, bTup, bNames, hb, hes, tupleD, seqOf, lstOf, Ex.toD, Ex.toDs_eq]
theorem call_ok {K d : Nat} (ih : ExprOk (K + 2) (d + 1)) : PartOk f__law_call (K + 3) d := by
  intro cs j a c M n ah q sc m dI hd hcs hja hj h0 h1 hat hah hsc hl
  have hp : (8 : Int) ^ (d + 2) = 8 * 8 ^ (d + 1) := pow8 (d + 1)
  have hp1 := pow8pos (d + 1)
  have h6 := pow6 d
  cases hsom : ah.filter fun r => r.q || !q with
  | nil =>
    obtain ⟨e, r, w, dp, ct⟩ := leaf_ok K (.ref a) sc (fun x hx => namesL_ok (hsc x hx)) m M (· ∈ namesL n) (ahP ah)
    refine ⟨e, c, ?_, w, by omega, by omega, by omega, by omega⟩
    rw [set_self hj, call_nil (K + 2) cs j a M n ah q sc m dI hat hah.1 hsom, r]
  | cons r0 rs =>
    have hmem : ∀ r ∈ r0 :: rs, r ∈ ah := fun r hr => by
      rw [← hsom] at hr
      exact (List.mem_filter.mp hr).1
    have hl0 : (0 : Int) < ((r0 :: rs).length : Int) := by simp
    obtain ⟨r, hr, hra⟩ := atI_mem (xs := r0 :: rs) (i := m % ((r0 :: rs).length : Int)) (Int.emod_nonneg _ (by omega)) (Int.emod_lt_of_pos _ hl0)
    have h2 := atI_map Ah.toD (r0 :: rs) (m % ((r0 :: rs).length : Int))
    rw [hra, ← List.length_map (f := Ah.toD)] at h2
    have hrk := (hah.2 r (hmem r hr)).2.2
    obtain ⟨es, c', hes, hlen, hw, hc1, hc2⟩ := draws ih (el := el__law_call_1 (sem (K + 2))) (b := bName 12) (ρ0 := [.val cs, .val (.ref j), .val (.ref a), .val (.lst (sc.map .str)), .val (.int dI), .val (.int m), .own ((r0 :: rs).map Ah.toD), .val (.str r.m), .val (.str r.f), .val (.int r.k), .val (.bl r.q), .un, .un]) hd hcs hja hj h0 (by omega) hat hah hsc (by omega)
      (fun x N => ⟨_, rfl, by simp [el__law_call_1_eq]⟩) r.k hrk
    refine ⟨.call r.m r.f es, c', ?_, ?_, ?_, ?_, by omega, by omega⟩
    · have hb : rng1D [.int (r.k : Int)] = some (rngL 0 r.k) := by
        rw [rng1_ok (by omega) (by omega), Int.toNat_natCast]
      exact call_cons (K + 2) cs j a M n ah q sc m dI hat hah.1 ((r0 :: rs).map Ah.toD) (by rw [hsom]) (by simp) (ah_ne r0 rs fun r hr => hah.2 r (hmem r hr)) r.m r.f r.k r.k r.q h2 es _ hb hes
    · rw [Ex.Wf]
      exact ⟨⟨r, hmem r hr, rfl, rfl, hlen.symm⟩, Ex.Wfs_of fun e he => (hw e he).1⟩
    · rw [Ex.dep]
      have := Ex.deps_le (es := es) fun e he => (hw e he).2.1
      omega
    · rw [Ex.cnt]
      have := Ex.cnts_le (es := es) fun e he => (hw e he).2.2
      have h5 : es.length * 6 ^ (d + 1) ≤ 5 * 6 ^ (d + 1) := Nat.mul_le_mul_right _ (by omega)
      omega
end K06
namespace K06
open PySem L2 TP
set_option maxHeartbeats 4000000
theorem notIn2 (M : Store) (x a b : Str) : notInD M (.str x) (.tup [.str a, .str b]) = some (.val (.bl (!(decide (a = x) || decide (b = x))))) := by
  have h : notInD M (.str x) (.tup [.str a, .str b]) = some (.val (.bl (![D.str a, D.str b].any fun d => eqvD d (.str x)))) := rfl
  rw [h, List.any_cons, List.any_cons, List.any_nil, eqvD_str, eqvD_str, Bool.or_false]
theorem times_scope (Φ : Nat → Fn) (s0 s1 s2 s3 s4 s5 s8 s9 s10 s11 s13 : Slot) (L : List D) (i1 i2 : Int) (A B : Str) (hA : atI L i1 = some (.str A)) (hB : atI L i2 = some (.str B)) (sc : List Str) (M : Store) (hl : sc.length ≤ 100) :
    lcGo (bName 14) (cd__law_times_0 Φ) (el__law_times_0 Φ) [s0, s1, s2, s3, s4, s5, .val (.lst L), .val (.int i2), s8, s9, s10, s11, .val (.int i1), s13, .un] (sc.map .str) [] M = .ok ((sc.filter fun x => !(decide (A = x) || decide (B = x))).map .str) M := by
  have := lcGo_fmap (b := bName 14) (c := cd__law_times_0 Φ) (f := el__law_times_0 Φ) (ρ0 := [s0, s1, s2, s3, s4, s5, .val (.lst L), .val (.int i2), s8, s9, s10, s11, .val (.int i1), s13, .un]) (M := M) D.str (fun x => !(decide (A = x) || decide (B = x))) D.str sc []
    (fun x hx => by
      refine ⟨_, rfl, ?_, fun _ => ?_⟩
      · simp [-Bool.not_or, cd__law_times_0_eq, hA, hB, notIn2]
      · simp [el__law_times_0_eq]) (by rw [szL, List.length_nil]; omega)
  simpa [-Bool.not_or] using this
theorem filt_mem {sc : List Str} {p : Str → Bool} {q : Str → Prop} (h : ∀ x ∈ sc, q x) : ∀ x ∈ sc.filter p, q x := fun x hx => h x (List.mem_filter.mp hx).1
theorem times_ok {K d : Nat} (ih : ExprOk K (d + 1)) (ih0 : ExprOk K d) : PartOk f__law_times (K + 1) d := by
  intro cs j a c M n ah q sc m dI hd hcs hja hj h0 h1 hat hah hsc hl
  have hp : (8 : Int) ^ (d + 2) = 8 * 8 ^ (d + 1) := pow8 (d + 1)
  have hp2 : (8 : Int) ^ (d + 1) = 8 * 8 ^ d := pow8 d
  have hp1 := pow8pos d
  have h6 := pow6 d
  rw [e__law_times]
  have hA := namesL_at (n := n) (i := m / 7 % 5) (by omega) (by omega)
  have hB := namesL_at (n := n) (i := (m / 7 % 5 + 1 + m / 35 % 4) % 5) (by omega) (by omega)
  have mA := nameAt_names (n := n) (i := m / 7 % 5) (by omega) (by omega)
  have mB := nameAt_names (n := n) (i := (m / 7 % 5 + 1 + m / 35 % 4) % 5) (by omega) (by omega)
  have hAB : nameAt n (m / 7 % 5) ≠ nameAt n ((m / 7 % 5 + 1 + m / 35 % 4) % 5) := fun h => by
    have := nameAt_inj (by omega) (by omega) (by omega) (by omega) h
    omega
  generalize hi1 : m / 7 % 5 = i1 at *
  generalize hi2 : (i1 + 1 + m / 35 % 4) % 5 = i2 at *
  generalize hgA : nameAt n i1 = A at *
  generalize hgB : nameAt n i2 = B at *
  -- what its N is
  have many : ∃ (em : Ex) (cm : Int), (∀ (x0 x1 x3 x4 x5 x6 x7 x8 : Slot), (sIf (dAnd (dNot (dTru (dEF (dOp2 dgetD (dVarB 2) (dC (.str "quiet")))))) (dBo (dOp2 eqD (dEF (dOp2 modD (dEF (dOp2 fdivD (dVarB 5) (dC (.int 140)))) (dC (.int 3)))) (dC (.int 1))))) (sSeq (sSet 8 (dFE (dTup (dCons (dC (.str "op")) (dCons (dC (.str "&")) (dCons (dEF (dCall 5 (sem K f__law_expression) (dCons (dVar 0) (dCons (dVar 1) (dCons (dVar 2) (dCons (dVar 3) (dCons (dEF (dOp2 subD (dVarB 4) (dC (.int 2)))) dNil))))))) (dCons (dTup (dCons (dC (.str "num")) (dCons (dC (.int 4)) dNil))) dNil))))))) sNil) (sSeq (sIf (dAnd (dNot (dTru (dEF (dOp2 dgetD (dVarB 2) (dC (.str "quiet")))))) (dBo (dOp2 eqD (dEF (dOp2 modD (dEF (dOp2 fdivD (dVarB 5) (dC (.int 140)))) (dC (.int 12)))) (dC (.int 2))))) (sSeq (sSet 8 (dFE (dTup (dCons (dC (.str "num")) (dCons (dEF (dOp2 addD (dC (.int 1000)) (dEF (dOp2 modD (dEF (dOp2 fdivD (dVarB 5) (dC (.int 1680)))) (dC (.int 3)))))) dNil))))) sNil) sNil) sNil)) [.val cs, .val (.ref j), .val (.ref a), .val (.lst (sc.map .str)), .val (.int dI), .val (.int m), x0, x1, .val (.tup [.str "num", .int (m % 4)]), x3, x4, x5, x6, x7, x8] M = .next [.val cs, .val (.ref j), .val (.ref a), .val (.lst (sc.map .str)), .val (.int dI), .val (.int m), x0, x1, .val em.toD, x3, x4, x5, x6, x7, x8] (M.set j (.lst [.int cm]))) ∧ Ex.Wf (· ∈ namesL n) (ahP ah) sc em ∧ em.dep ≤ d + 1 ∧ em.cnt ≤ 6 ^ d + 2 ∧ c ≤ cm ∧ cm ≤ c + 8 ^ d := by
    have hq := at_quiet hat
    obtain ⟨e0, c0, r0, w0, d0, n0, l0, u0⟩ := ih0 cs j a c M n ah q sc (dI - 2) (by omega) hcs hja hj h0 (by omega) hat hah hsc (by omega)
    by_cases hq1 : q = false ∧ m / 140 % 3 = 1
    · refine ⟨.op "&" e0 (.num 4), c0, fun x0 x1 x3 x4 x5 x6 x7 x8 => ?_, ?_, by rw [Ex.dep, Ex.dep]; omega, by rw [Ex.cnt, Ex.cnt]; omega, by omega, by omega⟩
      · simp [hq, hq1.1, hq1.2, r0, Ex.toD]
      · rw [Ex.Wf, Ex.Wf]; exact ⟨by simp [signs], w0, by omega, by omega⟩
    · by_cases hq2 : q = false ∧ m / 140 % 12 = 2
      · refine ⟨.num (1000 + m / 1680 % 3), c, fun x0 x1 x3 x4 x5 x6 x7 x8 => ?_, ?_, by rw [Ex.dep]; omega, by rw [Ex.cnt]; omega, by omega, by omega⟩
        · have hq3 : ¬ m / 140 % 3 = 1 := fun h => hq1 ⟨hq2.1, h⟩
          rw [set_self hj]
          simp [hq, hq2.1, hq2.2, hq3, Ex.toD]
        · rw [Ex.Wf]; omega
      · refine ⟨.num (m % 4), c, fun x0 x1 x3 x4 x5 x6 x7 x8 => ?_, ?_, by rw [Ex.dep]; omega, by rw [Ex.cnt]; omega, by omega, by omega⟩
        · rw [set_self hj]
          cases hqq : q with
          | true => simp [hq, hqq, Ex.toD]
          | false =>
            have hq3 : ¬ m / 140 % 3 = 1 := fun h => hq1 ⟨hqq, h⟩
            have hq4 : ¬ m / 140 % 12 = 2 := fun h => hq2 ⟨hqq, h⟩
            simp [hq, hqq, hq3, hq4, Ex.toD]
        · rw [Ex.Wf]; omega
  obtain ⟨em, cm, hm, wm, dm, nm, lm, um⟩ := many
  obtain ⟨e1, c1, r1, w1, d1, n1, l1, u1⟩ := ih cs j a cm (M.set j (.lst [.int cm])) n ah q sc (dI - 1) (by omega) hcs hja (get_set hj) (by omega) (by omega) (hat.set hja) hah hsc (by omega)
  rw [set_set] at r1
  have hlf : (sc.filter fun x => !(decide (A = x) || decide (B = x))).length ≤ sc.length := List.length_filter_le _ _
  obtain ⟨e2, c2, r2, w2, d2, n2, l2, u2⟩ := ih cs j a c1 (M.set j (.lst [.int c1])) n ah q ((sc.filter fun x => !(decide (A = x) || decide (B = x))) ++ [A, B]) (dI - 1) (by omega) hcs hja (get_set hj) (by omega) (by omega) (hat.set hja) hah (by
    intro x hx
    rcases List.mem_append.mp hx with hx | hx
    · exact filt_mem hsc x hx
    · simp only [List.mem_cons, List.not_mem_nil, or_false] at hx
      rcases hx with rfl | rfl
      · exact mA
      · exact mB) (by rw [List.length_append, List.length_cons, List.length_cons, List.length_nil]; omega)
  rw [set_set] at r2
  rw [List.map_append] at r2
  refine ⟨.times em A B e1 e2, c2, ?_, ?_, ?_, by rw [Ex.cnt]; omega, by omega, by omega⟩
  · have hn := at_names hat
    have hsc2 := fun (s0 s1 s2 s3 s4 s5 s8 s9 s10 s11 s13 : Slot) (N : Store) => times_scope (sem K) s0 s1 s2 s3 s4 s5 s8 s9 s10 s11 s13 _ i1 i2 A B hA hB sc N (by omega)
    simp only [List.map_cons, List.map_nil] at r2
    unfold runF m__law_times
    simp [-sIf_eq, -Bool.not_or, startD, hn, hi1, hi2, bTup, bNames, hm, r1, itemsD, wipeD, hsc2, hA, hB, addD, lstOf, Ex.toD]
    rw [if_pos (by omega)]
    simp [-Bool.not_or, r2, hA, hB]
  · rw [Ex.Wf]
    refine ⟨mA, mB, hAB, wm, w1, Ex.Wf.mono (fun _ _ _ h => h) e2 _ _ (fun x hx => ?_) w2⟩
    rcases List.mem_append.mp hx with hx | hx
    · exact List.mem_cons_of_mem _ (List.mem_cons_of_mem _ (List.mem_filter.mp hx).1)
    · simp only [List.mem_cons, List.not_mem_nil, or_false] at hx
      rcases hx with rfl | rfl
      · exact List.mem_cons_self
      · exact List.mem_cons_of_mem _ List.mem_cons_self
  · rw [Ex.dep]; omega
theorem let_scope (Φ : Nat → Fn) (s0 s1 s2 s3 s4 s5 s6 s7 s9 s10 s12 : Slot) (A : Str) (hA : okStr A = true) (sc : List Str) (hsc : ∀ x ∈ sc, okStr x = true) (M : Store) (hl : sc.length ≤ 100) :
    lcGo (bName 11) (cd__law_expression_0 Φ) (el__law_expression_0 Φ) [s0, s1, s2, s3, s4, s5, s6, s7, .val (.str A), s9, s10, .un, s12] (sc.map .str) [] M = .ok ((sc.filter fun x => !decide (x = A)).map .str) M := by
  have := lcGo_fmap (b := bName 11) (c := cd__law_expression_0 Φ) (f := el__law_expression_0 Φ) (ρ0 := [s0, s1, s2, s3, s4, s5, s6, s7, .val (.str A), s9, s10, .un, s12]) (M := M) D.str (fun x => !decide (x = A)) D.str sc []
    (fun x hx => by
      refine ⟨_, rfl, ?_, fun _ => ?_⟩
      · simp [cd__law_expression_0_eq, neD_str M (hsc x hx) hA]
      · simp [el__law_expression_0_eq]) (by rw [szL, List.length_nil]; omega)
  simpa using this
theorem expr_low (K : Nat) (d : Nat) (hd2 : d < 2) : ExprOk (K + 3) d := by
  intro cs j a c M n ah q sc dI hd hcs hja hj h0 h1 hat hah hsc hl
  have hp : (1 : Int) ≤ 8 ^ d := pow8pos d
  have h6 := pow6 d
  obtain ⟨r, hr0, hr⟩ := cell1 (K + 1) hcs hj h0 (by omega)
  obtain ⟨e, re, w, dp, ct⟩ := leaf_ok K (.ref a) sc (fun x hx => namesL_ok (hsc x hx)) (r / 16) (M.set j (.lst [.int (c + 1)])) (· ∈ namesL n) (ahP ah)
  refine ⟨e, c + 1, ?_, w, by omega, by omega, by omega, by omega⟩
  rw [e__law_expression]
  have hdd : dI < 2 := by omega
  simp [runF, m__law_expression, startD, hr, hdd, re]
theorem expr_step {K d : Nat} (ihK : ExprOk (K + 3) (d + 1)) (ih : ExprOk (K + 2) (d + 1)) (ih0 : ExprOk (K + 2) d) : ExprOk (K + 4) (d + 2) := by
  intro cs j a c M n ah q sc dI hd hcs hja hj h0 h1 hat hah hsc hl
  have hp : (8 : Int) ^ (d + 2) = 8 * 8 ^ (d + 1) := pow8 (d + 1)
  have hp1 := pow8pos (d + 1)
  have h6 := pow6 d
  obtain ⟨r, hr0, hr⟩ := cell1 (K + 2) hcs hj h0 (by omega)
  have hj1 := get_set (b := .lst [.int (c + 1)]) hj
  have hat1 : AtOk (M.set j (.lst [.int (c + 1)])) a n ah q := hat.set hja
  have hdd : ¬ dI < 2 := by omega
  have hq := at_quiet hat1
  rw [e__law_expression]
  by_cases w1 : r % 16 < 3
  · obtain ⟨e, re, w, dp, ct⟩ := leaf_ok (K + 1) (.ref a) sc (fun x hx => namesL_ok (hsc x hx)) (r / 16) (M.set j (.lst [.int (c + 1)])) (· ∈ namesL n) (ahP ah)
    refine ⟨e, c + 1, ?_, w, by omega, by omega, by omega, by omega⟩
    simp [runF, m__law_expression, startD, hr, hdd, w1, re]
  by_cases w2 : r % 16 < 5
  · obtain ⟨e, c', re, w, dp, ct, l, u⟩ := call_ok ih cs j a (c + 1) _ n ah q sc (r / 16) dI hd hcs hja hj1 (by omega) (by omega) hat1 hah hsc hl
    rw [set_set] at re
    refine ⟨e, c', ?_, w, dp, ct, by omega, by omega⟩
    simp [runF, m__law_expression, startD, hr, hdd, w1, w2, re]
  by_cases w3 : r % 16 = 5
  · obtain ⟨e, c', re, w, dp, ct, l, u⟩ := times_ok ih ih0 cs j a (c + 1) _ n ah q sc (r / 16) dI hd hcs hja hj1 (by omega) (by omega) hat1 hah hsc hl
    rw [set_set] at re
    refine ⟨e, c', ?_, w, dp, ct, by omega, by omega⟩
    simp [runF, m__law_expression, startD, hr, hdd, w3, re]
  obtain ⟨e1, c1, r1, we1, d1, n1, l1, u1⟩ := ihK cs j a (c + 1) (M.set j (.lst [.int (c + 1)])) n ah q sc (dI - 1) (by omega) hcs hja hj1 (by omega) (by omega) hat1 hah hsc (by omega)
  rw [set_set] at r1
  by_cases w4 : r % 16 < 9
  · have hA := namesL_at (n := n) (i := r / 16 % 5) (by omega) (by omega)
    have mA := nameAt_names (n := n) (i := r / 16 % 5) (by omega) (by omega)
    have oA := namesL_ok mA
    have hn := at_names hat1
    generalize hgA : nameAt n (r / 16 % 5) = A at *
    have hlf : (sc.filter fun x => !decide (x = A)).length ≤ sc.length := List.length_filter_le _ _
    obtain ⟨e2, c2, r2, we2, d2, n2, l2, u2⟩ := ihK cs j a c1 (M.set j (.lst [.int c1])) n ah q ((sc.filter fun x => !decide (x = A)) ++ [A]) (dI - 1) (by omega) hcs hja (get_set hj) (by omega) (by omega) (hat.set hja) hah (by
      intro x hx
      rcases List.mem_append.mp hx with hx | hx
      · exact filt_mem hsc x hx
      · rw [List.mem_singleton] at hx; subst hx; exact mA) (by rw [List.length_append, List.length_cons, List.length_nil]; omega)
    rw [set_set] at r2
    rw [List.map_append] at r2
    simp only [List.map_cons, List.map_nil] at r2
    have hsc2 := fun (s0 s1 s2 s3 s4 s5 s6 s7 s9 s10 s12 : Slot) (N : Store) => let_scope (sem (K + 3)) s0 s1 s2 s3 s4 s5 s6 s7 s9 s10 s12 A oA sc (fun x hx => namesL_ok (hsc x hx)) N (by omega)
    refine ⟨.lt A e1 e2, c2, ?_, ?_, by rw [Ex.dep]; omega, by rw [Ex.cnt]; omega, by omega, by omega⟩
    · simp [runF, m__law_expression, startD, hr, hdd, w1, w2, w3, w4, hn, hA, r1, itemsD, wipeD, hsc2, addD, lstOf]
      rw [if_pos (by omega)]
      simp [r2, Ex.toD]
    · rw [Ex.Wf]
      refine ⟨mA, we1, Ex.Wf.mono (fun _ _ _ h => h) e2 _ _ (fun x hx => ?_) we2⟩
      rcases List.mem_append.mp hx with hx | hx
      · exact List.mem_cons_of_mem _ (List.mem_filter.mp hx).1
      · rw [List.mem_singleton] at hx; subst hx; exact List.mem_cons_self
  by_cases w5 : r % 16 = 9
  · obtain ⟨es, c', hes, hlen, hw, hc1, hc2⟩ := draws ihK (el := el__law_expression_1 (sem (K + 3))) (b := bName 12) (ρ0 := [.val cs, .val (.ref j), .val (.ref a), .val (.lst (sc.map .str)), .val (.int dI), .val (.int r), .val (.int (r % 16)), .val (.int (r / 16)), .un, .un, .un, .un, .un]) hd hcs hja hj1 (by omega) (by omega) hat1 hah hsc (by omega)
      (fun x N => ⟨_, rfl, by simp [el__law_expression_1_eq]⟩) 3 (by omega)
    match es, hlen with
    | [x, y, z], _ =>
      have hx := hw x (by simp)
      have hy := hw y (by simp)
      have hz := hw z (by simp)
      rw [set_set] at hes
      rw [w5] at hes
      have hb : rng1D [.int 3] = some (rngL 0 3) := rfl
      refine ⟨.ite x y z, c', ?_, by rw [Ex.Wf]; exact ⟨hx.1, hy.1, hz.1⟩, by rw [Ex.dep]; omega, by rw [Ex.cnt]; omega, by omega, by omega⟩
      simp [-rng1D_int, runF, m__law_expression, startD, hr, hdd, w5, hb, wipeD, hes, tupleD, seqOf, lstOf, addD, Ex.toD]
  obtain ⟨e2, c2, r2, we2, d2, n2, l2, u2⟩ := ihK cs j a c1 (M.set j (.lst [.int c1])) n ah q sc (dI - 1) (by omega) hcs hja (get_set hj) (by omega) (by omega) (hat.set hja) hah hsc (by omega)
  rw [set_set] at r2
  by_cases w6 : r % 16 < 12 ∧ q = false
  · refine ⟨.tell e1 e2, c2, ?_, by rw [Ex.Wf]; exact ⟨we1, we2⟩, by rw [Ex.dep]; omega, by rw [Ex.cnt]; omega, by omega, by omega⟩
    simp [runF, m__law_expression, startD, hr, hdd, w1, w2, w3, w4, w5, w6.1, hq, w6.2, r1, r2, Ex.toD]
  by_cases w7 : r % 16 = 12 ∧ q = false ∧ r / 16 % 4 = 1
  · refine ⟨.stop e1, c1, ?_, by rw [Ex.Wf]; exact we1, by rw [Ex.dep]; omega, by rw [Ex.cnt]; omega, by omega, by omega⟩
    simp [runF, m__law_expression, startD, hr, hdd, w7.1, hq, w7.2.1, w7.2.2, r1, Ex.toD]
  obtain ⟨e, c', re, w, dp, ct, l, u⟩ := op_ok ih cs j a (c + 1) _ n ah q sc (r / 16) dI hd hcs hja hj1 (by omega) (by omega) hat1 hah hsc hl
  rw [set_set] at re
  refine ⟨e, c', ?_, w, dp, ct, by omega, by omega⟩
  cases hqq : q with
  | true => simp [runF, m__law_expression, startD, hr, hdd, w1, w2, w3, w4, w5, hq, hqq, re]
  | false =>
    have w8 : ¬ r % 16 < 12 := fun h => w6 ⟨h, hqq⟩
    by_cases w9 : r % 16 = 12
    · have w10 : ¬ r / 16 % 4 = 1 := fun h => w7 ⟨w9, hqq, h⟩
      simp [runF, m__law_expression, startD, hr, hdd, w9, w10, hq, hqq, re]
    · simp [runF, m__law_expression, startD, hr, hdd, w1, w2, w3, w4, w5, w8, w9, hq, hqq, re]
theorem expr_ok : ∀ (d K : Nat), ExprOk (K + 2 * d + 3) d
  | 0, K => expr_low K 0 (by decide)
  | 1, K => expr_low (K + 2) 1 (by decide)
  | d + 2, K => by
    have h1 := expr_ok (d + 1) (K + 1)
    have h2 := expr_ok (d + 1) K
    have h3 := expr_ok d (K + 2)
    have e1 : K + 1 + 2 * (d + 1) + 3 = K + 2 * d + 3 + 3 := by omega
    have e2 : K + 2 * (d + 1) + 3 = K + 2 * d + 3 + 2 := by omega
    have e3 : K + 2 + 2 * d + 3 = K + 2 * d + 3 + 2 := by omega
    have e4 : K + 2 * (d + 2) + 3 = K + 2 * d + 3 + 4 := by omega
    rw [e1] at h1
    rw [e2] at h2
    rw [e3] at h3
    rw [e4]
    exact expr_step h1 h2 h3
end K06
namespace K06
open PySem L2 TP
set_option maxHeartbeats 4000000
def parL (n more : Int) (k : Nat) : List Str := (List.range k).map fun i => nameAt n ((more + 3 * (i : Nat)) % 5)
theorem parL_nodup (n more : Int) {k : Nat} (hk : k ≤ 3) : (parL n more k).Nodup := by
  unfold parL
  refine List.pairwise_map.mpr (List.Pairwise.imp_of_mem (fun {i j} hi hj hij h => ?_) List.pairwise_lt_range)
  rw [List.mem_range] at hi hj
  have := nameAt_inj (by omega) (by omega) (by omega) (by omega) h
  omega
theorem parL_mem (n more : Int) {k : Nat} {x : Str} (h : x ∈ parL n more k) : x ∈ namesL n := by
  unfold parL at h
  obtain ⟨i, _, rfl⟩ := List.mem_map.mp h
  exact nameAt_names (by omega) (by omega)
theorem params_go (Φ : Nat → Fn) (n more : Int) (s0 s1 s2 s3 s4 s5 s6 s8 s9 s10 s12 s13 s14 s15 : Slot) (k : Nat) (hk : k ≤ 3) (M : Store) :
    lcGo (bName 16) dYes (el__law_program_0 Φ) [s0, s1, s2, s3, s4, s5, s6, .val (.lst ((namesL n).map .str)), s8, s9, s10, .val (.int more), s12, s13, s14, s15, .un] (rngL 0 k) [] M = .ok ((parL n more k).map .str) M := by
  rw [lcGo_map (fun d => match d with | .int i => .str (nameAt n ((more + 3 * i) % 5)) | _ => .non) _ (fun d hd => ?_) (by rw [rngL_len, szL]; omega)]
  · unfold parL rngL
    rw [List.map_map, List.map_map]
    congr 1
    apply List.map_congr_left
    intro i _
    show D.str (nameAt n ((more + 3 * (0 + (i : Int))) % 5)) = D.str (nameAt n ((more + 3 * (i : Int)) % 5))
    rw [Int.zero_add]
  · obtain ⟨i, hi⟩ := List.getElem?_of_mem hd
    obtain ⟨hi1, rfl⟩ := rngL_get hi
    have m1 : ∀ x, mulOk 3 x = true := fun x => mulOk_l (by decide) (by decide)
    have h3 := namesL_at (n := n) (i := (more + 3 * (0 + (i : Int))) % 5) (by omega) (by omega)
    refine ⟨_, rfl, ?_⟩
    rw [Int.zero_add] at h3 ⊢
    simp [el__law_program_0_eq, m1, h3]
def Ahs (ah : List Ah) (xs : List (Str × Row)) : Prop := ah.map (fun r => (r.m, r.f, r.k)) = xs.map fun x => (x.1, x.2.f, x.2.ps.length)
theorem Ahs.ahP {ah : List Ah} {xs : List (Str × Row)} (h : Ahs ah xs) {m f : Str} {k : Nat} (hp : ahP ah m f k) : rowP xs m f k := by
  obtain ⟨r, hr, rfl, rfl, rfl⟩ := hp
  have : (r.m, r.f, r.k) ∈ ah.map (fun r => (r.m, r.f, r.k)) := List.mem_map.mpr ⟨r, hr, rfl⟩
  rw [h] at this
  obtain ⟨x, hx, e⟩ := List.mem_map.mp this
  simp only [Prod.mk.injEq] at e
  exact ⟨x, hx, e⟩
theorem at_new (M : Store) (n : Int) (ah : List Ah) (q : Bool) : AtOk (M ++ [.dK (mergeD ["names", "ahead", "quiet"] [.lst ((namesL n).map .str), .lst (ah.map Ah.toD), .bl q])]) M.length n ah q := by
  refine ⟨_, at_end M _, ?_, ?_, ?_⟩ <;> rfl
def spotNk (more jI : Int) : Int := (more / 240 % 3 + 5 + 3 * jI) % 16
theorem row_ok (K : Nat) {cs : D} (hcs : CellsD cs) {j : Nat} {c : Int} {M : Store} (hj : M[j]? = some (.lst [.int c])) (h0 : -1 ≤ c) (h1 : c + 40000 < 2 ^ 39) (n : Int) {ah : List Ah} (hah : AhOk ah) (hal : ah.length < 1000) (sm sn : Slot) (mods room : List D) (hrl : room.length < 1000) (kI jI : Int) (hk0 : 0 ≤ kI) (hk1 : kI < 16) (s11 s12 s13 s14 s15 s16 : Slot) :
    ∃ (more : Int) (r : Row) (a : Ah) (c' : Int) (X : MO) (s13' s14' s15' s16' : Slot), lp__law_program_0 (sem (K + 13)) [.val cs, .val (.ref j), sm, sn, .val (.lst (ah.map Ah.toD)), .own mods, .val (.int kI), .val (.lst ((namesL n).map .str)), .val (.lst ((namesL (n / 7)).map .str)), .own room, .val (.int jI), s11, s12, s13, s14, s15, s16] M
      = .next [.val cs, .val (.ref j), sm, sn, .val (.lst ((ah ++ [a]).map Ah.toD)), .own mods, .val (.int kI), .val (.lst ((namesL n).map .str)), .val (.lst ((namesL (n / 7)).map .str)), .own (room ++ [r.toD]), .val (.int jI), .val (.int more), .val (.lst (r.ps.map .str)), s13', s14', s15', s16'] (M.set j (.lst [.int c']) ++ [X])
      ∧ a.m = nameAt (n / 7) kI ∧ a.f = r.f ∧ a.k = r.ps.length ∧ r.f = nameAt (n / 7) (spotNk more jI) ∧ r.ps.Nodup ∧ r.ps.length ≤ 3 ∧ (∀ y ∈ r.ps, y ∈ namesL n) ∧ Ex.Wf (· ∈ namesL n) (ahP ah) r.ps r.b ∧ r.b.dep ≤ 5 ∧ r.b.cnt ≤ 7776 ∧ c < c' ∧ c' ≤ c + 40000 := by
  have hjl : j < M.length := (List.getElem?_eq_some_iff.mp hj).1
  obtain ⟨more, hm0, hm⟩ := cell1 (K + 12) hcs hj h0 (by omega)
  obtain ⟨k, hk⟩ : ∃ k : Nat, (k : Int) = more / 5 % 4 := ⟨(more / 5 % 4).toNat, by omega⟩
  obtain ⟨d, hd⟩ : ∃ d : Nat, (2 + more / 60 % 4 : Int) = d := ⟨(2 + more / 60 % 4).toNat, by omega⟩
  have hk3 : k ≤ 3 := by omega
  have hd5 : d ≤ 5 := by omega
  have hpl : (parL n more k).length = k := by unfold parL; rw [List.length_map, List.length_range]
  have h8 : (8 : Int) ^ d ≤ 32768 := by
    have : d = 2 ∨ d = 3 ∨ d = 4 ∨ d = 5 := by omega
    rcases this with rfl | rfl | rfl | rfl <;> decide
  have h6 : 6 ^ d ≤ 7776 := by
    have : d = 2 ∨ d = 3 ∨ d = 4 ∨ d = 5 := by omega
    rcases this with rfl | rfl | rfl | rfl <;> decide
  have hM1 : (M.set j (.lst [.int (c + 1)])).length = M.length := List.length_set
  obtain ⟨X, hX⟩ : ∃ X : MO, X = .dK (mergeD ["names", "ahead", "quiet"] [.lst ((namesL n).map .str), .lst (ah.map Ah.toD), .bl (decide (more / 20 % 3 = 0))]) := ⟨_, rfl⟩
  have hat : ∀ b : Int, AtOk (M.set j (.lst [.int b]) ++ [X]) M.length n ah (decide (more / 20 % 3 = 0)) := fun b => by
    have := at_new (M.set j (.lst [.int b])) n ah (decide (more / 20 % 3 = 0))
    rw [List.length_set, ← hX] at this
    exact this
  have hj1 : (M.set j (.lst [.int (c + 1)]) ++ [X])[j]? = some (.lst [.int (c + 1)]) := get_app (get_set hj)
  have hex := expr_ok d (K + 10 - 2 * d)
  have e13 : K + 10 - 2 * d + 2 * d + 3 = K + 13 := by omega
  rw [e13] at hex
  obtain ⟨e, c', re, w, dp, ct, l, u⟩ := hex cs j M.length (c + 1) (M.set j (.lst [.int (c + 1)]) ++ [X]) n ah (decide (more / 20 % 3 = 0)) (parL n more k) (2 + more / 60 % 4) hd hcs (by omega) hj1 (by omega) (by omega) (hat _) hah (fun x hx => parL_mem n more hx) (by omega)
  rw [set_app (by rw [hM1]; exact hjl), set_set] at re
  have hp := params_go (sem (K + 13)) n more
  have hA := namesL_at (n := n / 7) (i := spotNk more jI) (by unfold spotNk; omega) (by unfold spotNk; omega)
  have hB := namesL_at (n := n / 7) (i := kI) hk0 hk1
  have hq := at_quiet (hat c')
  have hb : rng1D [.int (more / 5 % 4)] = some (rngL 0 k) := by rw [← hk, rng1_ok (by omega) (by omega), Int.toNat_natCast]
  have m1 : ∀ x, mulOk 3 x = true := fun x => mulOk_l (by decide) (by decide)
  refine ⟨more, ⟨nameAt (n / 7) (spotNk more jI), parL n more k, e⟩, ⟨nameAt (n / 7) kI, nameAt (n / 7) (spotNk more jI), k, decide (more / 20 % 3 = 0)⟩, c', X, .val (.ref M.length), .val e.toD, .val (.str (nameAt (n / 7) (spotNk more jI))), s16, ?_, rfl, rfl, hpl.symm, rfl, parL_nodup n more hk3, by rw [hpl]; exact hk3, fun y hy => parL_mem n more hy, w, Nat.le_trans dp hd5, Nat.le_trans ct h6, by omega, by omega⟩
  rw [lp__law_program_0_eq]
  unfold spotNk at hA ⊢
  simp [-rng1D_int, hm, hb, wipeD, hp _ _ _ _ _ _ _ _ _ _ _ _ _ _ k hk3, dVals, ← hX, re]
  have hr2 : room.length < 16777216 := by omega
  have ha2 : ah.length + 1 ≤ 16777216 := by omega
  have ha3 : ah.length < 16777216 := by omega
  simp [m1, hA, hB, hq, hr2, ha2, ha3, tupleD, seqOf, lstOf, addD, hpl, Row.toD, Ah.toD]
structure RoomI (n : Int) (m : Str) (pre : List (Str × Row)) (ah : List Ah) (rs : List Row) : Prop where
  ahs : Ahs ah (pre ++ rs.map fun r => (m, r))
  ok : ∀ r ∈ ah, okStr r.m = true ∧ okStr r.f = true ∧ r.k ≤ 5
  wf : RowsWf n [] (pre ++ rs.map fun r => (m, r))
  nd : (rs.map Row.f).Nodup
  sp : ∀ r ∈ rs, ∃ t i : Int, 0 ≤ t ∧ t ≤ 2 ∧ 0 ≤ i ∧ i < rs.length ∧ r.f = TP.nameAt (n / 7) ((t + 5 + 3 * i) % 16)
theorem Ahs.len {ah : List Ah} {xs : List (Str × Row)} (h : Ahs ah xs) : ah.length = xs.length := by
  have := congrArg List.length h
  simpa using this
theorem room_ok (K : Nat) {cs : D} (hcs : CellsD cs) {j : Nat} {c : Int} {M : Store} (hj : M[j]? = some (.lst [.int c])) (h0 : -1 ≤ c) (h1 : c + 200000 < 2 ^ 39) (n : Int) (sm sn : Slot) (mods : List D) (kI : Int) (hk0 : 0 ≤ kI) (hk1 : kI < 16)
    (pre : List (Str × Row)) (ah : List Ah) (hpl : pre.length ≤ 900) (hI : RoomI n (nameAt (n / 7) kI) pre ah []) (cnt : Nat) (hcnt : cnt ≤ 4) (s10 s11 s12 s13 s14 s15 s16 : Slot) :
    ∃ (rs : List Row) (ah' : List Ah) (c' : Int) (Xs : Store) (s10' s11' s12' s13' s14' s15' s16' : Slot), forGo (bName 10) (lp__law_program_0 (sem (K + 13))) (rngL 0 cnt) [.val cs, .val (.ref j), sm, sn, .val (.lst (ah.map Ah.toD)), .own mods, .val (.int kI), .val (.lst ((namesL n).map .str)), .val (.lst ((namesL (n / 7)).map .str)), .own [], s10, s11, s12, s13, s14, s15, s16] M
      = .next [.val cs, .val (.ref j), sm, sn, .val (.lst (ah'.map Ah.toD)), .own mods, .val (.int kI), .val (.lst ((namesL n).map .str)), .val (.lst ((namesL (n / 7)).map .str)), .own (rs.map Row.toD), s10', s11', s12', s13', s14', s15', s16'] (M.set j (.lst [.int c']) ++ Xs)
      ∧ rs.length = cnt ∧ RoomI n (nameAt (n / 7) kI) pre ah' rs ∧ c ≤ c' ∧ c' ≤ c + 40000 * cnt := by
  have hjl : j < M.length := (List.getElem?_eq_some_iff.mp hj).1
  obtain ⟨ρ', M', e, rs, ah', c', Xs, s10', s11', s12', s13', s14', s15', s16', rfl, rfl, hl, hI', hc, hc'⟩ := forGo_all (b := bName 10) (body := lp__law_program_0 (sem (K + 13)))
    (fun i ρ N => ∃ (rs : List Row) (ah' : List Ah) (c' : Int) (Xs : Store) (s10' s11' s12' s13' s14' s15' s16' : Slot), ρ = [.val cs, .val (.ref j), sm, sn, .val (.lst (ah'.map Ah.toD)), .own mods, .val (.int kI), .val (.lst ((namesL n).map .str)), .val (.lst ((namesL (n / 7)).map .str)), .own (rs.map Row.toD), s10', s11', s12', s13', s14', s15', s16'] ∧ N = M.set j (.lst [.int c']) ++ Xs
      ∧ rs.length = i ∧ RoomI n (nameAt (n / 7) kI) pre ah' rs ∧ c ≤ c' ∧ c' ≤ c + 40000 * i)
    (rngL 0 cnt) (ρ := [.val cs, .val (.ref j), sm, sn, .val (.lst (ah.map Ah.toD)), .own mods, .val (.int kI), .val (.lst ((namesL n).map .str)), .val (.lst ((namesL (n / 7)).map .str)), .own [], s10, s11, s12, s13, s14, s15, s16]) (M := M)
    ⟨[], ah, c, [], s10, s11, s12, s13, s14, s15, s16, rfl, by rw [set_self hj, List.append_nil], rfl, hI, by omega, by omega⟩
    (fun i d ρ N hd ⟨rs, ah', c', Xs, s10', s11', s12', s13', s14', s15', s16', e1, e2, hl, hI, hc, hc'⟩ => by
      subst e1 e2
      obtain ⟨hi, rfl⟩ := rngL_get hd
      have hlen := hI.ahs.len
      rw [List.length_append, List.length_map] at hlen
      have hj2 : (M.set j (.lst [.int c']) ++ Xs)[j]? = some (.lst [.int c']) := get_app (get_set hj)
      obtain ⟨more, r, a, c2, X, t13, t14, t15, t16, re, ha1, ha2, ha3, hf, hnd, hp3, hps, hw, hdep, hct, hcl, hcu⟩ := row_ok K hcs hj2 (by omega) (by omega) n (ah := ah') ⟨by omega, hI.ok⟩ (by omega) sm sn mods (rs.map Row.toD) (by rw [List.length_map]; omega) kI (0 + (i : Int)) hk0 hk1 (s11 := s11') (s12 := s12') (s13 := s13') (s14 := s14') (s15 := s15') (s16 := s16')
      refine ⟨_, rfl, _, _, re, rs ++ [r], ah' ++ [a], c2, Xs ++ [X], _, _, _, _, _, _, _, by simp only [List.map_append, List.map_cons, List.map_nil]; rfl, ?_, by rw [List.length_append, hl]; rfl, ?_, by omega, by push_cast; omega⟩
      · rw [set_app (by rw [List.length_set]; exact hjl), set_set, List.append_assoc]
      · have hmem : nameAt (n / 7) kI ∈ namesL (n / 7) := nameAt_names hk0 hk1
        have hfm : r.f ∈ namesL (n / 7) := by rw [hf]; exact nameAt_names (by unfold spotNk; omega) (by unfold spotNk; omega)
        have hall : RowWf n (pre ++ rs.map fun r => (nameAt (n / 7) kI, r)) (nameAt (n / 7) kI, r) := ⟨hnd, Nat.le_trans hp3 (by decide), hps, Ex.Wf.mono (fun m f k h => hI.ahs.ahP h) _ _ _ (fun _ z => z) hw, hdep, hct, hmem, hfm⟩
        refine ⟨?_, ?_, ?_, ?_, ?_⟩
        · have h1 := hI.ahs
          unfold Ahs at h1 ⊢
          rw [List.map_append, h1, List.map_append, List.map_append, List.map_append, List.map_append]
          simp [ha1, ha2, ha3]
        · intro x hx
          rcases List.mem_append.mp hx with hx | hx
          · exact hI.ok x hx
          · rw [List.mem_singleton] at hx
            subst hx
            rw [ha1, ha2]
            exact ⟨namesL_ok hmem, namesL_ok hfm, by omega⟩
        · rw [List.map_append, ← List.append_assoc]
          exact RowsWf.snoc hI.wf hall
        · rw [List.map_append]
          refine List.nodup_append.mpr ⟨hI.nd, by simp, fun x hx y hy => ?_⟩
          obtain ⟨r', hr', rfl⟩ := List.mem_map.mp hx
          simp only [List.map_cons, List.map_nil, List.mem_singleton] at hy
          subst hy
          intro he
          obtain ⟨t, i', ht0, ht1, hi0, hi1, hrf⟩ := hI.sp r' hr'
          rw [hrf, hf] at he
          unfold spotNk at he
          have hi4 : (i : Int) = 0 ∨ (i : Int) = 1 ∨ (i : Int) = 2 ∨ (i : Int) = 3 := by omega
          have hi5 : i' = 0 ∨ i' = 1 ∨ i' = 2 := by omega
          have := nameAt_inj (by omega) (by omega) (by omega) (by omega) he
          rcases hi4 with q | q | q | q <;> rcases hi5 with z | z | z <;> rw [q, z] at this <;> omega
        · intro x hx
          rw [List.length_append]
          rcases List.mem_append.mp hx with hx | hx
          · obtain ⟨t, i', ht0, ht1, hi0, hi1, hrf⟩ := hI.sp x hx
            exact ⟨t, i', ht0, ht1, hi0, by push_cast; omega, hrf⟩
          · rw [List.mem_singleton] at hx
            subst hx
            exact ⟨more / 240 % 3, i, by omega, by omega, by omega, by rw [List.length_singleton, hl]; omega, by rw [hf]; unfold spotNk; rw [Int.zero_add]⟩)
  rw [rngL_len] at hl hc'
  exact ⟨rs, ah', c', Xs, s10', s11', s12', s13', s14', s15', s16', e, hl, hI', hc, by omega⟩
theorem maxIk (x y : Int) : (if x > y then x else y) = max y x := by
  rw [Int.max_def]
  split <;> split <;> omega
structure ProgI (n : Int) (most : Nat) (ah : List Ah) (P : Pr) : Prop where
  ahs : Ahs ah (flat P)
  ok : ∀ r ∈ ah, okStr r.m = true ∧ okStr r.f = true ∧ r.k ≤ 5
  wf : RowsWf n [] (flat P)
  mods : P.map (·.1) = (List.range P.length).map fun i => nameAt (n / 7) (i : Nat)
  nd : ∀ q ∈ P, (q.2.map Row.f).Nodup
  each : ∀ q ∈ P, q.2.length ≤ max 1 most
  one : P = [] ∨ ∃ q Q, P = q :: Q ∧ q.2 ≠ []
theorem turn_go (Φ : Nat → Fn) (cs ahD ahD' nmD : D) (j : Nat) (mI n iI v mx cnI : Int) (b : Bool) (cn : Nat) (N N1 N2 : Store) (mods rmsD rs : List D) (nm : Str) (s9 s10 s11 s12 s13 s14 s15 s16 t10 t11 t12 t13 t14 t15 t16 : Slot)
    (hcell : Φ f__law_cell [cs, .ref j] N = .ok (.val (.int v)) N1) (heq : decide (iI = 0) = b) (hin : ∀ N, intD N [.bl b] = some (.val (.int mx))) (hmp : 0 < mI + 1) (hmx : max2D N1 [.int mx, .int (v / 5 % (mI + 1))] = some (.val (.int cnI))) (hb : rng1D [.int cnI] = some (rngL 0 cn))
    (re : forGo (bName 10) (lp__law_program_0 Φ) (rngL 0 cn) [.val cs, .val (.ref j), .val (.int mI), .val (.int n), .val ahD, .own mods, .val (.int iI), .val nmD, .val (.lst rmsD), .own [], s10, s11, s12, s13, s14, s15, s16] N1
      = .next [.val cs, .val (.ref j), .val (.int mI), .val (.int n), .val ahD', .own mods, .val (.int iI), .val nmD, .val (.lst rmsD), .own rs, t10, t11, t12, t13, t14, t15, t16] N2)
    (hB : atI rmsD iI = some (.str nm)) (hPl : mods.length < 16777216) :
    lp__law_program_1 Φ [.val cs, .val (.ref j), .val (.int mI), .val (.int n), .val ahD, .own mods, .val (.int iI), .val nmD, .val (.lst rmsD), s9, s10, s11, s12, s13, s14, s15, s16] N
      = .next [.val cs, .val (.ref j), .val (.int mI), .val (.int n), .val ahD', .own (mods ++ [.tup [.str nm, .tup rs]]), .val (.int iI), .val nmD, .val (.lst rmsD), .own rs, t10, t11, t12, t13, t14, t15, t16] N2 := by
  rw [lp__law_program_1_eq]
  simp [-rng1D_int, heq, hin, hcell, hmp, hmx, hb, re, hB, hPl, tupleD, seqOf, lstOf]
theorem program_ok (K : Nat) (most : Nat) (hmost : most ≤ 4) {cs : D} (hcs : CellsD cs) {j : Nat} {c : Int} {M : Store} (hj : M[j]? = some (.lst [.int c])) (h0 : -1 ≤ c) (h1 : c + 1000000 < 2 ^ 39) :
    ∃ (n : Int) (P : Pr) (c' : Int) (Xs : Store), sem (K + 14) f__law_program [cs, .ref j, .int most] M = .ok (.val (pgD P)) (M.set j (.lst [.int c']) ++ Xs) ∧ PrWf n most P ∧ c ≤ c' ∧ c' ≤ c + 600000 := by
  have hjl : j < M.length := (List.getElem?_eq_some_iff.mp hj).1
  obtain ⟨n, hn0, hn⟩ := cell1 (K + 12) hcs hj h0 (by omega)
  obtain ⟨cnt, hcnt⟩ : ∃ k : Nat, (k : Int) = 1 + n / 384 % 3 := ⟨(1 + n / 384 % 3).toNat, by omega⟩
  have hc3 : cnt ≤ 3 := by omega
  have hj1 := get_set (b := .lst [.int (c + 1)]) hj
  obtain ⟨ρ', M', e, P, ah, c', Xs, s6', s9', s10', s11', s12', s13', s14', s15', s16', rfl, rfl, hl, hI, hc, hc'⟩ := forGo_all (b := bName 6) (body := lp__law_program_1 (sem (K + 13)))
    (fun i ρ N => ∃ (P : Pr) (ah : List Ah) (c' : Int) (Xs : Store) (s6' s9' s10' s11' s12' s13' s14' s15' s16' : Slot), ρ = [.val cs, .val (.ref j), .val (.int most), .val (.int n), .val (.lst (ah.map Ah.toD)), .own (P.map rmD), s6', .val (.lst ((namesL n).map .str)), .val (.lst ((namesL (n / 7)).map .str)), s9', s10', s11', s12', s13', s14', s15', s16'] ∧ N = M.set j (.lst [.int c']) ++ Xs
      ∧ P.length = i ∧ ProgI n most ah P ∧ c + 1 ≤ c' ∧ c' ≤ c + 1 + 170000 * i)
    (rngL 0 cnt) (ρ := [.val cs, .val (.ref j), .val (.int most), .val (.int n), .val (.lst []), .own [], .un, .val (.lst ((namesL n).map .str)), .val (.lst ((namesL (n / 7)).map .str)), .un, .un, .un, .un, .un, .un, .un, .un]) (M := M.set j (.lst [.int (c + 1)]))
    ⟨[], [], c + 1, [], .un, .un, .un, .un, .un, .un, .un, .un, .un, rfl, by rw [List.append_nil], rfl, ⟨rfl, fun _ h => absurd h (by simp), True.intro, rfl, fun _ h => absurd h (by simp), fun _ h => absurd h (by simp), .inl rfl⟩, by omega, by omega⟩
    (fun i d ρ N hd ⟨P, ah, c', Xs, s6', s9', s10', s11', s12', s13', s14', s15', s16', e1, e2, hl, hI, hc, hc'⟩ => by
      subst e1 e2
      obtain ⟨hi, rfl⟩ := rngL_get hd
      have hj2 : (M.set j (.lst [.int c']) ++ Xs)[j]? = some (.lst [.int c']) := get_app (get_set hj)
      obtain ⟨v, hv0, hv⟩ := cell1 (K + 12) hcs hj2 (by omega) (by omega)
      have hM2 : (M.set j (.lst [.int c']) ++ Xs).set j (.lst [.int (c' + 1)]) = M.set j (.lst [.int (c' + 1)]) ++ Xs := by rw [set_app (by rw [List.length_set]; exact hjl), set_set]
      rw [hM2] at hv
      have hj3 : (M.set j (.lst [.int (c' + 1)]) ++ Xs)[j]? = some (.lst [.int (c' + 1)]) := get_app (get_set hj)
      obtain ⟨cn, hcn⟩ : ∃ k : Nat, (k : Int) = max (if i = 0 then 1 else 0) (v / 5 % (most + 1)) := ⟨(max (if i = 0 then 1 else 0) (v / 5 % ((most : Int) + 1))).toNat, by
        have : 0 ≤ v / 5 % ((most : Int) + 1) := Int.emod_nonneg _ (by omega)
        split <;> omega⟩
      have hv1 : 0 ≤ v / 5 % ((most : Int) + 1) := Int.emod_nonneg _ (by omega)
      have hv2 : v / 5 % ((most : Int) + 1) < most + 1 := Int.emod_lt_of_pos _ (by omega)
      have hcn4 : cn ≤ max 1 most := by split at hcn <;> omega
      have hfl : (flat P).length ≤ P.length * max 1 most := flat_len hI.each
      have hfl2 : P.length * max 1 most ≤ 3 * 4 := Nat.mul_le_mul (by omega) (by omega)
      have hR : RoomI n (nameAt (n / 7) (i : Int)) (flat P) ah [] := ⟨by rw [List.map_nil, List.append_nil]; exact hI.ahs, hI.ok, by rw [List.map_nil, List.append_nil]; exact hI.wf, by simp, fun _ h => absurd h (by simp)⟩
      obtain ⟨rs, ah', c2, X2, t10, t11, t12, t13, t14, t15, t16, re, hrl, hR', hc2, hc3⟩ := room_ok K hcs hj3 (by omega) (by omega) n (.val (.int most)) (.val (.int n)) (P.map rmD) (i : Int) (by omega) (by omega) (flat P) ah (by omega) hR cn (by omega) s10' s11' s12' s13' s14' s15' s16'
      have hM3 : (M.set j (.lst [.int (c' + 1)]) ++ Xs).set j (.lst [.int c2]) = M.set j (.lst [.int c2]) ++ Xs := by rw [set_app (by rw [List.length_set]; exact hjl), set_set]
      rw [hM3, List.append_assoc] at re
      have hB := namesL_at (n := n / 7) (i := (i : Int)) (by omega) (by omega)
      have hb : rng1D [.int (cn : Int)] = some (rngL 0 cn) := by rw [rng1_ok (by omega) (by omega), Int.toNat_natCast]
      have hPl : P.length < 16777216 := by omega
      refine ⟨_, rfl, [.val cs, .val (.ref j), .val (.int most), .val (.int n), .val (.lst (ah'.map Ah.toD)), .own ((P ++ [(nameAt (n / 7) i, rs)]).map rmD), .val (.int i), .val (.lst ((namesL n).map .str)), .val (.lst ((namesL (n / 7)).map .str)), .own (rs.map Row.toD), t10, t11, t12, t13, t14, t15, t16], M.set j (.lst [.int c2]) ++ (Xs ++ X2), ?_, P ++ [(nameAt (n / 7) i, rs)], ah', c2, Xs ++ X2, _, _, _, _, _, _, _, _, _, rfl, rfl, by rw [List.length_append, hl]; rfl, ?_, by omega, by push_cast; omega⟩
      · rw [lp__law_program_1_eq]
        rw [Int.zero_add]
        have hmx : max2D (M.set j (.lst [.int (c' + 1)]) ++ Xs) [.int (if i = 0 then 1 else 0), .int (v / 5 % ((most : Int) + 1))] = some (.val (.int cn)) := by
          rw [hcn]
          show some (Slot.val (D.int (if v / 5 % ((most : Int) + 1) > (if i = 0 then 1 else 0) then v / 5 % ((most : Int) + 1) else (if i = 0 then 1 else 0)))) = _
          rw [maxIk]
        have hin : ∀ N, intD N [.bl (decide (i = 0))] = some (.val (.int (if i = 0 then 1 else 0))) := fun N => by
          show some (Slot.val (D.int (if (decide (i = 0)) = true then 1 else 0))) = _
          by_cases hz : i = 0
          · subst hz; rfl
          · simp [hz]
        have heq : decide ((i : Int) = 0) = decide (i = 0) := by
          by_cases hz : i = 0
          · subst hz; rfl
          · rw [decide_eq_false hz, decide_eq_false (by omega)]
        rw [List.map_append]
        exact turn_go _ cs _ _ _ j _ n _ v _ _ _ cn _ _ _ _ _ _ _ _ _ _ _ _ _ _ _ _ _ _ _ _ _ _ hv heq hin (by omega) hmx hb re hB (by rw [List.length_map]; exact hPl)
      · refine ⟨?_, hR'.ok, ?_, ?_, ?_, ?_, ?_⟩
        · rw [flat_append]; show Ahs ah' (flat P ++ (rs.map _ ++ [])); rw [List.append_nil]; exact hR'.ahs
        · rw [flat_append]; show RowsWf n [] (flat P ++ (rs.map _ ++ [])); rw [List.append_nil]; exact hR'.wf
        · rw [List.map_append, hI.mods, List.length_append, List.length_singleton, List.range_succ, List.map_append, hl]; rfl
        · intro q hq
          rcases List.mem_append.mp hq with hq | hq
          · exact hI.nd q hq
          · rw [List.mem_singleton] at hq; subst hq; exact hR'.nd
        · intro q hq
          rcases List.mem_append.mp hq with hq | hq
          · exact hI.each q hq
          · rw [List.mem_singleton] at hq; subst hq; show rs.length ≤ _; omega
        · rcases hI.one with hP | ⟨q, Q, hP, hq⟩
          · right
            subst hP
            refine ⟨_, [], rfl, ?_⟩
            show rs ≠ []
            intro hz
            rw [hz] at hrl
            have : i = 0 := by simpa using hl.symm
            rw [if_pos this] at hcn
            simp at hrl
            omega
          · right
            exact ⟨q, Q ++ [_], by rw [hP]; rfl, hq⟩)
  rw [rngL_len] at hl hc'
  have hb : rng1D [.int (1 + n / 384 % 3)] = some (rngL 0 cnt) := by rw [← hcnt, rng1_ok (by omega) (by omega), Int.toNat_natCast]
  refine ⟨n, P, c', Xs, ?_, ⟨hI.wf, ?_, fun q hq => ⟨hI.nd q hq, ?_⟩, by omega, hI.each, ?_⟩, by omega, by omega⟩
  · rw [e__law_program]
    have hn1 := names_ok (K + 12) n
    have hn2 := names_ok (K + 12) (n / 7)
    simp [-rng1D_int, runF, m__law_program, startD, hn, hn1, hn2, bTup, bNames, hb, e, tupleD, seqOf, lstOf, pgD]
  · rw [hI.mods]
    refine List.pairwise_map.mpr (List.Pairwise.imp_of_mem (fun {i j} hi hj hij h => ?_) List.pairwise_lt_range)
    rw [List.mem_range] at hi hj
    have := nameAt_inj (by omega) (by omega) (by omega) (by omega) h
    omega
  · have : q.1 ∈ P.map (·.1) := List.mem_map.mpr ⟨q, hq, rfl⟩
    rw [hI.mods] at this
    obtain ⟨i, hi, e⟩ := List.mem_map.mp this
    rw [List.mem_range] at hi
    rw [← e]
    exact nameAt_names (by omega) (by omega)
  · rcases hI.one with hP | h
    · subst hP; simp at hl; omega
    · exact h
end K06
namespace K06
open PySem L2 TP
open BRep
set_option maxHeartbeats 8000000
theorem wf_names {Q : Str → Prop} {ah : Str → Str → Nat → Prop} : ∀ {q : List Nat} {ns : List Str} {e p : Ex}, Ex.Wf Q ah ns e → (∀ z ∈ ns, Q z) → Ex.sub e q = some p → ∃ ns', Ex.Wf Q ah ns' p ∧ ∀ z ∈ ns', Q z
  | [], ns, e, p, h, hn, hq => by rw [Ex.sub] at hq; cases hq; exact ⟨ns, h, hn⟩
  | i :: q, ns, e, p, h, hn, hq => by
    rw [Ex.sub_cons] at hq
    cases hi : e.parts[i]? with
    | none => rw [hi] at hq; cases hq
    | some x =>
      rw [hi] at hq
      refine wf_names (wf_at h hi) (fun z hz => ?_) hq
      cases e with
      | lt y a b =>
        rw [Ex.Wf] at h
        simp only [scI] at hz
        split at hz
        · rcases List.mem_cons.mp hz with rfl | hz
          · exact h.1
          · exact hn z hz
        · exact hn z hz
      | times a y s b d =>
        rw [Ex.Wf] at h
        simp only [scI] at hz
        split at hz
        · rcases List.mem_cons.mp hz with rfl | hz
          · exact h.1
          · rcases List.mem_cons.mp hz with rfl | hz
            · exact h.2.1
            · exact hn z hz
        · exact hn z hz
      | _ => exact hn z hz
theorem rightH_of {n : Int} {most : Nat} {P : Pr} (h : PrWf n most P) (hm : most ≤ 4) {x : Str × Row} (hx : x ∈ flat P) {K : Nat} (hK : 5 ≤ K) : RightH P x K := by
  have wf : ∀ y ∈ flat P, RowWf n (flat P) y := fun y hy => by
    have := RowsWf.mem h.rows hy
    rw [List.nil_append] at this
    exact this
  have hlen : (flat P).length ≤ 12 := by
    have h1 := flat_len (k := 4) (P := P) fun q hq => Nat.le_trans (h.each q hq) (by omega)
    have h2 := h.len
    have h3 : P.length * 4 ≤ 3 * 4 := Nat.mul_le_mul_right 4 h2
    omega
  have hw := (wf x hx).wf
  have hps : ∀ z ∈ x.2.ps, z ∈ namesL n := (wf x hx).ps
  refine ⟨by omega, h.nd, hx, fun q hq => ⟨namesL_ok (h.names q hq).2, fun r hr => namesL_ok (wf _ (mem_flat hq hr)).f⟩, fun y hy => ⟨by have := (wf y hy).len; omega, by have := (wf y hy).dep; omega, by have := (wf y hy).cnt; omega, namesL_ok (wf y hy).m, namesL_ok (wf y hy).f⟩, namesL_nm (wf x hx).m, namesL_nm (wf x hx).f, fun r hr => use_bnd hw hr, fun q y hs => ?_, fun q y a d hs => ?_, fun q a i s d e hs => ?_, (wf x hx).len, (wf x hx).nd, fun z hz => namesL_ok (hps z hz), (wf x hx).dep, (wf x hx).cnt, fun r hr => ?_⟩
  · obtain ⟨ns, h1, h2⟩ := wf_names hw hps hs
    rw [Ex.Wf] at h1
    exact namesL_ok (h2 y h1)
  · obtain ⟨ns, h1, h2⟩ := wf_names hw hps hs
    rw [Ex.Wf] at h1
    exact namesL_ok h1.1
  · obtain ⟨ns, h1, h2⟩ := wf_names hw hps hs
    rw [Ex.Wf] at h1
    exact ⟨h1.2.2.1, namesL_ok h1.1, namesL_ok h1.2.1⟩
  · refine Ex.rows_small (fun m f k ⟨y, hy, _, _, e⟩ => ?_) 5 (wf x hx).dep hw r hr
    have := (wf y hy).len
    omega
section
variable {n : Int} {P : Pr} (h : PrWf n 3 P)
include h
theorem law_rows (s0 s1 s2 s3 s6 : Slot) {q : Str × List Row} (hq : q ∈ P) : ∀ (rs : List Row) (s7 : Slot) (M : Store), (∀ r ∈ rs, r ∈ q.2) → ∃ X t7, forGo (bName 7) (lp_law_0 (sem 109)) (rs.map Row.toD) [s0, s1, s2, s3, .val (pgD P), .val (.str q.1), s6, s7] M = .next [s0, s1, s2, s3, .val (pgD P), .val (.str q.1), s6, t7] (M ++ X)
  | [], s7, M, _ => ⟨[], s7, by simp [forGo]⟩
  | r :: rs, s7, M, hr => by
    have hx := mem_flat hq (hr r List.mem_cons_self)
    obtain ⟨X1, h1⟩ := right_ok (K := 102) (rightH_of h (by decide) hx (by decide)) (by decide) (by decide) M
    have h1' : sem 109 f__law_right [pgD P, .str q.1, .str r.f] M = .ok (.val (.bl true)) (M ++ X1) := h1
    obtain ⟨X2, t7, h2⟩ := law_rows s0 s1 s2 s3 s6 hq rs (.val r.toD) (M ++ X1) fun z hz => hr z (List.mem_cons_of_mem _ hz)
    refine ⟨X1 ++ X2, t7, ?_⟩
    have hb : lp_law_0 (sem 109) [s0, s1, s2, s3, .val (pgD P), .val (.str q.1), s6, .val r.toD] M = .next [s0, s1, s2, s3, .val (pgD P), .val (.str q.1), s6, .val r.toD] (M ++ X1) := by
      have i0 : ∀ N, idxD N r.toD (.int 0) = some (.val (.str r.f)) := fun _ => rfl
      rw [lp_law_0_eq]
      obtain ⟨RD, hRD⟩ : ∃ z, r.toD = z := ⟨_, rfl⟩
      rw [hRD] at i0 ⊢
      obtain ⟨PD, hPD⟩ : ∃ z, pgD P = z := ⟨_, rfl⟩
      rw [hPD] at h1' ⊢
      simp [-List.append_assoc, i0, h1']
    rw [List.map_cons, forGo_step rfl hb, h2, List.append_assoc]
theorem law_mods (s0 s1 s2 s3 : Slot) : ∀ (Q : Pr) (s5 s6 s7 : Slot) (M : Store), (∀ q ∈ Q, q ∈ P) → ∃ X t5 t6 t7, forGo (bTup [5, 6]) (lp_law_1 (sem 109)) (Q.map rmD) [s0, s1, s2, s3, .val (pgD P), s5, s6, s7] M = .next [s0, s1, s2, s3, .val (pgD P), t5, t6, t7] (M ++ X)
  | [], s5, s6, s7, M, _ => ⟨[], s5, s6, s7, by simp [forGo]⟩
  | q :: Q, s5, s6, s7, M, hq => by
    obtain ⟨X1, t7, h1⟩ := law_rows h s0 s1 s2 s3 (.val (.tup (q.2.map Row.toD))) (hq q List.mem_cons_self) q.2 s7 M fun r hr => hr
    obtain ⟨X2, u5, u6, u7, h2⟩ := law_mods s0 s1 s2 s3 Q (.val (.str q.1)) (.val (.tup (q.2.map Row.toD))) t7 (M ++ X1) fun z hz => hq z (List.mem_cons_of_mem _ hz)
    refine ⟨X1 ++ X2, u5, u6, u7, ?_⟩
    have hb : bTup [5, 6] (rmD q) [s0, s1, s2, s3, .val (pgD P), s5, s6, s7] = some [s0, s1, s2, s3, .val (pgD P), .val (.str q.1), .val (.tup (q.2.map Row.toD)), s7] := rfl
    have hl : lp_law_1 (sem 109) [s0, s1, s2, s3, .val (pgD P), .val (.str q.1), .val (.tup (q.2.map Row.toD)), s7] M = .next [s0, s1, s2, s3, .val (pgD P), .val (.str q.1), .val (.tup (q.2.map Row.toD)), t7] (M ++ X1) := by
      have hit : itemsD (.tup (q.2.map Row.toD)) = some (q.2.map Row.toD) := rfl
      rw [lp_law_1_eq]
      simp [-List.append_assoc, hit, h1]
    rw [List.map_cons, forGo_step hb hl, h2, List.append_assoc]
end
theorem law_turn {ns : List Int} (hns : ns.length ≤ 63) {c : Int} {M : Store} (hj : M[0]? = some (.lst [.int c])) (h0 : -1 ≤ c) (h1 : c < 2 ^ 30) (s0 s1 s4 s5 s6 s7 : Slot) :
    ∃ M' c' t4 t5 t6 t7, lp_law_2 (sem 109) [s0, s1, .val (.lst (ns.map .int)), .val (.ref 0), s4, s5, s6, s7] M = .next [s0, s1, .val (.lst (ns.map .int)), .val (.ref 0), t4, t5, t6, t7] M' ∧ M'[0]? = some (.lst [.int c']) ∧ c ≤ c' ∧ c' ≤ c + 600000 := by
  obtain ⟨n, P, c', Xs, hp, hw, l, u⟩ := program_ok 95 3 (by decide) (cs := .lst (ns.map .int)) ⟨ns, hns, .inr rfl⟩ hj h0 (by omega)
  have hp' : sem 109 f__law_program [.lst (ns.map .int), .ref 0, .int 3] M = .ok (.val (pgD P)) (M.set 0 (.lst [.int c']) ++ Xs) := hp
  have hg : (M.set 0 (.lst [.int c']) ++ Xs)[0]? = some (.lst [.int c']) := get_app (get_set hj)
  obtain ⟨X, t5, t6, t7, hm⟩ := law_mods hw s0 s1 (.val (.lst (ns.map .int))) (.val (.ref 0)) P s5 s6 s7 (M.set 0 (.lst [.int c']) ++ Xs) fun q hq => hq
  refine ⟨M.set 0 (.lst [.int c']) ++ Xs ++ X, c', .val (pgD P), t5, t6, t7, ?_, get_app hg, l, u⟩
  clear hp hg
  have hit : itemsD (pgD P) = some (P.map rmD) := rfl
  rw [lp_law_2_eq]
  obtain ⟨S1, hS1⟩ : ∃ z, M.set 0 (.lst [.int c']) ++ Xs = z := ⟨_, rfl⟩
  rw [hS1] at hp' hm ⊢
  obtain ⟨CL, hCL⟩ : ∃ y, ns.map D.int = y := ⟨_, rfl⟩
  rw [hCL] at hp' hm ⊢
  obtain ⟨PM, hPM⟩ : ∃ z, P.map rmD = z := ⟨_, rfl⟩
  rw [hPM] at hm hit
  obtain ⟨PD, hPD⟩ : ∃ z, pgD P = z := ⟨_, rfl⟩
  rw [hPD] at hp' hm hit ⊢
  simp [-List.append_assoc, hp', hit, hm]
theorem law_true (ns : List Int) (hns : ns.length ≤ 63) : ∃ M, sem 110 f_law [.fro (ns.map .int)] [] = .ok (.val (.bl true)) M := by
  obtain ⟨cnt, hcnt, hcb⟩ : ∃ k : Nat, (k : Int) = 1 + (if (ns.length : Int) < 5 then (ns.length : Int) else 5) ∧ k ≤ 6 := ⟨1 + min 5 ns.length, by split <;> omega, by omega⟩
  obtain ⟨ρ', M', hf, s1, s4, s5, s6, s7, c', e1, hg, hc0, hc1⟩ := forGo_all (b := bName 1) (body := lp_law_2 (sem 109))
    (fun i ρ N => ∃ (s1 s4 s5 s6 s7 : Slot) (c' : Int), ρ = [.val (.fro (ns.map .int)), s1, .val (.lst (ns.map .int)), .val (.ref 0), s4, s5, s6, s7] ∧ N[0]? = some (.lst [.int c']) ∧ -1 ≤ c' ∧ c' ≤ 600000 * i)
    (rngL 0 cnt) (ρ := [.val (.fro (ns.map .int)), .un, .val (.lst (ns.map .int)), .val (.ref 0), .un, .un, .un, .un]) (M := [.lst [.int (-1)]])
    ⟨.un, .un, .un, .un, .un, -1, rfl, rfl, by omega, by omega⟩
    (fun i d ρ N hd ⟨s1, s4, s5, s6, s7, c', e1, hg, hc0, hc1⟩ => by
      subst e1
      obtain ⟨hi, rfl⟩ := rngL_get hd
      obtain ⟨M', c2, t4, t5, t6, t7, hs, hg', hl, hu⟩ := law_turn hns hg (by omega) (by omega) (.val (.fro (ns.map .int))) (.val (.int (0 + (i : Int)))) s4 s5 s6 s7
      exact ⟨_, rfl, _, _, hs, _, t4, t5, t6, t7, c2, rfl, hg', by omega, by push_cast; omega⟩)
  subst e1
  refine ⟨M', ?_⟩
  have hlen : ∀ N, lenD N [.fro (ns.map .int)] = some (.val (.int (ns.length : Int))) := fun N => by
    show some (Slot.val (D.int (List.map D.int ns).length)) = _; rw [List.length_map]
  have hlist : ∀ N, listD N [.fro (ns.map .int)] = some (.own (ns.map .int)) := fun N => rfl
  obtain ⟨L, hL⟩ : ∃ z : Int, (ns.length : Int) = z := ⟨_, rfl⟩
  rw [hL] at hcnt hlen
  have hmin : ∀ N, min2D N [.int 5, .int L] = some (.val (.int (if L < 5 then L else 5))) := fun N => rfl
  obtain ⟨w, hw⟩ : ∃ z : Int, (if L < 5 then L else 5) = z := ⟨_, rfl⟩
  rw [hw] at hcnt hmin
  have hrng : rng1D [.int (1 + w)] = some (rngL 0 cnt) := by rw [← hcnt, rng1_ok (by omega) (by omega), Int.toNat_natCast]
  obtain ⟨CL, hCL⟩ : ∃ y, ns.map D.int = y := ⟨_, rfl⟩
  rw [hCL] at hlen hf hlist ⊢
  rw [e_law]
  obtain ⟨one, hone⟩ : ∃ o : Store, [MO.lst [.int (-1)]] = o := ⟨_, rfl⟩
  rw [hone] at hf
  simp [-rng1D_int, -lenD_fro, runF, m_law, startD, hlist, hone, hlen, hmin, hrng, hf]
end K06
open PySem PySem.W PyProof.Rows
set_option maxRecDepth 100000 in
set_option maxHeartbeats 0 in
theorem PySem.Challenge.cw_turnpaper_k06_whole_binders_holds : PySem.Challenge.rw_turnpaper_k06_whole_binders.Holds := by
  refine K06Hd.law_open fun said => ?_
  refine holds_open (q := K06Hd.viewP) (loose := K06Hd.looseL) (Xt := K06Hd.xtF) (XP := XL K06Hd.viewP []) (Yf := Hook.obs (kHook K06Hd.pre.heap_1 K06Hd.asL K06Hd.as_ok)) (Ya := Hook.val (kHook K06Hd.pre.heap_1 K06Hd.asL K06Hd.as_ok)) (YP := Hook.says (kHook K06Hd.pre.heap_1 K06Hd.asL K06Hd.as_ok)) (N := 100700) K06Hd.left (Hook.of (kHook K06Hd.pre.heap_1 K06Hd.asL K06Hd.as_ok)) (Hook.keeps (kHook K06Hd.pre.heap_1 K06Hd.asL K06Hd.as_ok)) (fun s e => xl_of s (Bool.and_eq_true_iff.mp e).1) XL.keeps (by rfl) (by rfl) (by rfl) (fun s e => recFacts_of (Bool.and_eq_true_iff.mp e).2) (by rfl) (by assumption) K06Hd.okP K06Hd.bareP ?hw ?hc
  (case hw => w_witness2)
  k_fill
  refine TP.g_walk (l := PySem.Challenge.rw_turnpaper_k06_whole_binders) (n := 63) (k := 110) (x := "_law_script") (CX := fun _ => L2.CX0) (sp := fun w => TP.spD _ TP.W0 1 (K06.sem 110 K06.f_law)) rfl (by decide) rfl ⟨rfl, by decide, by decide⟩ (fun w h Y => PySem.W.kIn_of Y) ?F (fun w H a ns hl hO hS => TP.law_sp hS (K06.law_true ns hl)) (fun _ _ _ _ _ h => h)
  case F =>
    intro w mg fa h KX G hmg
    refine' K06.law_fin 110 hmg (K06.top_mk KX G ?a0 ?l0 ?c0 ?k0 ?a1 ?l1 ?c1 ?k1 ?a2 ?l2 ?c2 ?k2 ?a3 ?l3 ?c3 ?k3 ?a4 ?l4 ?c4 ?k4 ?a5 ?l5 ?c5 ?k5 ?a6 ?l6 ?c6 ?k6 ?a7 ?l7 ?c7 ?k7 ?a8 ?l8 ?c8 ?k8 ?a9 ?l9 ?c9 ?k9 ?a10 ?l10 ?c10 ?k10 ?a11 ?l11 ?c11 ?k11 ?a12 ?l12 ?c12 ?k12 ?a13 ?l13 ?c13 ?k13 ?a14 ?l14 ?c14 ?k14 ?a15 ?l15 ?c15 ?k15 ?a16 ?l16 ?c16 ?k16 ?a17 ?l17 ?c17 ?k17 ?a18 ?l18 ?c18 ?k18 ?a19 ?l19 ?c19 ?k19 ?a20 ?l20 ?c20 ?k20 ?a21 ?l21 ?c21 ?k21 ?a22 ?l22 ?c22 ?k22 ?a23 ?l23 ?c23 ?k23 ?a24 ?l24 ?c24 ?k24 ?a25 ?l25 ?c25 ?k25 ?a26 ?l26 ?c26 ?k26 ?a27 ?l27 ?c27 ?k27 ?a28 ?l28 ?c28 ?k28 ?a29 ?l29 ?c29 ?k29 ?a30 ?l30 ?c30 ?k30 ?a31 ?l31 ?c31 ?k31 ?a32 ?l32 ?c32 ?k32 ?z_list ?z_isinstance ?z_bool ?z_int ?z_len ?z_all ?z_str ?z_tuple ?z_dict ?z_enumerate ?z_range ?z_max ?z_repr ?z_sorted ?z_min ?g_SPOTS ?u_SPOTS ?v_SPOTS ?y_SPOTS)
    (case a0 | l0 | c0 | k0 | a1 | l1 | c1 | k1 | a2 | l2 | c2 | k2 | a3 | l3 | c3 | k3 | a4 | l4 | c4 | k4 | a5 | l5 | c5 | k5 | a6 | l6 | c6 | k6 | a7 | l7 | c7 | k7 | a8 | l8 | c8 | k8 | a9 | l9 | c9 | k9 | a10 | l10 | c10 | k10 | a11 | l11 | c11 | k11 | a12 | l12 | c12 | k12 | a13 | l13 | c13 | k13 | a14 | l14 | c14 | k14 | a15 | l15 | c15 | k15 | a16 | l16 | c16 | k16 | a17 | l17 | c17 | k17 | a18 | l18 | c18 | k18 | a19 | l19 | c19 | k19 | a20 | l20 | c20 | k20 | a21 | l21 | c21 | k21 | a22 | l22 | c22 | k22 | a23 | l23 | c23 | k23 | a24 | l24 | c24 | k24 | a25 | l25 | c25 | k25 | a26 | l26 | c26 | k26 | a27 | l27 | c27 | k27 | a28 | l28 | c28 | k28 | a29 | l29 | c29 | k29 | a30 | l30 | c30 | k30 | a31 | l31 | c31 | k31 | a32 | l32 | c32 | k32 | z_list | z_isinstance | z_bool | z_int | z_len | z_all | z_str | z_tuple | z_dict | z_enumerate | z_range | z_max | z_repr | z_sorted | z_min | g_SPOTS | u_SPOTS => k_is)
    (case v_SPOTS => first | rfl | kernel_rfl)
    (case y_SPOTS => repeat (first | exact True.intro | refine ⟨⟨_, _, rfl, rfl⟩, ?_⟩))
