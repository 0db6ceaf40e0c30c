import PyProof.Rows.All
import Wide.All
import OpenK.AllK
import Wide.FinOn
import HandS.ForMost
import HandS.Exc
import HandS.Walk
import HandS.IsInst
import HandS.Lambda
import HandS.TupAny
import HandS.TupMul
import HandS.Star
import HandS.Flow
import HandS.Wide
import HandS.Style
import HandS.Deep
import HandS.TupLe
import KE.DataMinMax
import KE.DataAny
import KE.DataFind
import KE.KTupSum
import HandS.CallSlots
import HandS.CallRecv
import HandS.HeadWalk
import HandS.Defaults
import HandS.Conv
import HandS.SortInts
import KE.KSortedM
import HandS.Zip
import HandS.SetFor
import HandS.HeadEnd
import KE.GoesEnum
import HandS.HeadHook2
import HandS.HeadHook4
import KE.GoesZip
import KE.KDictZip
import KE.SortData
import KE.DataCmp
import HandS.OwnEq
import HandS.Set
import HandS.Strs
import KE.SortKeyHeap
import HandS.Head0
import HandS.Head1
import HandS.Head2
import HandS.HeadHook1
import PySem.Challenge.RW_copylots_k21_whole_dual
set_option Elab.async false
set_option linter.all false
set_option maxRecDepth 100000
set_option maxHeartbeats 0
section
namespace VI
open PySem PySem.Spec PyProof.Rows L2
abbrev Sg := L2.St

/-- data: frozen things are trees; a thing that may change is a box -/
inductive D where
  | non | bl (b : Bool) | int (i : Int) | str (x : Str)
  | tup (xs : List D) | lst (xs : List D)
  /-- a tuple whose object is known -/
  | tpl (xs : List D)
  | dct (ks vs : List D)
  | obj (c : Nat) (fs : List Nat) (vs : List D)
  | ref (b : Nat)
  /-- the script (a list that is never written) -/
  | scr (ns : List Int)

/-- a box -/
inductive Bx where
  | lst (lk : Bool) (xs : List D)
  | dct (lk : Bool) (ks vs : List D)
  | obj (c : Nat) (fs : List Nat) (vs : List D)
  /-- the table of code objects of the t-th def with lambdas -/
  | tbl (t : Nat)

abbrev Ev := List (Option D)
/-- the boxes; the heights at which the running calls began, the newest first -/
structure Bs where
  fbs : List Nat
  bs : List Bx

mutual
/-- its boxes lie below k -/
def bel (k : Nat) : D → Prop
  | .tup xs => bels k xs
  | .tpl xs => bels k xs
  | .lst xs => bels k xs
  | .dct ks vs => bels k ks ∧ bels k vs
  | .obj _ _ vs => bels k vs
  | .ref b => b < k
  | _ => True
def bels (k : Nat) : List D → Prop
  | [] => True
  | x :: xs => bel k x ∧ bels k xs
end
def belB (k : Nat) : Bx → Prop
  | .lst _ xs => bels k xs
  | .dct _ ks vs => bels k ks ∧ bels k vs
  | .obj _ _ vs => bels k vs
  | .tbl _ => True
mutual
/-- no box in it -/
def noR : D → Bool
  | .tup xs => noRs xs
  | .tpl xs => noRs xs
  | .lst xs => noRs xs
  | .dct ks vs => noRs ks && noRs vs
  | .obj _ _ vs => noRs vs
  | .ref _ => false
  | _ => true
def noRs : List D → Bool
  | [] => true
  | x :: xs => noR x && noRs xs
end
mutual
theorem noR.bel {k : Nat} : ∀ d : D, noR d = true → bel k d
  | .non, _ => by simp [VI.bel]
  | .bl _, _ => by simp [VI.bel]
  | .int _, _ => by simp [VI.bel]
  | .str _, _ => by simp [VI.bel]
  | .tup xs, h => by simp only [noR] at h; simp only [VI.bel]; exact noRs.bels xs h
  | .tpl xs, h => by simp only [noR] at h; simp only [VI.bel]; exact noRs.bels xs h
  | .lst xs, h => by simp only [noR] at h; simp only [VI.bel]; exact noRs.bels xs h
  | .dct ks vs, h => by simp only [noR, Bool.and_eq_true] at h; simp only [VI.bel]; exact ⟨noRs.bels ks h.1, noRs.bels vs h.2⟩
  | .obj _ _ vs, h => by simp only [noR] at h; simp only [VI.bel]; exact noRs.bels vs h
  | .ref b, h => by simp [noR] at h
  | .scr _, _ => by simp [VI.bel]
theorem noRs.bels {k : Nat} : ∀ d : List D, noRs d = true → bels k d
  | [], _ => by simp [VI.bels]
  | x :: xs, h => by simp only [noRs, Bool.and_eq_true] at h; simp only [VI.bels]; exact ⟨noR.bel x h.1, noRs.bels xs h.2⟩
end

/-- the tables of the text: class addresses, attribute names -/
structure Tb where
  K : PySem.W.Frag
  cls : Nat → Option Addr
  att : Nat → Str
  /-- how many names -/
  n : Nat
  /-- isinstance: types by numbers (0 NoneType, 1 bool, 2 int, 3 str, 4 tuple, 5 list, 6 dict, 7 + c the class c) -/
  kit : Nat → Nat → Option Bool
  isc : Nat → Bool
  /-- the class c has plain instances with the attribute f -/
  fok : Nat → Nat → Bool
  /-- the tables of code objects: where, the name of the code objects in it -/
  tab : Nat → Addr × Str
def tyS : Nat → String
  | 0 => "NoneType"
  | 1 => "bool"
  | 2 => "int"
  | 3 => "str"
  | 4 => "tuple"
  | 5 => "list"
  | _ => "dict"
/-- the type's value -/
def Tb.tyV (T : Tb) (t : Nat) (u : Value) : Prop := if t < 7 then u = .type (tyS t) else ∃ C, T.cls (t - 7) = some C ∧ u = .ref C
structure Tb.Ok (T : Tb) : Prop where
  kit : ∀ t u b tv uv, T.kit t u = some b → T.tyV t tv → T.tyV u uv → PySem.W.kitOne T.K tv uv = some b
  ins : ∀ c C, T.cls c = some C → T.isc c = true → ∀ (H : Hp) (a dx : Addr) (fs : List (Str × V)), H a = some (.ins C dx fs) → TyOf T.K H (.ref a) (.ref C)
  ne : ∀ c C, T.cls c = some C → PySem.W.mroIn T.K C (.type "object") = some true ∧ PySem.W.findIn T.K (.ref C) "__ne__" = some (some (.builtin "object.__ne__"))
  inj : ∀ f g, f < T.n → T.att g = T.att f → g = f
  lt : ∀ c f, T.fok c f = true → f < T.n
  fld : ∀ c f C, T.fok c f = true → T.cls c = some C → Cls T.K C ∧ NoAttr T.K C (T.att f)

/-- where the boxes are; which of them are locked -/
structure Mu where
  ad : List Addr
  lk : List Addr
  /-- lists that a comprehension is filling -/
  pr : List Addr
  /-- the heights of the running calls -/
  fb : List Nat
def Mu.no (μ : Mu) (a : Addr) : Prop := a ∉ μ.ad ∧ a ∉ μ.pr
def Mu.push (μ : Mu) (p : Addr) : Mu := { μ with ad := μ.ad ++ [p] }
/-- a frozen list, a tuple: of the heap (no box), or of the written part -/
def FzL (K : PySem.W.Frag) (μ : Mu) (H : Hp) (a : Addr) (xs : List V) : Prop := (Rd H a (.lst xs) ∧ μ.no a) ∨
  ∃ (o : Obj) (its : Array Value) (n : Nat), K.lookup a = some o ∧ o.cls = .type "list" ∧ o.dict = none ∧ o.data = .seq its n ∧ its.size ≤ sizeLine ∧ Vals xs its.toList
theorem FzL.sq {K μ H a xs} (h : FzL K μ H a xs) : SqL K H a xs := by
  rcases h with ⟨h, _⟩ | h
  · exact .inl h
  · exact .inr h

section
variable (T : Tb) (μ : Mu) (H : Hp)
mutual
def Rep : D → V → Prop
  | .non, v => v = .non
  | .bl b, v => v = .bl b
  | .int i, v => v = .int i
  | .str x, v => v = .str x
  | .tup xs, v => ∃ a vs, v = .ref a ∧ H a = some (.tup vs) ∧ μ.no a ∧ Reps xs vs
  | .tpl xs, v => ∃ a o vs, v = .ref a ∧ H a = some (.frz o (.tup vs)) ∧ (o.cls = .type "tuple" ∧ o.dict = none) ∧ μ.no a ∧ Reps xs vs
  | .lst xs, v => ∃ a vs, v = .ref a ∧ H a = some (.lst vs) ∧ μ.no a ∧ Reps xs vs
  | .dct ks vs, v => False
  | .obj c fs xs, v => ∃ a C dx vs, v = .ref a ∧ T.cls c = some C ∧ H a = some (.ins C dx ((fs.map T.att).zip vs)) ∧ μ.no a ∧ fs.length = vs.length ∧ Reps xs vs
  | .ref b, v => ∃ a, μ.ad[b]? = some a ∧ v = .ref a
  | .scr ns, v => ∃ a, v = .ref a ∧ FzL T.K μ H a (ns.map V.int)
def Reps : List D → List V → Prop
  | [], vs => vs = []
  | x :: xs, vs => ∃ v r, vs = v :: r ∧ Rep x v ∧ Reps xs r
end
/-- what stands at a box's address -/
def RepB : Bx → Addr → Prop
  | .lst _ xs, a => ∃ vs, H a = some (.lst vs) ∧ Reps T μ H xs vs
  | .dct _ ks xs, a => False
  | .obj c fs xs, a => ∃ C dx vs, T.cls c = some C ∧ H a = some (.ins C dx ((fs.map T.att).zip vs)) ∧ fs.length = vs.length ∧ Reps T μ H xs vs
  | .tbl t, a => a = (T.tab t).1 ∧ ∃ ps : Array Value, H a = some (.tbl ps) ∧ TriplesOk ps.toList ∧ ∀ (pos : Pos) (cv : Value), codeAmong pos ps.toList = some cv → ∃ c, cv = .ref c ∧ H c = some (LamX.CodeO c (T.tab t).2) ∧ μ.no c
end

/-- the boxes are where μ says -/
structure Rel (T : Tb) (μ : Mu) (h : Bs) (H : Hp) : Prop where
  fb : h.fbs = μ.fb
  prh : ∀ a ∈ μ.pr, (∃ xs, H a = some (.lst xs)) ∧ a ∉ μ.ad
  lks : ∀ a ∈ μ.lk, ∃ (b : Nat) (xs : List D), μ.ad[b]? = some a ∧ h.bs[b]? = some (.lst true xs)
  lkf : ∀ (b : Nat) (xs : List D) (a : Addr), h.bs[b]? = some (.lst true xs) → μ.ad[b]? = some a → a ∈ μ.lk
  len : μ.ad.length = h.bs.length
  nd : μ.ad.Nodup
  at_ : ∀ (i : Nat) (b : Bx) (a : Addr), h.bs[i]? = some b → μ.ad[i]? = some a → RepB T μ H b a
  lo : ∀ k ∈ h.fbs, k ≤ h.bs.length
  ord : h.fbs.Pairwise (· ≥ ·)
  wf : ∀ k ∈ h.fbs, ∀ (i : Nat) (b : Bx), i < k → h.bs[i]? = some b → belB k b

def RepE (T : Tb) (μ : Mu) (H : Hp) (ρ : Ev) (σ : Sg) : Prop := ρ.length = σ.length ∧ ∀ (i : Nat) (d : D), ρ[i]? = some (some d) → ∃ v, σ[i]? = some (some v) ∧ Rep T μ H d v

/-- from one state to a later one: what is no box stays -/
structure Stp (μ : Mu) (H : Hp) (μ' : Mu) (H' : Hp) : Prop where
  fbe : μ'.fb = μ.fb
  pre : ∀ (i : Nat) (a : Addr), μ.ad[i]? = some a → μ'.ad[i]? = some a
  lks : μ'.lk = μ.lk
  prs : ∀ a ∈ μ.pr, a ∈ μ'.pr
  prn : ∀ a ∈ μ'.pr, a ∈ μ.pr ∨ a ∈ μ.ad ∨ H a = none
  keep' : ∀ a o, H a = some o → (a ∉ μ.ad ∨ a ∈ μ.lk) → H' a = some o
  new : ∀ p, p ∈ μ'.ad → p ∈ μ.ad ∨ H p = none

theorem Stp.keep {μ H μ' H'} (s : Stp μ H μ' H') : ∀ a o, H a = some o → a ∉ μ.ad → H' a = some o := fun a o h n => s.keep' a o h (.inl n)
theorem Stp.refl {μ H} : Stp μ H μ H := ⟨rfl, fun _ _ h => h, rfl, fun _ h => h, fun _ h => .inl h, fun _ _ h _ => h, fun _ h => .inl h⟩
theorem Stp.sub {μ H μ' H'} (s : Stp μ H μ' H') {a : Addr} (h : a ∈ μ.ad) : a ∈ μ'.ad := by
  obtain ⟨i, hi⟩ := List.getElem?_of_mem h
  exact List.mem_of_getElem? (s.pre i a hi)
theorem Stp.trans {μ H μ' H' μ'' H''} (s : Stp μ H μ' H') (t : Stp μ' H' μ'' H'') : Stp μ H μ'' H'' where
  fbe := t.fbe.trans s.fbe
  pre := fun i a h => t.pre i a (s.pre i a h)
  lks := t.lks.trans s.lks
  prs := fun a h => t.prs a (s.prs a h)
  prn := fun a h => by
    rcases t.prn a h with z | z | z
    · exact s.prn a z
    · rcases s.new a z with y | y
      · exact .inr (.inl y)
      · exact .inr (.inr y)
    · by_cases hm : a ∈ μ.ad
      · exact .inr (.inl hm)
      · cases e : H a with
        | none => exact .inr (.inr rfl)
        | some o => have := s.keep a o e hm; rw [z] at this; cases this
  keep' := fun a o h n => by
    rcases n with n | n
    · by_cases hm : a ∈ μ'.ad
      · rcases s.new a hm with z | z
        · exact absurd z n
        · rw [z] at h; cases h
      · exact t.keep a o (s.keep a o h n) hm
    · exact t.keep' a o (s.keep' a o h (.inr n)) (.inr (by rw [s.lks]; exact n))
  new := fun p hp => by
    rcases t.new p hp with z | z
    · exact s.new p z
    · by_cases hm : p ∈ μ.ad
      · exact .inl hm
      · cases e : H p with
        | none => exact .inr rfl
        | some o => have := s.keep p o e hm; rw [z] at this; cases this
/-- a new thing that is no box -/
theorem Stp.laid {μ : Mu} {H : Hp} {p : Addr} {o : HO} (h : H p = none) : Stp μ H μ (upd H p o) :=
  ⟨rfl, fun _ _ e => e, rfl, fun _ z => z, fun _ z => .inl z, fun a u e _ => by rw [upd_ne (ne_of_none e h)]; exact e, fun _ e => .inl e⟩
/-- a new box -/
theorem Stp.box {μ : Mu} {H : Hp} {p : Addr} {o : HO} (h : H p = none) : Stp μ H (μ.push p) (upd H p o) :=
  ⟨rfl, fun i a e => by
      have hl : i < μ.ad.length := (List.getElem?_eq_some_iff.mp e).1
      show (μ.ad ++ [p])[i]? = some a
      rw [List.getElem?_append_left hl]; exact e,
    rfl, fun _ z => z, fun _ z => .inl z, fun a u e _ => by rw [upd_ne (ne_of_none e h)]; exact e,
    fun q hq => by
      rcases List.mem_append.mp (show q ∈ μ.ad ++ [p] from hq) with z | z
      · exact .inl z
      · have : q = p := by simpa using z
        subst this; exact .inr h⟩
/-- a box written -/
theorem Stp.put {μ : Mu} {H : Hp} {p : Addr} {o : HO} (h : p ∈ μ.ad) (hl : p ∉ μ.lk) : Stp μ H μ (upd H p o) :=
  ⟨rfl, fun _ _ e => e, rfl, fun _ z => z, fun _ z => .inl z, fun a u e n => by
    rw [upd_ne (fun z => by
      subst z
      rcases n with n | n
      · exact n h
      · exact hl n)]
    exact e, fun _ e => .inl e⟩

section
variable {T : Tb} {μ μ' : Mu} {H H' : Hp}
theorem Stp.not (s : Stp μ H μ' H') {a : Addr} {o : HO} (h : H a = some o) (n : μ.no a) : μ'.no a := by
  refine ⟨fun hm => ?_, fun hm => ?_⟩
  · rcases s.new a hm with z | z
    · exact n.1 z
    · rw [z] at h; cases h
  · rcases s.prn a hm with z | z | z
    · exact n.2 z
    · exact n.1 z
    · rw [z] at h; cases h
theorem Stp.rd (s : Stp μ H μ' H') {a : Addr} {u : HO} (r : Rd H a u) (n : μ.no a) : Rd H' a u := by
  rcases r with r | ⟨o, r⟩
  · exact .inl (s.keep a _ r n.1)
  · exact .inr ⟨o, s.keep a _ r n.1⟩
theorem Rd.some {a : Addr} {u : HO} (r : Rd H a u) : ∃ o, H a = some o := by
  rcases r with r | ⟨o, r⟩
  · exact ⟨_, r⟩
  · exact ⟨_, r⟩
theorem Stp.fl {K : PySem.W.Frag} (s : Stp μ H μ' H') {a : Addr} {xs : List V} (h : FzL K μ H a xs) : FzL K μ' H' a xs := by
  rcases h with ⟨r, n⟩ | h
  · obtain ⟨o, e⟩ := Rd.some r
    exact .inl ⟨s.rd r n, s.not e n⟩
  · exact .inr h
mutual
theorem Rep.step (s : Stp μ H μ' H') : ∀ (d : D) (v : V), Rep T μ H d v → Rep T μ' H' d v
  | .non, v, h => by simpa [Rep] using h
  | .bl b, v, h => by simpa [Rep] using h
  | .int i, v, h => by simpa [Rep] using h
  | .str x, v, h => by simpa [Rep] using h
  | .tup xs, v, h => by
    simp only [Rep] at h ⊢
    obtain ⟨a, vs, e, f, n, r⟩ := h
    exact ⟨a, vs, e, s.keep a _ f n.1, s.not f n, Reps.step s xs vs r⟩
  | .tpl xs, v, h => by
    simp only [Rep] at h ⊢
    obtain ⟨a, o, vs, e, f, c, n, r⟩ := h
    exact ⟨a, o, vs, e, s.keep a _ f n.1, c, s.not f n, Reps.step s xs vs r⟩
  | .lst xs, v, h => by
    simp only [Rep] at h ⊢
    obtain ⟨a, vs, e, f, n, r⟩ := h
    exact ⟨a, vs, e, s.keep a _ f n.1, s.not f n, Reps.step s xs vs r⟩
  | .dct ks vs, v, h => by simp only [Rep] at h
  | .obj c fs xs, v, h => by
    simp only [Rep] at h ⊢
    obtain ⟨a, C, dx, vs, e, ec, f, n, l, r⟩ := h
    exact ⟨a, C, dx, vs, e, ec, s.keep a _ f n.1, s.not f n, l, Reps.step s xs vs r⟩
  | .ref b, v, h => by
    simp only [Rep] at h ⊢
    obtain ⟨a, e, e2⟩ := h
    exact ⟨a, s.pre _ _ e, e2⟩
  | .scr ns, v, h => by
    simp only [Rep] at h ⊢
    obtain ⟨a, e, f⟩ := h
    exact ⟨a, e, s.fl f⟩
theorem Reps.step (s : Stp μ H μ' H') : ∀ (d : List D) (v : List V), Reps T μ H d v → Reps T μ' H' d v
  | [], v, h => by simpa [Reps] using h
  | x :: xs, v, h => by
    simp only [Reps] at h ⊢
    obtain ⟨w, r, e, h1, h2⟩ := h
    exact ⟨w, r, e, Rep.step s x w h1, Reps.step s xs r h2⟩
end
theorem RepE.step (s : Stp μ H μ' H') {ρ : Ev} {σ : Sg} (h : RepE T μ H ρ σ) : RepE T μ' H' ρ σ := ⟨h.1, fun i d e => by
  obtain ⟨v, e1, r⟩ := h.2 i d e
  exact ⟨v, e1, Rep.step s d v r⟩⟩
/-! ### lists of them -/
theorem Reps.length {T : Tb} {μ H} : ∀ {xs : List D} {vs : List V}, Reps T μ H xs vs → xs.length = vs.length
  | [], vs, h => by simp only [Reps] at h; subst h; rfl
  | x :: xs, vs, h => by
    simp only [Reps] at h
    obtain ⟨v, r, rfl, _, h⟩ := h
    simp [Reps.length h]
theorem Reps.get {T : Tb} {μ H} : ∀ {xs : List D} {vs : List V} {i : Nat} {x : D}, Reps T μ H xs vs → xs[i]? = some x → ∃ v, vs[i]? = some v ∧ Rep T μ H x v
  | [], _, _, _, _, e => by simp at e
  | y :: xs, vs, 0, x, h, e => by
    simp only [Reps] at h
    obtain ⟨v, r, rfl, h1, _⟩ := h
    simp at e; subst e
    exact ⟨v, rfl, h1⟩
  | y :: xs, vs, i + 1, x, h, e => by
    simp only [Reps] at h
    obtain ⟨v, r, rfl, _, h2⟩ := h
    obtain ⟨u, e1, r1⟩ := Reps.get (i := i) (x := x) h2 (by simpa using e)
    exact ⟨u, by simpa using e1, r1⟩
theorem Reps.append {T : Tb} {μ H} : ∀ {xs ys : List D} {vs ws : List V}, Reps T μ H xs vs → Reps T μ H ys ws → Reps T μ H (xs ++ ys) (vs ++ ws)
  | [], ys, vs, ws, h, h2 => by simp only [Reps] at h; subst h; exact h2
  | x :: xs, ys, vs, ws, h, h2 => by
    simp only [Reps] at h
    obtain ⟨v, r, rfl, h0, h1⟩ := h
    simp only [List.cons_append, Reps]
    exact ⟨v, r ++ ws, rfl, h0, Reps.append h1 h2⟩
theorem Reps.one {T : Tb} {μ H} {x : D} {v : V} (h : Rep T μ H x v) : Reps T μ H [x] [v] := by
  simp only [Reps]; exact ⟨v, [], rfl, h, rfl⟩
theorem Reps.nil {T : Tb} {μ H} : Reps T μ H [] [] := by simp only [Reps]
theorem Reps.cons {T : Tb} {μ H} {x : D} {v : V} {xs : List D} {vs : List V} (h : Rep T μ H x v) (h2 : Reps T μ H xs vs) : Reps T μ H (x :: xs) (v :: vs) := by
  simp only [Reps]; exact ⟨v, vs, rfl, h, h2⟩
theorem Reps.set {T : Tb} {μ H} {x : D} {v : V} (r : Rep T μ H x v) : ∀ {xs : List D} {vs : List V} (i : Nat), Reps T μ H xs vs → Reps T μ H (xs.set i x) (vs.set i v)
  | [], vs, i, h => by simp only [Reps] at h; subst h; simp [Reps]
  | y :: xs, vs, 0, h => by
    simp only [Reps] at h
    obtain ⟨w, rr, rfl, h0, h1⟩ := h
    exact .cons r h1
  | y :: xs, vs, i + 1, h => by
    simp only [Reps] at h
    obtain ⟨w, rr, rfl, h0, h1⟩ := h
    exact .cons h0 (Reps.set r i h1)
theorem Reps.take {T : Tb} {μ H} : ∀ {xs : List D} {vs : List V} (n : Nat), Reps T μ H xs vs → Reps T μ H (xs.take n) (vs.take n)
  | _, _, 0, _ => by simp [Reps]
  | [], vs, n + 1, h => by simp only [Reps] at h; subst h; simp [Reps]
  | y :: xs, vs, n + 1, h => by
    simp only [Reps] at h
    obtain ⟨w, rr, rfl, h0, h1⟩ := h
    exact .cons h0 (Reps.take n h1)
theorem Reps.drop {T : Tb} {μ H} : ∀ {xs : List D} {vs : List V} (n : Nat), Reps T μ H xs vs → Reps T μ H (xs.drop n) (vs.drop n)
  | _, _, 0, h => h
  | [], vs, n + 1, h => by simp only [Reps] at h; subst h; simp [Reps]
  | y :: xs, vs, n + 1, h => by
    simp only [Reps] at h
    obtain ⟨w, rr, rfl, h0, h1⟩ := h
    exact Reps.drop n h1
theorem Reps.ints {T : Tb} {μ H} : ∀ (ns : List Int), Reps T μ H (ns.map .int) (ns.map V.int)
  | [] => .nil
  | n :: ns => .cons (by simp only [Rep]) (Reps.ints ns)
theorem Reps.intsOf {T : Tb} {μ H} : ∀ {ns : List Int} {vs : List V}, Reps T μ H (ns.map .int) vs → vs = ns.map V.int
  | [], vs, h => by simpa [Reps] using h
  | n :: ns, vs, h => by
    simp only [List.map_cons, Reps, Rep] at h
    obtain ⟨w, rr, rfl, rfl, h1⟩ := h
    rw [Reps.intsOf h1]; rfl
theorem Reps.bls {T : Tb} {μ H} : ∀ {ns : List Bool} {vs : List V}, Reps T μ H (ns.map .bl) vs → vs = ns.map V.bl
  | [], vs, h => by simpa [Reps] using h
  | n :: ns, vs, h => by
    simp only [List.map_cons, Reps, Rep] at h
    obtain ⟨w, rr, rfl, rfl, h1⟩ := h
    rw [Reps.bls h1]; rfl
theorem RepE.set {T : Tb} {μ H} {ρ : Ev} {σ : Sg} {i : Nat} {d : D} {v : V} (h : RepE T μ H ρ σ) (r : Rep T μ H d v) : RepE T μ H (ρ.set i (some d)) (σ.set i (some v)) := by
  refine ⟨by simp [h.1], fun j e q => ?_⟩
  by_cases hj : i = j
  · subst hj
    have hl : i < ρ.length := by
      have := (List.getElem?_eq_some_iff.mp q).1
      simpa using this
    rw [List.getElem?_set_self hl] at q
    cases q
    exact ⟨v, List.getElem?_set_self (by rw [← h.1]; exact hl), r⟩
  · rw [List.getElem?_set_ne hj] at q ⊢
    exact h.2 j e q
end
end VI
end
section
namespace VI
open PySem PySem.Spec PyProof.Rows L2
/-! tuples that are known to the object -/
def tupO (o : Obj) : Prop := o.cls = .type "tuple" ∧ o.dict = none
/-- a wish for a new such tuple -/
def ToP (H : Hp) (xs : List V) (Q : VK) : Prop := ∀ p o, o.cls = .type "tuple" ∧ o.dict = none → H p = none → Q (.ref p) (upd H p (.frz o (.tup xs)))
section
variable {X : Cx} {es : List Expr} {t : TA} {pos : Pos}
theorem laidP {pins : List (Addr × Obj)} {σ : List (Option V)} {H : Hp} {s : Shared} {xs : List V} {us : List Value} {Q : VK} (I : Inv X pins σ H s) (hz : xs.length ≤ sizeLine) (r : Vals xs us) (q : ToP H xs Q) :
    EP X pins σ Q (.ref s.heap.objs.size) { s with heap := s.heap.push { cls := .type "tuple", data := .seq us.toArray } } := by
  refine ⟨.ref s.heap.objs.size, upd H s.heap.objs.size (.frz { cls := .type "tuple", data := .seq us.toArray } (.tup xs)), ?_, rfl, q _ _ ⟨rfl, rfl⟩ (I.hok.fresh (Nat.le_refl _))⟩
  refine I.laid (t' := s.toks) (fun _ _ z => Heap.get?_push_of_some _ z) (Nat.le_refl _) ?_
  exact ⟨Heap.get?_push_size _ rfl, hz, us, r, IsTup.new _ _⟩
def tTupP (t : TA) : TE := fun σ H Q => t σ H fun xs H1 => xs.length ≤ sizeLine ∧ ToP H1 xs Q
theorem pe_tupP {k} (h : PA X es t) : PE X (.Tuple es k pos) (tTupP t) :=
  ⟨fun pins s σ H Q I w => wpAny_Tuple_spliced (thn (h.run pos pins s σ H _ I w) fun us s1 ⟨xs, H1, I1, r, z, q⟩ => ⟨by rw [← r.length]; exact z, laidP I1 z r q⟩)⟩
def rCatP (K : PySem.W.Frag) : R2 := fun x y H Q => ∃ a b xs ys, x = .ref a ∧ y = .ref b ∧ SqT K H a xs ∧ SqT K H b ys ∧ xs.length + ys.length ≤ sizeLine ∧
  (xs = [] → Q (.ref b) H) ∧ (xs ≠ [] → ys = [] → Q (.ref a) H) ∧ (xs ≠ [] → ys ≠ [] → ToP H (xs ++ ys) Q)
theorem op_catP : OpR X (binaryOp .Add) (rCatP X.K) := by
  intro pins s σ H x y v u Q I rx ry ⟨a, b, xs, ys, ex, ey, ha, hb, hz, q0, q1, q2⟩
  by_cases hx : xs = []
  · exact op_catA pins s σ H x y v u Q I rx ry ⟨a, b, xs, ys, ex, ey, ha, hb, hz, q0, q1, fun z => absurd hx z⟩
  · subst ex ey
    cases rx
    cases ry
    obtain ⟨us, r1, p1, _⟩ := I.tuple ha
    obtain ⟨ws, r2, p2, _⟩ := I.tuple hb
    refine HT.cat_tup p1 p2 (fun z => hx (r1.nil_iff.mp z)) (fun z => ⟨.ref a, H, I, rfl, q1 hx (r2.nil_iff.mp z)⟩) (fun z => ?_) (by rw [← r1.length, ← r2.length]; exact hz)
    exact laidP I (by rw [List.length_append]; exact hz) (r1.append r2) (q2 hx fun w => z (r2.nil_iff.mpr w))
def rSlP (K : PySem.W.Frag) : V → Option Int → Option Int → Hp → VK → Prop := fun x lo hi H Q => ∃ a xs, x = .ref a ∧ SqT K H a xs ∧
  (HT.sIx xs.length 0 lo = 0 ∧ HT.sIx xs.length xs.length hi = xs.length → Q (.ref a) H) ∧ (¬ (HT.sIx xs.length 0 lo = 0 ∧ HT.sIx xs.length xs.length hi = xs.length) → ToP H (cutV xs lo hi) Q)
theorem sl_tupP : SlR X (rSlP X.K) := by
  intro pins s σ H x v vl vu lo hi sl Q I rx hs pl pu ⟨a, xs, ex, hx, q1, q2⟩
  by_cases hw : HT.sIx xs.length 0 lo = 0 ∧ HT.sIx xs.length xs.length hi = xs.length
  · exact sl_tupA pins s σ H x v vl vu lo hi sl Q I rx hs pl pu ⟨a, xs, ex, hx, q1, fun z => absurd hw z⟩
  · subst ex
    cases rx
    obtain ⟨us, r, ht, hz⟩ := I.tuple hx
    have hn : us.toArray.size = xs.length := by rw [List.size_toArray]; exact r.length.symm
    refine ⟨"tuple", _, PyProof.Rows.slot_tuple_getitem.lookup, ht.typeIs, HT.getItem_tuple_cut ht hs pl pu (by rw [hn]; exact hw) ?_ (by rw [hn]; exact hz)⟩
    rw [hn]
    exact laidP I (Nat.le_trans (cutV_length xs lo hi) hz) ((r.drop (HT.sIx xs.length 0 lo)).take (HT.sIx xs.length xs.length hi - HT.sIx xs.length 0 lo)) (q2 hw)
def rRepP (K : PySem.W.Frag) : R2 := fun x y H Q => ∃ l k xs, x = .ref l ∧ y = .int k ∧ SqT K H l xs ∧ xs ≠ [] ∧ 2 ≤ k ∧ k ≤ 1000 ∧ xs.length ≤ 1000 ∧ ToP H (List.replicate k.toNat xs).flatten Q
theorem op_repP : OpR X (binaryOp .Mult) (rRepP X.K) := by
  intro pins s σ H x y v u Q I rx ry ⟨l, k, xs, ex, ey, hT, hne, h1, h2, hz, q⟩
  subst ex ey
  cases rx
  obtain ⟨t, rfl⟩ := ry
  obtain ⟨us, r, ⟨⟨cls, dd, data, sl⟩, ho, hc, n, hd⟩, hs⟩ := I.tuple hT
  simp only at hc hd
  subst hc hd
  have hle : us.length = xs.length := r.length.symm
  have hi : us.toArray.isEmpty = false := by
    cases us with
    | nil => exact absurd (List.eq_nil_of_length_eq_zero hle.symm) hne
    | cons _ _ => rfl
  have hsz : us.toArray.size = xs.length := by rw [List.size_toArray, hle]
  have a2 : k.toNat * xs.length ≤ 1000 * 1000 := Nat.mul_le_mul (by omega) hz
  have a1 : ((xs.length : Nat) : Int) * k ≤ 1000 * k := Int.mul_le_mul_of_nonneg_right (by omega) (by omega)
  have hm : ((us.toArray.size : Nat) : Int) * k ≤ 1000000 := by rw [hsz]; omega
  have fl : (List.replicate k.toNat us).flatten.length ≤ sizeLine := by rw [PyProof.Rows.lm_len_rep_flat, hle, sizeLine_eq]; omega
  have d0 : (decide (k < -(2 ^ 63)) || decide (k ≥ 2 ^ 63)) = false := by
    rw [decide_eq_false (show ¬ k < -(2 ^ 63) by omega), decide_eq_false (show ¬ k ≥ 2 ^ 63 by omega)] <;> rfl
  have d1 : (us.toArray.isEmpty || k == 1) = false := by rw [hi, Bool.false_or]; exact beq_eq_false_iff_ne.mpr (by omega)
  have d2 : (decide (k ≤ 0) || us.toArray.isEmpty) = false := by rw [hi, Bool.or_false]; exact decide_eq_false (by omega)
  have d4 : Builtin.Tuple.tupleTooMany (((us.toArray.size : Nat) : Int) * k) = false := by
    unfold Builtin.Tuple.tupleTooMany; rw [sizeLine_eq]; exact decide_eq_false (by omega)
  have M := tuple_mulW l us.toArray n dd sl k t d0 d1 d2 (by omega) d4 (by rw [size_rep, List.size_toArray]; exact fl)
  refine wpAny_binaryOp_repeat_ref (T := "tuple") (U := "int") (by decide) ⟨_, ho, rfl⟩ (fun z => typeIs_int z k t) noFill_tuple_mul F.fills_int_mul F.slot_int_rmul repeat_tuple F.slot_int_index.lookup
    (call_meets F.slot_int_rmul (typeIs_int s k t) F.entry_int_rmul (F.args_int_rmul_2 _ _) (int_rmul_tuple k t l us.toArray n dd sl) ⟨ho, rfl, ⟨_, ho, rfl⟩, call_meets F.slot_tuple_mul ⟨_, ho, rfl⟩ F.entry_tuple_mul (F.args_tuple_mul_2 _ _) M ⟨ho, ?_⟩⟩)
  rw [size_rep]
  exact laidP I (by rw [PyProof.Rows.lm_len_rep_flat, sizeLine_eq]; omega) (r.rep k.toNat) q
/-- tuple(list) -/
theorem call_tupleP : CallR X (.type "tuple") (fun xs H Q => ∃ p ys, xs = [.ref p] ∧ SqL X.K H p ys ∧ ToP H ys Q) := by
  intro pins s σ H xs us Q I r ⟨p, ys, ex, hq, q⟩
  subst ex
  obtain ⟨u, rfl, rx⟩ := vals1 r
  cases rx
  obtain ⟨ws, r', pl, hz⟩ := I.list hq
  have hl := r'.length
  refine call_tuple_list pl.isList (fun h' kp => ?_) (by simp only [List.size_toArray] <;> omega)
  have I1 : Inv X pins σ H { s with heap := h' } := I.kept (t' := s.toks) kp
  exact laidP I1 hz r' q
/-! ### methods of such tuples -/
/-- o.m(..), o a tuple that is known -/
def tTM (r : V → List V → Hp → VK → Prop) (to : TE) (t : TA) : TE := fun σ H Q => to σ H fun x H1 => (∃ a o vs, x = .ref a ∧ H1 a = some (.frz o (.tup vs)) ∧ o.cls = .type "tuple" ∧ o.dict = none) ∧ t σ H1 fun xs H2 => r x xs H2 Q
theorem pe_tm {o e : Expr} {to : TE} {name : Str} {apos cpos : Pos} {id : String} {r : V → List V → Hp → VK → Prop} (slot : Slot "tuple" name id) (hty : typeOf (.builtin id) = pure (.type "method_descriptor")) (hm : MtR X id r) (ho : PE X o to) (ha : PA X (e :: es) t)
    (hbase : attributeBase o name X.env (eval o X.env) = eval o X.env)
    (hfew : ((backTo cpos (starEach (e :: es) X.env)).all (fun x => !x.1) && (backToKw cpos (keywordEach [] X.env)).all (fun x => x.1.isSome) && decide ((e :: es).length + ([] : List Keyword).length + (if ([] : List Keyword).isEmpty then 0 else 1) < 30)) = true)
    (hline : (apos.endLine == cpos.line) = true) (hs : starEach (e :: es) X.env = (false, eval e X.env) :: starEach es X.env) (hplain : (backTo cpos (starEach es X.env)).any (·.1) = false) :
    PE X (.Call (.Attribute o name apos) (e :: es) [] cpos) (tTM r to t) := by
  refine ⟨fun pins s σ H Q I h => wpAny_Call_method_late hbase hfew hline rfl (thn (ho.run pins s σ H _ I h) fun v s1 ⟨x, H1, I1, r1, ⟨a, ob, vs, ex, hf, hc, hd⟩, q1⟩ => ?_)⟩
  subst ex
  cases r1
  have hg : s1.heap.get? a = some ob := (I1.hok a _ hf).1
  refine ⟨"tuple", id, PySem.F.plainAttrs_tuple, slot, hty, ⟨ob, hg, hc⟩, fun b e => by cases e; exact ⟨ob, hg, hd⟩, ?_⟩
  have hA := ha.run cpos pins s1 σ H1 _ I1 q1
  rw [hs] at hA ⊢
  refine Calls.callWith_builtin (by show (false || (backTo cpos (starEach es X.env)).any (·.1)) = false; rw [hplain] <;> rfl) (Calls.evalArgs_plain ?_)
  exact thn hA fun us s2 ⟨vs, H2, I2, r2, q2⟩ => hm pins s2 σ H2 (.ref a) vs (.ref a) us Q I2 (show RelV (.ref a) (.ref a) from rfl) r2 q2
end
end VI
end
section
namespace VI
open PySem PySem.Spec PyProof.Rows L2

structure Ex where
  c : Nat
  fs : List Nat
  vs : List D
inductive R (α : Type) where
  | ok (a : α) (h : Bs) | ex (x : Ex) (h : Bs) | no
def R.bind {α β : Type} (r : R α) (f : α → Bs → R β) : R β := match r with
  | .ok a h => f a h
  | .ex x h => .ex x h
  | .no => .no
/-- what a statement comes to -/
inductive F where
  | nx (ρ : Ev) (h : Bs) | rt (d : D) (h : Bs) | bk (ρ : Ev) (h : Bs) | ct (ρ : Ev) (h : Bs) | ex (x : Ex) (ρ : Ev) (h : Bs) | no

def RepX (T : Tb) (μ : Mu) (H : Hp) (x : Ex) (cls : Value) (d : Option Addr) : Prop :=
  ∃ C, T.cls x.c = some C ∧ cls = .ref C ∧ ((x.fs = [] ∧ x.vs = [] ∧ d = none) ∨ ∃ dx vs, d = some dx ∧ H dx = some (.xd ((x.fs.map T.att).zip vs)) ∧ μ.no dx ∧ x.fs.length = vs.length ∧ Reps T μ H x.vs vs)

abbrev SV := Ev → Bs → R D
abbrev SA := Ev → Bs → R (List D)
abbrev SS := Ev → Bs → F
abbrev noW : WX := fun _ _ _ _ => False

def OutV (T : Tb) (W : WX) (σ : Sg) (μ : Mu) (H : Hp) (Q : VK) : R D → Prop
  | .ok d h' => ∀ μ' H' v, Stp μ H μ' H' → Rel T μ' h' H' → Rep T μ' H' d v → Q v H'
  | .ex x h' => ∀ μ' H' cls d, Stp μ H μ' H' → Rel T μ' h' H' → RepX T μ' H' x cls d → W cls d σ H'
  | .no => False
def OutB (T : Tb) (W : WX) (σ : Sg) (μ : Mu) (H : Hp) (Q : Bool → Hp → Prop) : R Bool → Prop
  | .ok d h' => ∀ μ' H', Stp μ H μ' H' → Rel T μ' h' H' → Q d H'
  | .ex x h' => ∀ μ' H' cls d, Stp μ H μ' H' → Rel T μ' h' H' → RepX T μ' H' x cls d → W cls d σ H'
  | .no => False
def OutA (T : Tb) (W : WX) (σ : Sg) (μ : Mu) (H : Hp) (Q : List V → Hp → Prop) : R (List D) → Prop
  | .ok d h' => ∀ μ' H' v, Stp μ H μ' H' → Rel T μ' h' H' → Reps T μ' H' d v → Q v H'
  | .ex x h' => ∀ μ' H' cls d, Stp μ H μ' H' → Rel T μ' h' H' → RepX T μ' H' x cls d → W cls d σ H'
  | .no => False
def OutS (T : Tb) (W : WX) (μ : Mu) (H : Hp) (D : Ends) : F → Prop
  | .nx ρ h' => ∀ μ' H' σ', Stp μ H μ' H' → Rel T μ' h' H' → RepE T μ' H' ρ σ' → D.nx σ' H'
  | .bk ρ h' => ∀ μ' H' σ', Stp μ H μ' H' → Rel T μ' h' H' → RepE T μ' H' ρ σ' → D.bk σ' H'
  | .ct ρ h' => ∀ μ' H' σ', Stp μ H μ' H' → Rel T μ' h' H' → RepE T μ' H' ρ σ' → D.ct σ' H'
  | .rt d h' => ∀ μ' H' v, Stp μ H μ' H' → Rel T μ' h' H' → Rep T μ' H' d v → D.rt v H'
  | .ex x ρ h' => ∀ μ' H' σ' cls d, Stp μ H μ' H' → Rel T μ' h' H' → RepE T μ' H' ρ σ' → RepX T μ' H' x cls d → W cls d σ' H'
  | .no => False

def tV (T : Tb) (W : WX) (s : SV) : TE := fun σ H Q => ∃ μ ρ h, Rel T μ h H ∧ RepE T μ H ρ σ ∧ OutV T W σ μ H Q (s ρ h)
def tB' (T : Tb) (W : WX) (s : Ev → Bs → R Bool) : TT := fun σ H Q => ∃ μ ρ h, Rel T μ h H ∧ RepE T μ H ρ σ ∧ OutB T W σ μ H Q (s ρ h)
def tA' (T : Tb) (W : WX) (s : SA) : TA := fun σ H Q => ∃ μ ρ h, Rel T μ h H ∧ RepE T μ H ρ σ ∧ OutA T W σ μ H Q (s ρ h)
def tS' (T : Tb) (W : WX) (s : SS) : TS := fun D σ H => ∃ μ ρ h, Rel T μ h H ∧ RepE T μ H ρ σ ∧ OutS T W μ H D (s ρ h)

theorem OutV.step {T : Tb} {W : WX} {σ : Sg} {μ μ' : Mu} {H H' : Hp} {Q : VK} {r : R D} (o : OutV T W σ μ H Q r) (s : Stp μ H μ' H') : OutV T W σ μ' H' Q r := by
  cases r with
  | ok d h => exact fun μ2 H2 v s2 => o μ2 H2 v (s.trans s2)
  | ex x h => exact fun μ2 H2 c d s2 => o μ2 H2 c d (s.trans s2)
  | no => exact o
theorem OutB.step {T : Tb} {W : WX} {σ : Sg} {μ μ' : Mu} {H H' : Hp} {Q : Bool → Hp → Prop} {r : R Bool} (o : OutB T W σ μ H Q r) (s : Stp μ H μ' H') : OutB T W σ μ' H' Q r := by
  cases r with
  | ok d h => exact fun μ2 H2 s2 => o μ2 H2 (s.trans s2)
  | ex x h => exact fun μ2 H2 c d s2 => o μ2 H2 c d (s.trans s2)
  | no => exact o
theorem OutA.step {T : Tb} {W : WX} {σ : Sg} {μ μ' : Mu} {H H' : Hp} {Q : List V → Hp → Prop} {r : R (List D)} (o : OutA T W σ μ H Q r) (s : Stp μ H μ' H') : OutA T W σ μ' H' Q r := by
  cases r with
  | ok d h => exact fun μ2 H2 v s2 => o μ2 H2 v (s.trans s2)
  | ex x h => exact fun μ2 H2 c d s2 => o μ2 H2 c d (s.trans s2)
  | no => exact o
theorem OutS.step {T : Tb} {W : WX} {μ μ' : Mu} {H H' : Hp} {D : Ends} {r : F} (o : OutS T W μ H D r) (s : Stp μ H μ' H') : OutS T W μ' H' D r := by
  cases r with
  | nx d h => exact fun μ2 H2 v s2 => o μ2 H2 v (s.trans s2)
  | bk d h => exact fun μ2 H2 v s2 => o μ2 H2 v (s.trans s2)
  | ct d h => exact fun μ2 H2 v s2 => o μ2 H2 v (s.trans s2)
  | rt d h => exact fun μ2 H2 v s2 => o μ2 H2 v (s.trans s2)
  | ex x ρ h => exact fun μ2 H2 v c d s2 => o μ2 H2 v c d (s.trans s2)
  | no => exact o

/-- a value, then what is done with it -/
theorem OutV.bind {T : Tb} {W : WX} {σ : Sg} {μ : Mu} {H : Hp} {Q : VK} {r : R D} {f : D → Bs → R D} (o : OutV T W σ μ H Q (r.bind f)) :
    OutV T W σ μ H (fun v H1 => ∃ μ1 d h1, Stp μ H μ1 H1 ∧ Rel T μ1 h1 H1 ∧ Rep T μ1 H1 d v ∧ OutV T W σ μ1 H1 Q (f d h1)) r := by
  cases r with
  | ok d h => exact fun μ1 H1 v s r1 rv => ⟨μ1, d, h, s, r1, rv, OutV.step o s⟩
  | ex x h => exact o
  | no => exact o
theorem OutV.mono {T : Tb} {W : WX} {σ : Sg} {μ : Mu} {H : Hp} {Q Q' : VK} {r : R D} (o : OutV T W σ μ H Q r) (h : ∀ v H, Q v H → Q' v H) : OutV T W σ μ H Q' r := by
  cases r with
  | ok d h' => exact fun μ1 H1 v s r1 rv => h _ _ (o μ1 H1 v s r1 rv)
  | ex x h => exact o
  | no => exact o

section
variable {X : Cx} {T : Tb} {W : WX} {a b c : Expr} {sa sb sc : SV} {pos : Pos}
theorem PE.imp {t t' : TE} (h : PE X a t) (i : ∀ σ H Q, t' σ H Q → t σ H Q) : PE X a t' := ⟨fun pins s σ H Q I w => h.run pins s σ H Q I (i σ H Q w)⟩
theorem PT.imp {t t' : TT} (h : PT X a t) (i : ∀ σ H Q, t' σ H Q → t σ H Q) : PT X a t' := ⟨fun pins s σ H Q I w => h.run pins s σ H Q I (i σ H Q w)⟩
theorem PA.imp {es : List Expr} {t t' : TA} (h : PA X es t) (i : ∀ σ H Q, t' σ H Q → t σ H Q) : PA X es t' := ⟨fun p pins s σ H Q I w => h.run p pins s σ H Q I (i σ H Q w)⟩
theorem PS.imp {st : Stmt} {t t' : TS} (h : PS X st t) (i : ∀ D σ H, t' D σ H → t D σ H) : PS X st t' := ⟨fun pins s σ H D I w => h.run pins s σ H D I (i D σ H w)⟩
theorem PSs.imp {st : List Stmt} {t t' : TS} (h : PSs X st t) (i : ∀ D σ H, t' D σ H → t D σ H) : PSs X st t' := ⟨fun pins s σ H D I w => h.run pins s σ H D I (i D σ H w)⟩

/-! ### names, constants -/
def sK (d : D) : SV := fun _ h => .ok d h
def sVar (i : Nat) : SV := fun ρ h => match ρ[i]? with
  | some (some d) => .ok d h
  | _ => .no
theorem pv_var {i : Nat} {x : Str} (hN : X.N[i]? = some x) (hv : Vis X.env.scope x) (hd : (x == ("__debug__" : Str)) = false) (hcd : (x == ("__classdict__" : Str)) = false) : PE X (.Name x pos) (tV T W (sVar i)) :=
  PE.imp (pe_var hN hv hd hcd) fun σ H Q ⟨μ, ρ, h, r, e, o⟩ => by
    unfold sVar at o
    cases q : ρ[i]? with
    | none => rw [q] at o; exact o.elim
    | some z =>
      rw [q] at o
      cases z with
      | none => exact o.elim
      | some d =>
        obtain ⟨v, e1, rv⟩ := e.2 i d q
        exact ⟨v, e1, o μ H v Stp.refl r rv⟩
theorem tC_imp {d : D} {v : V} (hv : ∀ μ H, Rep T μ H d v) : ∀ σ H Q, tV T W (sK d) σ H Q → tC v σ H Q := fun σ H Q ⟨μ, ρ, h, r, e, o⟩ => o μ H v Stp.refl r (hv μ H)
theorem pv_int {i j} : PE X (.Constant (.int i) j pos) (tV T W (sK (.int i))) := PE.imp pe_int (tC_imp fun _ _ => by simp only [Rep])
theorem pv_bl {i j} : PE X (.Constant (.bool i) j pos) (tV T W (sK (.bl i))) := PE.imp pe_bl (tC_imp fun _ _ => by simp only [Rep])
theorem pv_str {i j} : PE X (.Constant (.str i) j pos) (tV T W (sK (.str i))) := PE.imp pe_str (tC_imp fun _ _ => by simp only [Rep])
theorem pv_non {j} : PE X (.Constant .none j pos) (tV T W (sK .non)) := PE.imp pe_non (tC_imp fun _ _ => by simp only [Rep])
theorem pv_glob {x : Str} {i : Int} {t : Tok} (hg : Gl X x) (hm : X.mg x = some (.int i t)) (hd : (x == ("__debug__" : Str)) = false) : PE X (.Name x pos) (tV T W (sK (.int i))) :=
  PE.imp (pe_glob (v := .int i) hg hm ⟨t, rfl⟩ hd) (tC_imp fun _ _ => by simp only [Rep])
theorem pv_never {e : Expr} : PE X e (tV T W fun _ _ => .no) := ⟨fun _ _ _ _ _ _ ⟨_, _, _, _, _, o⟩ => o.elim⟩
theorem pvs_never {st : Stmt} : PS X st (tS' T W fun _ _ => .no) := ⟨fun _ _ _ _ _ _ ⟨_, _, _, _, _, o⟩ => o.elim⟩

/-! ### an operation on two values -/
def rD2 (T : Tb) (f : D → D → Bs → R D) : R2 := fun x y H Q => ∃ μ h d e, Rel T μ h H ∧ Rep T μ H d x ∧ Rep T μ H e y ∧ OutV T noW [] μ H Q (f d e h)
def sOp (f : D → D → Bs → R D) (sa sb : SV) : SV := fun ρ h => (sa ρ h).bind fun x h1 => (sb ρ h1).bind fun y h2 => f x y h2
/-- no exception of its own -/
def Calm (r : R D) : Prop := ∀ x h, r ≠ .ex x h
theorem OutV.calm {σ σ' : Sg} {μ : Mu} {H : Hp} {Q : VK} {r : R D} (o : OutV T W σ μ H Q r) (c : Calm r) : OutV T noW σ' μ H Q r := by
  cases r with
  | ok d h => exact o
  | ex x h => exact absurd rfl (c x h)
  | no => exact o
theorem op2_imp {f : D → D → Bs → R D} (cf : ∀ d e h, Calm (f d e h)) : ∀ σ H Q, tV T W (sOp f sa sb) σ H Q → tOp (rD2 T f) (tV T W sa) (tV T W sb) σ H Q := fun σ H Q ⟨μ, ρ, h, r, e, o⟩ => by
  refine ⟨μ, ρ, h, r, e, OutV.mono (OutV.bind o) ?_⟩
  rintro v H1 ⟨μ1, d, h1, s1, r1, rv, o1⟩
  refine ⟨μ1, ρ, h1, r1, e.step s1, OutV.mono (OutV.bind o1) ?_⟩
  rintro u H2 ⟨μ2, d2, h2, s2, r2, ru, o2⟩
  exact ⟨μ2, h2, d, d2, r2, Rep.step s2 _ _ rv, ru, o2.calm (cf _ _ _)⟩
theorem pv_op {op : Operator} {f : D → D → Bs → R D} (cf : ∀ d e h, Calm (f d e h)) (ho : OpR X (binaryOp op) (rD2 T f)) (ha : PE X a (tV T W sa)) (hb : PE X b (tV T W sb)) : PE X (.BinOp a op b pos) (tV T W (sOp f sa sb)) :=
  PE.imp (pe_op ho ha hb) (op2_imp cf)
theorem OpR.imp {f : Value → Value → Sem Value} {r r' : R2} (h : OpR X f r) (i : ∀ x y H Q, r' x y H Q → r x y H Q) : OpR X f r' := fun pins s σ H x y v u Q I rx ry w => h pins s σ H x y v u Q I rx ry (i x y H Q w)
end
end VI
end
section
namespace VI
open PySem PySem.Spec PyProof.Rows L2
section
variable {X : Cx} {T : Tb} {W : WX} {μ μ' : Mu} {H H' : Hp} {h : Bs}

theorem RepB.at {b : Bx} {a : Addr} (r : RepB T μ H b a) : ∃ o, H a = some o ∧ ∀ xs, o ≠ .tup xs := by
  cases b with
  | lst lk xs => obtain ⟨vs, e, _⟩ := r; exact ⟨_, e, fun _ z => by cases z⟩
  | dct lk ks vs => exact r.elim
  | obj c fs xs => obtain ⟨C, dx, vs, _, e, _⟩ := r; exact ⟨_, e, fun _ z => by cases z⟩
  | tbl t => obtain ⟨_, ps, e, _⟩ := r; exact ⟨_, e, fun _ z => by cases z⟩
theorem RepB.step (s : Stp μ H μ' H') {b : Bx} {a : Addr} (r : RepB T μ H b a) (e : H' a = H a) : RepB T μ' H' b a := by
  cases b with
  | lst lk xs => obtain ⟨vs, e1, r1⟩ := r; exact ⟨vs, e.trans e1, Reps.step s _ _ r1⟩
  | dct lk ks vs => exact r.elim
  | obj c fs xs => obtain ⟨C, dx, vs, c1, e1, l1, r1⟩ := r; exact ⟨C, dx, vs, c1, e.trans e1, l1, Reps.step s _ _ r1⟩
  | tbl t => obtain ⟨a1, ps, e1, e2, e3⟩ := r; exact ⟨a1, ps, e.trans e1, e2, fun pos cv q => by obtain ⟨c, f1, f2, f3⟩ := e3 pos cv q; exact ⟨c, f1, s.keep c _ f2 f3.1, s.not f2 f3⟩⟩
theorem Rel.of (r : Rel T μ h H) {a : Addr} (m : a ∈ μ.ad) : ∃ (i : Nat) (b : Bx), h.bs[i]? = some b ∧ μ.ad[i]? = some a ∧ RepB T μ H b a := by
  obtain ⟨i, hi⟩ := List.getElem?_of_mem m
  have hl : i < h.bs.length := by rw [← r.len]; exact (List.getElem?_eq_some_iff.mp hi).1
  exact ⟨i, h.bs[i], List.getElem?_eq_getElem hl, hi, r.at_ i _ a (List.getElem?_eq_getElem hl) hi⟩
theorem Rel.not' (r : Rel T μ h H) {p : Addr} (hp : H p = none) : p ∉ μ.ad := fun m => by
  obtain ⟨i, b, _, _, rb⟩ := r.of m
  obtain ⟨o, e, _⟩ := rb.at
  rw [hp] at e; cases e
theorem Rel.not (r : Rel T μ h H) {p : Addr} (hp : H p = none) : μ.no p := ⟨r.not' hp, fun z => by
  obtain ⟨⟨xs, e⟩, _⟩ := r.prh p z
  rw [hp] at e; cases e⟩
theorem Rel.laid (r : Rel T μ h H) {p : Addr} {o : HO} (hp : H p = none) : Rel T μ h (upd H p o) :=
  ⟨r.fb, fun a ha => by
    obtain ⟨⟨xs, e⟩, n⟩ := r.prh a ha
    exact ⟨⟨xs, by rw [upd_ne (ne_of_none e hp)]; exact e⟩, n⟩, r.lks, r.lkf, r.len, r.nd, fun i b a e1 e2 => (r.at_ i b a e1 e2).step (Stp.laid hp) (upd_ne fun z => by
    subst z; exact r.not' hp (List.mem_of_getElem? e2)), r.lo, r.ord, r.wf⟩
theorem Rel.bels' {xs : List D} {vs : List V} (q : Reps T μ H xs vs) : bels μ.ad.length xs := by
  have key : ∀ (n : Nat) (d : D) (v : V), sizeOf d ≤ n → Rep T μ H d v → bel μ.ad.length d := by
    intro n
    induction n with
    | zero => intro d v hs; cases d <;> simp at hs
    | succ n ih =>
      have ihs : ∀ (xs : List D) (vs : List V), sizeOf xs ≤ n + 1 → Reps T μ H xs vs → bels μ.ad.length xs := by
        intro xs
        induction xs with
        | nil => intro _ _ _; simp [bels]
        | cons x xs ih2 =>
          intro vs hs q
          simp only [Reps] at q
          obtain ⟨v, r, _, q1, q2⟩ := q
          simp at hs
          simp only [bels]
          exact ⟨ih x v (by omega) q1, ih2 r (by omega) q2⟩
      intro d v hs q
      cases d with
      | tup xs => simp only [Rep] at q; obtain ⟨_, vs, _, _, _, q⟩ := q; simp only [bel]; exact ihs xs vs (by simp at hs; omega) q
      | tpl xs => simp only [Rep] at q; obtain ⟨_, _, vs, _, _, _, _, q⟩ := q; simp only [bel]; exact ihs xs vs (by simp at hs; omega) q
      | lst xs => simp only [Rep] at q; obtain ⟨_, vs, _, _, _, q⟩ := q; simp only [bel]; exact ihs xs vs (by simp at hs; omega) q
      | dct ks vs => simp only [Rep] at q
      | obj c fs xs => simp only [Rep] at q; obtain ⟨_, _, _, vs, _, _, _, _, _, q⟩ := q; simp only [bel]; exact ihs xs vs (by simp at hs; omega) q
      | ref b => simp only [Rep] at q; obtain ⟨a, e, _⟩ := q; simp only [bel]; exact (List.getElem?_eq_some_iff.mp e).1
      | non => simp [bel]
      | bl b => simp [bel]
      | int i => simp [bel]
      | str x => simp [bel]
      | scr x => simp [bel]
  revert vs
  induction xs with
  | nil => intro _ _; simp [bels]
  | cons x xs ih2 =>
    intro vs q
    simp only [Reps] at q
    obtain ⟨v, r, _, q1, q2⟩ := q
    simp only [bels]
    exact ⟨key _ x v (Nat.le_refl _) q1, ih2 q2⟩
theorem Rel.box (r : Rel T μ h H) {p : Addr} {o : HO} {b : Bx} (hp : H p = none) (nlk : ∀ xs, b ≠ .lst true xs) (new : RepB T (μ.push p) (upd H p o) b p) : Rel T (μ.push p) { h with bs := h.bs ++ [b] } (upd H p o) := by
  refine ⟨r.fb, fun a ha => ?_, fun a ha => ?_, fun b0 xs a e1 e2' => ?_, by simp [Mu.push, r.len], ?_, fun i b' a e1 e2' => ?_, fun k hk' => by simpa using Nat.le_succ_of_le (r.lo k hk'), r.ord, fun k hk' i b' hi e => ?_⟩
  · obtain ⟨⟨xs, e⟩, n⟩ := r.prh a ha
    refine ⟨⟨xs, by rw [upd_ne (ne_of_none e hp)]; exact e⟩, fun z => ?_⟩
    rcases List.mem_append.mp (show a ∈ μ.ad ++ [p] from z) with z | z
    · exact n z
    · have : a = p := by simpa using z
      subst this
      rw [hp] at e; cases e
  · obtain ⟨b0, xs, e1, e2⟩ := r.lks a ha
    refine ⟨b0, xs, (Stp.box (μ := μ) (o := o) hp).pre _ _ e1, ?_⟩
    show (h.bs ++ [b])[b0]? = _
    rw [List.getElem?_append_left (List.getElem?_eq_some_iff.mp e2).1]
    exact e2
  · have e2 : (μ.ad ++ [p])[b0]? = some a := e2'
    have e1' : (h.bs ++ [b])[b0]? = some (.lst true xs) := e1
    by_cases hi : b0 < μ.ad.length
    · rw [List.getElem?_append_left hi] at e2
      rw [List.getElem?_append_left (by rw [← r.len]; exact hi)] at e1'
      exact r.lkf b0 xs a e1' e2
    · rw [List.getElem?_append_right (by rw [← r.len]; omega)] at e1'
      have h0 : b0 - h.bs.length = 0 := by
        have := (List.getElem?_eq_some_iff.mp e1').1
        simp at this; omega
      rw [h0] at e1'
      simp at e1'
      exact absurd e1' (nlk xs)
  · show (μ.ad ++ [p]).Nodup
    rw [List.nodup_append]
    refine ⟨r.nd, by simp, fun x hx y hy => ?_⟩
    have : y = p := by simpa using hy
    subst this
    intro z; subst z
    exact r.not' hp hx
  · have e2 : (μ.ad ++ [p])[i]? = some a := e2'
    by_cases hi : i < μ.ad.length
    · rw [List.getElem?_append_left hi] at e2
      rw [List.getElem?_append_left (by rw [← r.len]; exact hi)] at e1
      exact (r.at_ i b' a e1 e2).step (Stp.box hp) (upd_ne fun z => by subst z; exact r.not' hp (List.mem_of_getElem? e2))
    · rw [List.getElem?_append_right (by omega)] at e2
      rw [List.getElem?_append_right (by rw [← r.len]; omega), ← r.len] at e1
      have h0 : i - μ.ad.length = 0 := by
        have := (List.getElem?_eq_some_iff.mp e2).1
        simp at this; omega
      rw [h0] at e1 e2
      simp at e1 e2
      subst e1; subst e2
      exact new
  · have hl : i < h.bs.length := Nat.lt_of_lt_of_le hi (r.lo k hk')
    have e' : (h.bs ++ [b])[i]? = some b' := e
    rw [List.getElem?_append_left hl] at e'
    exact r.wf k hk' i b' hi e'
theorem Rel.free (r : Rel T μ h H) {i : Nat} {a : Addr} (hi : μ.ad[i]? = some a) (hlk : ∀ xs, h.bs[i]? ≠ some (.lst true xs)) : a ∉ μ.lk := fun ha => by
  obtain ⟨b0, xs, e1, e2⟩ := r.lks a ha
  have l1 := (List.getElem?_eq_some_iff.mp hi)
  have l2 := (List.getElem?_eq_some_iff.mp e1)
  obtain ⟨p1, q1⟩ := l1
  obtain ⟨p2, q2⟩ := l2
  have := (List.getElem_inj (h₀ := p1) (h₁ := p2) r.nd).mp (q1.trans q2.symm)
  subst this
  exact hlk xs e2
theorem Rel.put (r : Rel T μ h H) {i : Nat} {a : Addr} {o : HO} {b : Bx} (hi : μ.ad[i]? = some a) (hlk : ∀ xs, h.bs[i]? ≠ some (.lst true xs)) (nlk : ∀ xs, b ≠ .lst true xs) (new : RepB T μ (upd H a o) b a) (hw : ∀ k ∈ h.fbs, i < k → belB k b) : Rel T μ { h with bs := h.bs.set i b } (upd H a o) := by
  have hl : i < h.bs.length := by rw [← r.len]; exact (List.getElem?_eq_some_iff.mp hi).1
  have hnl : a ∉ μ.lk := r.free hi hlk
  refine ⟨r.fb, fun a' ha' => ?_, fun a' ha' => ?_, fun b0 xs a' e1 e2 => ?_, by simp [r.len], r.nd, fun j b' a' e1 e2 => ?_, fun k hk => by simpa using r.lo k hk, r.ord, fun k hk j b' hj e => ?_⟩
  · obtain ⟨⟨xs, e⟩, n⟩ := r.prh a' ha'
    exact ⟨⟨xs, by rw [upd_ne (fun z => n (by rw [z]; exact List.mem_of_getElem? hi))]; exact e⟩, n⟩
  · obtain ⟨b0, xs, e1, e2⟩ := r.lks a' ha'
    refine ⟨b0, xs, e1, ?_⟩
    show (h.bs.set i b)[b0]? = _
    rw [List.getElem?_set_ne (fun z => by subst z; exact hlk xs e2)]
    exact e2
  · have e1' : (h.bs.set i b)[b0]? = some (.lst true xs) := e1
    by_cases hj : i = b0
    · subst hj
      rw [List.getElem?_set_self hl] at e1'
      cases e1'
      exact absurd rfl (nlk xs)
    · rw [List.getElem?_set_ne hj] at e1'
      exact r.lkf b0 xs a' e1' e2
  · have e1 : (h.bs.set i b)[j]? = some b' := e1
    by_cases hj : i = j
    · subst hj
      rw [List.getElem?_set_self hl] at e1
      rw [hi] at e2
      cases e1; cases e2
      exact new
    · rw [List.getElem?_set_ne hj] at e1
      refine (r.at_ j b' a' e1 e2).step (Stp.put (List.mem_of_getElem? hi) hnl) (upd_ne fun z => hj ?_)
      subst z
      have l1 := (List.getElem?_eq_some_iff.mp hi)
      have l2 := (List.getElem?_eq_some_iff.mp e2)
      obtain ⟨p1, q1⟩ := l1
      obtain ⟨p2, q2⟩ := l2
      exact (List.getElem_inj (h₀ := p1) (h₁ := p2) r.nd).mp (q1.trans q2.symm)
  · have e : (h.bs.set i b)[j]? = some b' := e
    by_cases hj' : i = j
    · subst hj'
      rw [List.getElem?_set_self hl] at e
      cases e
      exact hw k hk hj
    · rw [List.getElem?_set_ne hj'] at e
      exact r.wf k hk j b' hj e

/-! ### a new list, frozen or a box -/
def newL (bx : Bool) (xs : List D) (h : Bs) : R D := if xs.length ≤ sizeLine then (if bx then .ok (.ref h.bs.length) { h with bs := h.bs ++ [.lst false xs] } else .ok (.lst xs) h) else .no
theorem newL_calm {bx : Bool} {xs : List D} : Calm (newL bx xs h) := by
  intro x h' e
  unfold newL at e
  split at e
  · split at e <;> cases e
  · cases e
theorem newL_ok {σ : Sg} {bx : Bool} {xs : List D} {vs : List V} {Q : VK} (r : Rel T μ h H) (q : Reps T μ H xs vs) (o : OutV T W σ μ H Q (newL bx xs h)) :
    vs.length ≤ sizeLine ∧ ∀ p, H p = none → Q (.ref p) (upd H p (.lst vs)) := by
  unfold newL at o
  split at o
  · rename_i hl
    refine ⟨by rw [← q.length]; exact hl, fun p hp => ?_⟩
    cases bx with
    | false => exact o μ _ _ (Stp.laid hp) (r.laid hp) (by simp only [Rep]; exact ⟨p, vs, rfl, upd_same, r.not hp, Reps.step (Stp.laid hp) _ _ q⟩)
    | true =>
      refine o (μ.push p) _ _ (Stp.box hp) (r.box hp (fun _ z => by cases z) ⟨vs, upd_same, Reps.step (Stp.box hp) _ _ q⟩) ?_
      simp only [Rep]
      exact ⟨p, by rw [← r.len]; simp [Mu.push], rfl⟩
  · exact o.elim
def newT (xs : List D) (h : Bs) : R D := if xs.length ≤ sizeLine then .ok (.tup xs) h else .no
theorem newT_calm {xs : List D} : Calm (newT xs h) := by
  intro x h' e
  unfold newT at e
  split at e <;> cases e
theorem newT_ok {σ : Sg} {xs : List D} {vs : List V} {Q : VK} (r : Rel T μ h H) (q : Reps T μ H xs vs) (o : OutV T W σ μ H Q (newT xs h)) :
    vs.length ≤ sizeLine ∧ ∀ p, H p = none → Q (.ref p) (upd H p (.tup vs)) := by
  unfold newT at o
  split at o
  · rename_i hl
    exact ⟨by rw [← q.length]; exact hl, fun p hp => o μ _ _ (Stp.laid hp) (r.laid hp) (by simp only [Rep]; exact ⟨p, vs, rfl, upd_same, r.not hp, Reps.step (Stp.laid hp) _ _ q⟩)⟩
  · exact o.elim
/-- a new tuple, known to the object -/
def newP (xs : List D) (h : Bs) : R D := if xs.length ≤ sizeLine then .ok (.tpl xs) h else .no
theorem newP_calm {xs : List D} : Calm (newP xs h) := by
  intro x h' e
  unfold newP at e
  split at e <;> cases e
theorem newP_ok {σ : Sg} {xs : List D} {vs : List V} {Q : VK} (r : Rel T μ h H) (q : Reps T μ H xs vs) (o : OutV T W σ μ H Q (newP xs h)) :
    vs.length ≤ sizeLine ∧ ∀ p ob, ob.cls = .type "tuple" ∧ ob.dict = none → H p = none → Q (.ref p) (upd H p (.frz ob (.tup vs))) := by
  unfold newP at o
  split at o
  · rename_i hl
    exact ⟨by rw [← q.length]; exact hl, fun p ob hc hp => o μ _ _ (Stp.laid hp) (r.laid hp) (by simp only [Rep]; exact ⟨p, ob, vs, rfl, upd_same, hc, r.not hp, Reps.step (Stp.laid hp) _ _ q⟩)⟩
  · exact o.elim

/-! ### what is read -/
def lstOf (h : Bs) : D → Option (List D)
  | .lst xs => some xs
  | .ref b => (match h.bs[b]? with | some (.lst _ xs) => some xs | _ => none)
  | .scr ns => some (ns.map .int)
  | _ => none
/-- a list that stands by itself -/
def lstS (h : Bs) : D → Option (List D)
  | .lst xs => some xs
  | .ref b => (match h.bs[b]? with | some (.lst _ xs) => some xs | _ => none)
  | _ => none
theorem Rel.lstS (r : Rel T μ h H) {d : D} {v : V} {xs : List D} (q : Rep T μ H d v) (e : lstS h d = some xs) : ∃ a vs, v = .ref a ∧ H a = some (.lst vs) ∧ Reps T μ H xs vs := by
  unfold VI.lstS at e
  split at e
  · cases e
    simp only [Rep] at q
    obtain ⟨a, vs, e1, e2, _, q⟩ := q
    exact ⟨a, vs, e1, e2, q⟩
  · simp only [Rep] at q
    obtain ⟨a, e1, e2⟩ := q
    split at e
    · rename_i hb
      cases e
      obtain ⟨vs, e3, q⟩ := r.at_ _ _ a hb e1
      exact ⟨a, vs, e2, e3, q⟩
    · cases e
  · cases e
theorem Rel.lstOf (r : Rel T μ h H) {d : D} {v : V} {xs : List D} (q : Rep T μ H d v) (e : lstOf h d = some xs) : ∃ a vs, v = .ref a ∧ SqL T.K H a vs ∧ Reps T μ H xs vs := by
  by_cases hs : VI.lstS h d = some xs
  · obtain ⟨a, vs, e1, e2, e3⟩ := r.lstS q hs
    exact ⟨a, vs, e1, SqL.of e2, e3⟩
  · cases d with
    | scr ns =>
      simp only [VI.lstOf] at e
      cases e
      simp only [Rep] at q
      obtain ⟨a, e1, e2⟩ := q
      exact ⟨a, _, e1, e2.sq, Reps.ints ns⟩
    | lst xs => exact absurd e hs
    | ref b => exact absurd e hs
    | _ => simp [VI.lstOf] at e
theorem Rep.tplOf {xs : List D} {v : V} (q : Rep T μ H (.tpl xs) v) : ∃ a o vs, v = .ref a ∧ H a = some (.frz o (.tup vs)) ∧ (o.cls = .type "tuple" ∧ o.dict = none) ∧ μ.no a ∧ Reps T μ H xs vs := by
  simpa only [Rep] using q
theorem SqT.fz {K : PySem.W.Frag} {a : Addr} {o : Obj} {vs : List V} (h : H a = some (.frz o (.tup vs))) : SqT K H a vs := .inl (.inr ⟨o, h⟩)
theorem Rep.tupOf {xs : List D} {v : V} (q : Rep T μ H (.tup xs) v) : ∃ a vs, v = .ref a ∧ H a = some (.tup vs) ∧ μ.no a ∧ Reps T μ H xs vs := by
  simpa only [Rep] using q
end
end VI
end
section
namespace VI
open PySem PySem.Spec PyProof.Rows L2
def seqOf (h : Bs) : D → Option (List D)
  | .tup xs => some xs
  | .tpl xs => some xs
  | d => lstOf h d
section
variable {X : Cx} {T : Tb} {W : WX} {μ μ' : Mu} {H H' : Hp} {h : Bs} {σ : Sg}
theorem Rel.seqOf (r : Rel T μ h H) {d : D} {v : V} {xs : List D} (q : Rep T μ H d v) (e : seqOf h d = some xs) : ∃ a vs, v = .ref a ∧ (SqT T.K H a vs ∨ SqL T.K H a vs) ∧ Reps T μ H xs vs := by
  cases d with
  | tup ys =>
    simp only [VI.seqOf] at e
    cases e
    obtain ⟨a, vs, e1, e2, _, e3⟩ := q.tupOf
    exact ⟨a, vs, e1, .inl (SqT.of e2), e3⟩
  | tpl ys =>
    simp only [VI.seqOf] at e
    cases e
    obtain ⟨a, o, vs, e1, e2, _, _, e3⟩ := q.tplOf
    exact ⟨a, vs, e1, .inl (SqT.fz e2), e3⟩
  | _ =>
    obtain ⟨a, vs, e1, e2, e3⟩ := r.lstOf q e
    exact ⟨a, vs, e1, .inr e2, e3⟩

theorem OutV.bindA {Q : VK} {r : R (List D)} {f : List D → Bs → R D} (o : OutV T W σ μ H Q (r.bind f)) :
    OutA T W σ μ H (fun v H1 => ∃ μ1 d h1, Stp μ H μ1 H1 ∧ Rel T μ1 h1 H1 ∧ Reps T μ1 H1 d v ∧ OutV T W σ μ1 H1 Q (f d h1)) r := by
  cases r with
  | ok d h => exact fun μ1 H1 v s r1 rv => ⟨μ1, d, h, s, r1, rv, OutV.step o s⟩
  | ex x h => exact o
  | no => exact o
theorem OutA.bindV {Q : List V → Hp → Prop} {r : R D} {f : D → Bs → R (List D)} (o : OutA T W σ μ H Q (r.bind f)) :
    OutV T W σ μ H (fun v H1 => ∃ μ1 d h1, Stp μ H μ1 H1 ∧ Rel T μ1 h1 H1 ∧ Rep T μ1 H1 d v ∧ OutA T W σ μ1 H1 Q (f d h1)) r := by
  cases r with
  | ok d h => exact fun μ1 H1 v s r1 rv => ⟨μ1, d, h, s, r1, rv, OutA.step o s⟩
  | ex x h => exact o
  | no => exact o
theorem OutA.bindA {Q : List V → Hp → Prop} {r : R (List D)} {f : List D → Bs → R (List D)} (o : OutA T W σ μ H Q (r.bind f)) :
    OutA T W σ μ H (fun v H1 => ∃ μ1 d h1, Stp μ H μ1 H1 ∧ Rel T μ1 h1 H1 ∧ Reps T μ1 H1 d v ∧ OutA T W σ μ1 H1 Q (f d h1)) r := by
  cases r with
  | ok d h => exact fun μ1 H1 v s r1 rv => ⟨μ1, d, h, s, r1, rv, OutA.step o s⟩
  | ex x h => exact o
  | no => exact o
theorem OutB.bindV {Q : Bool → Hp → Prop} {r : R D} {f : D → Bs → R Bool} (o : OutB T W σ μ H Q (r.bind f)) :
    OutV T W σ μ H (fun v H1 => ∃ μ1 d h1, Stp μ H μ1 H1 ∧ Rel T μ1 h1 H1 ∧ Rep T μ1 H1 d v ∧ OutB T W σ μ1 H1 Q (f d h1)) r := by
  cases r with
  | ok d h => exact fun μ1 H1 v s r1 rv => ⟨μ1, d, h, s, r1, rv, OutB.step o s⟩
  | ex x h => exact o
  | no => exact o
theorem OutB.bindB {Q : Bool → Hp → Prop} {r : R Bool} {f : Bool → Bs → R Bool} (o : OutB T W σ μ H Q (r.bind f)) :
    OutB T W σ μ H (fun d H1 => ∃ μ1 h1, Stp μ H μ1 H1 ∧ Rel T μ1 h1 H1 ∧ OutB T W σ μ1 H1 Q (f d h1)) r := by
  cases r with
  | ok d h => exact fun μ1 H1 s r1 => ⟨μ1, h, s, r1, OutB.step o s⟩
  | ex x h => exact o
  | no => exact o
theorem OutV.bindB {Q : VK} {r : R Bool} {f : Bool → Bs → R D} (o : OutV T W σ μ H Q (r.bind f)) :
    OutB T W σ μ H (fun d H1 => ∃ μ1 h1, Stp μ H μ1 H1 ∧ Rel T μ1 h1 H1 ∧ OutV T W σ μ1 H1 Q (f d h1)) r := by
  cases r with
  | ok d h => exact fun μ1 H1 s r1 => ⟨μ1, h, s, r1, OutV.step o s⟩
  | ex x h => exact o
  | no => exact o
theorem OutA.mono {Q Q' : List V → Hp → Prop} {r : R (List D)} (o : OutA T W σ μ H Q r) (i : ∀ v H, Q v H → Q' v H) : OutA T W σ μ H Q' r := by
  cases r with
  | ok d h' => exact fun μ1 H1 v s r1 rv => i _ _ (o μ1 H1 v s r1 rv)
  | ex x h => exact o
  | no => exact o
theorem OutB.mono {Q Q' : Bool → Hp → Prop} {r : R Bool} (o : OutB T W σ μ H Q r) (i : ∀ v H, Q v H → Q' v H) : OutB T W σ μ H Q' r := by
  cases r with
  | ok d h' => exact fun μ1 H1 s r1 => i _ _ (o μ1 H1 s r1)
  | ex x h => exact o
  | no => exact o

/-! ### argument lists -/
def saNil : SA := fun _ h => .ok [] h
def saCons (sa : SV) (sr : SA) : SA := fun ρ h => (sa ρ h).bind fun x h1 => (sr ρ h1).bind fun xs h2 => .ok (x :: xs) h2
def saStar (sa : SV) (sr : SA) : SA := fun ρ h => (sa ρ h).bind fun x h1 => match seqOf h1 x with
  | some xs => (sr ρ h1).bind fun ys h2 => .ok (xs ++ ys) h2
  | none => .no
theorem pav_nil : PA X [] (tA' T W saNil) := PA.imp pa_nil fun σ H Q ⟨μ, ρ, h, r, e, o⟩ => o μ H [] Stp.refl r .nil
theorem star_no {e : Expr} {es : List Expr} {env : Env} (hs : PySem.W.isStarred e = false) : starEach (e :: es) env = (false, eval e env) :: starEach es env := by
  cases e <;> first | rfl | (simp [PySem.W.isStarred] at hs)
theorem pav_cons {e : Expr} {es : List Expr} {sa : SV} {sr : SA} (hs : PySem.W.isStarred e = false) (ha : PE X e (tV T W sa)) (hr : PA X es (tA' T W sr)) : PA X (e :: es) (tA' T W (saCons sa sr)) :=
  PA.imp (pa_cons ha hr (star_no hs)) fun σ H Q ⟨μ, ρ, h, r, e, o⟩ => by
    refine ⟨μ, ρ, h, r, e, OutV.mono (OutA.bindV o) ?_⟩
    rintro v H1 ⟨μ1, d, h1, s1, r1, rv, o1⟩
    refine ⟨μ1, ρ, h1, r1, e.step s1, OutA.mono (OutA.bindA o1) ?_⟩
    rintro u H2 ⟨μ2, d2, h2, s2, r2, ru, o2⟩
    exact o2 μ2 H2 _ Stp.refl r2 (.cons (Rep.step s2 _ _ rv) ru)
theorem pav_star {e : Expr} {es : List Expr} {p : Pos} {sa : SV} {sr : SA} (hK : X.K = T.K) (ha : PE X e (tV T W sa)) (hr : PA X es (tA' T W sr)) : PA X (.Starred e p :: es) (tA' T W (saStar sa sr)) :=
  PA.imp (StX.pa_star ha hr) fun σ H Q ⟨μ, ρ, h, r, e, o⟩ => by
    refine ⟨μ, ρ, h, r, e, OutV.mono (OutA.bindV o) ?_⟩
    rintro v H1 ⟨μ1, d, h1, s1, r1, rv, o1⟩
    cases q : VI.seqOf h1 d with
    | none => simp only [q] at o1; exact o1.elim
    | some xs =>
      simp only [q] at o1
      obtain ⟨a, vs, e1, e2, e3⟩ := r1.seqOf rv q
      refine ⟨a, vs, e1, by rw [hK]; exact e2, μ1, ρ, h1, r1, e.step s1, OutA.mono (OutA.bindA o1) ?_⟩
      rintro u H2 ⟨μ2, d2, h2, s2, r2, ru, o2⟩
      exact o2 μ2 H2 _ Stp.refl r2 (.append (Reps.step s2 _ _ e3) ru)

/-! ### displays -/
def sTup (sa : SA) : SV := fun ρ h => (sa ρ h).bind fun xs h1 => newT xs h1
def sLst (bx : Bool) (sa : SA) : SV := fun ρ h => (sa ρ h).bind fun xs h1 => newL bx xs h1
theorem pv_tup {es : List Expr} {k : Nat} {pos : Pos} {sa : SA} (h : PA X es (tA' T W sa)) : PE X (.Tuple es k pos) (tV T W (sTup sa)) :=
  PE.imp (pe_tup h) fun σ H Q ⟨μ, ρ, h, r, e, o⟩ => by
    refine ⟨μ, ρ, h, r, e, OutA.mono (OutV.bindA o) ?_⟩
    rintro v H1 ⟨μ1, d, h1, s1, r1, rv, o1⟩
    exact newT_ok r1 rv o1
theorem pv_lst {es : List Expr} {pos : Pos} {bx : Bool} {sa : SA} (h : PA X es (tA' T W sa)) : PE X (.List es pos) (tV T W (sLst bx sa)) :=
  PE.imp (pe_lst h) fun σ H Q ⟨μ, ρ, h, r, e, o⟩ => by
    refine ⟨μ, ρ, h, r, e, OutA.mono (OutV.bindA o) ?_⟩
    rintro v H1 ⟨μ1, d, h1, s1, r1, rv, o1⟩
    exact newL_ok r1 rv o1

/-! ### truth, tests -/
/-- truth of the things that are asked for it -/
def truth (h : Bs) : D → Option Bool
  | .bl b => some b
  | _ => none
def sTru (s : SV) : Ev → Bs → R Bool := fun ρ h => (s ρ h).bind fun d h1 => match truth h1 d with
  | some b => .ok b h1
  | none => .no
variable {a b c : Expr} {sa sb sc : SV} {pos : Pos}
theorem tru_imp : ∀ σ H Q, tB' T W (sTru sa) σ H Q → tB (tV T W sa) σ H Q := fun σ H Q ⟨μ, ρ, h, r, e, o⟩ => by
  refine ⟨μ, ρ, h, r, e, OutV.mono (OutB.bindV o) ?_⟩
  rintro v H1 ⟨μ1, d, h1, s1, r1, rv, o1⟩
  cases d with
  | bl b =>
    simp only [Rep] at rv
    exact ⟨b, rv, o1 μ1 H1 Stp.refl r1⟩
  | _ => exact o1.elim
/-- a test of a form without short ways of its own -/
def plainT : Expr → Bool
  | .Call .. => true
  | .Name .. => true
  | .Subscript .. => true
  | .Attribute .. => true
  | _ => false
theorem pvt_val (hp : plainT a = true) (ha : PE X a (tV T W sa)) : PT X a (tB' T W (sTru sa)) :=
  PT.imp (pt_val ha (by cases a <;> first | (exact fun _ => rfl) | (exact Bool.noConfusion hp))) tru_imp
def sNot (s : SV) : SV := fun ρ h => (sTru s ρ h).bind fun b h1 => .ok (.bl (!b)) h1
def sAnd (sa sb : SV) : SV := fun ρ h => (sTru sa ρ h).bind fun b h1 => if b then (sTru sb ρ h1).bind (fun c h2 => .ok (.bl c) h2) else .ok (.bl false) h1
def sOr (sa sb : SV) : SV := fun ρ h => (sTru sa ρ h).bind fun b h1 => if b then .ok (.bl true) h1 else (sTru sb ρ h1).bind (fun c h2 => .ok (.bl c) h2)
def sIte (sc sa sb : SV) : SV := fun ρ h => (sTru sc ρ h).bind fun b h1 => if b then sa ρ h1 else sb ρ h1
theorem R.bind_bind {α β γ : Type} (r : R α) (f : α → Bs → R β) (g : β → Bs → R γ) : (r.bind f).bind g = r.bind fun a h => (f a h).bind g := by
  cases r <;> rfl
theorem R.bind_ok {α : Type} (r : R α) : (r.bind fun a h => .ok a h) = r := by cases r <;> rfl
theorem sTru_bind {β : Type} (ρ : Ev) (h : Bs) (g : Bool → Bs → R β) : (sTru sa ρ h).bind g = (sa ρ h).bind fun d h1 => R.bind (match truth h1 d with
  | some b => R.ok b h1
  | none => .no) g := by unfold sTru; rw [R.bind_bind]
theorem sTru_bl (r : R Bool) : ((r.bind fun c h2 => R.ok (D.bl c) h2).bind fun d h1 => match truth h1 d with
  | some b => R.ok b h1
  | none => .no) = r := by cases r <;> rfl
theorem sTru_not (ρ : Ev) (h : Bs) : sTru (sNot sa) ρ h = (sTru sa ρ h).bind fun b h1 => .ok (!b) h1 := by
  unfold sNot; conv => lhs; unfold sTru
  rw [R.bind_bind]; rfl
theorem sTru_and (ρ : Ev) (h : Bs) : sTru (sAnd sa sb) ρ h = (sTru sa ρ h).bind fun b h1 => if b then sTru sb ρ h1 else .ok false h1 := by
  unfold sAnd; conv => lhs; unfold sTru
  rw [R.bind_bind]; congr 1; funext b h1
  cases b
  · rfl
  · exact sTru_bl _
theorem sTru_or (ρ : Ev) (h : Bs) : sTru (sOr sa sb) ρ h = (sTru sa ρ h).bind fun b h1 => if b then .ok true h1 else sTru sb ρ h1 := by
  unfold sOr; conv => lhs; unfold sTru
  rw [R.bind_bind]; congr 1; funext b h1
  cases b
  · exact sTru_bl _
  · rfl
theorem pvt_not (ha : PT X a (tB' T W (sTru sa))) : PT X (.UnaryOp .Not a pos) (tB' T W (sTru (sNot sa))) :=
  PT.imp (pt_not ha) fun σ H Q ⟨μ, ρ, h, r, e, o⟩ => by
    rw [sTru_not] at o
    refine ⟨μ, ρ, h, r, e, OutB.mono (OutB.bindB o) ?_⟩
    rintro d H1 ⟨μ1, h1, s1, r1, o1⟩
    exact o1 μ1 H1 Stp.refl r1
theorem PW.imp {t t' : TT} (h : PW X a t) (i : ∀ σ H Q, t' σ H Q → t σ H Q) : PW X a t' := ⟨fun wh pins s σ H Q I w => h.run wh pins s σ H Q I (i σ H Q w)⟩
theorem and_imp : ∀ σ H Q, tB' T W (sTru (sAnd sa sb)) σ H Q → tAnd (tB' T W (sTru sa)) (tB' T W (sTru sb)) σ H Q := fun σ H Q ⟨μ, ρ, h, r, e, o⟩ => by
  rw [sTru_and] at o
  refine ⟨μ, ρ, h, r, e, OutB.mono (OutB.bindB o) ?_⟩
  rintro d H1 ⟨μ1, h1, s1, r1, o1⟩
  cases d with
  | true => exact ⟨μ1, ρ, h1, r1, e.step s1, o1⟩
  | false => exact o1 μ1 H1 Stp.refl r1
theorem or_imp : ∀ σ H Q, tB' T W (sTru (sOr sa sb)) σ H Q → tOr (tB' T W (sTru sa)) (tB' T W (sTru sb)) σ H Q := fun σ H Q ⟨μ, ρ, h, r, e, o⟩ => by
  rw [sTru_or] at o
  refine ⟨μ, ρ, h, r, e, OutB.mono (OutB.bindB o) ?_⟩
  rintro d H1 ⟨μ1, h1, s1, r1, o1⟩
  cases d with
  | true => exact o1 μ1 H1 Stp.refl r1
  | false => exact ⟨μ1, ρ, h1, r1, e.step s1, o1⟩
theorem pvt_and1 (ha : PT X a (tB' T W (sTru sa))) : PW X (.BoolOp .And [a] pos) (tB' T W (sTru sa)) := pw_and1 ha
theorem pvt_or1 (ha : PT X a (tB' T W (sTru sa))) : PW X (.BoolOp .Or [a] pos) (tB' T W (sTru sa)) := pw_or1 ha
theorem pvt_and {rest : List Expr} (ha : PT X a (tB' T W (sTru sa))) (hb : PW X (.BoolOp .And (b :: rest) pos) (tB' T W (sTru sb))) : PW X (.BoolOp .And (a :: b :: rest) pos) (tB' T W (sTru (sAnd sa sb))) :=
  PW.imp (pw_and ha hb) and_imp
theorem pvt_or {rest : List Expr} (ha : PT X a (tB' T W (sTru sa))) (hb : PW X (.BoolOp .Or (b :: rest) pos) (tB' T W (sTru sb))) : PW X (.BoolOp .Or (a :: b :: rest) pos) (tB' T W (sTru (sOr sa sb))) :=
  PW.imp (pw_or ha hb) or_imp
/-- as values: bools alone -/
theorem bl_of_truth {d : D} {h1 : Bs} {b : Bool} (e : truth h1 d = some b) : d = .bl b := by
  cases d <;> simp [truth] at e; subst e; rfl
theorem pv_not (ha : PE X a (tV T W sa)) : PE X (.UnaryOp .Not a pos) (tV T W (sNot sa)) :=
  PE.imp (pe_not ha) fun σ H Q ⟨μ, ρ, h, r, e, o⟩ => by
    unfold sNot sTru at o
    rw [R.bind_bind] at o
    refine ⟨μ, ρ, h, r, e, OutV.mono (OutV.bind o) ?_⟩
    rintro v H1 ⟨μ1, d, h1, s1, r1, rv, o1⟩
    cases q : truth h1 d with
    | none => simp only [q] at o1; exact o1.elim
    | some b =>
      simp only [q] at o1
      rw [bl_of_truth q] at rv
      simp only [Rep] at rv
      exact ⟨b, rv, o1 μ1 H1 _ Stp.refl r1 (by simp only [Rep])⟩
theorem pv_one {op} (h : PE X a (tV T W sa)) : PE X (.BoolOp op [a] pos) (tV T W sa) := pe_one h
/-- the last of and, or, as a value: it must be a bool -/
def sBl (s : SV) : SV := fun ρ h => (sTru s ρ h).bind fun c h2 => .ok (.bl c) h2
theorem bl_imp : ∀ σ H Q, tV T W (sBl sa) σ H Q → tV T W sa σ H Q := fun σ H Q ⟨μ, ρ, h, r, e, o⟩ => by
  unfold sBl sTru at o
  rw [R.bind_bind] at o
  refine ⟨μ, ρ, h, r, e, ?_⟩
  cases q : sa ρ h with
  | no => rw [q] at o; exact o
  | ex x h1 => rw [q] at o; exact o
  | ok d h1 =>
    rw [q] at o
    simp only [R.bind] at o
    cases t : truth h1 d with
    | none => simp only [t] at o; exact o.elim
    | some b =>
      simp only [t] at o
      rw [bl_of_truth t]
      exact o
theorem pv_and {rest : List Expr} (ha : PE X a (tV T W sa)) (hb : PE X (.BoolOp .And (b :: rest) pos) (tV T W sb)) : PE X (.BoolOp .And (a :: b :: rest) pos) (tV T W (sAnd sa sb)) :=
  PE.imp (pe_and ha hb) fun σ H Q ⟨μ, ρ, h, r, e, o⟩ => by
    unfold sAnd at o
    rw [sTru_bind] at o
    refine ⟨μ, ρ, h, r, e, OutV.mono (OutV.bind o) ?_⟩
    rintro v H1 ⟨μ1, d, h1, s1, r1, rv, o1⟩
    cases q : truth h1 d with
    | none => simp only [q] at o1; exact o1.elim
    | some c =>
      simp only [q] at o1
      rw [bl_of_truth q] at rv
      simp only [Rep] at rv
      refine ⟨c, rv, ?_⟩
      cases c with
      | true => exact bl_imp σ H1 Q ⟨μ1, ρ, h1, r1, e.step s1, o1⟩
      | false => exact o1 μ1 H1 _ Stp.refl r1 (by simp only [Rep])
theorem pv_or {rest : List Expr} (ha : PE X a (tV T W sa)) (hb : PE X (.BoolOp .Or (b :: rest) pos) (tV T W sb)) : PE X (.BoolOp .Or (a :: b :: rest) pos) (tV T W (sOr sa sb)) :=
  PE.imp (pe_or ha hb) fun σ H Q ⟨μ, ρ, h, r, e, o⟩ => by
    unfold sOr at o
    rw [sTru_bind] at o
    refine ⟨μ, ρ, h, r, e, OutV.mono (OutV.bind o) ?_⟩
    rintro v H1 ⟨μ1, d, h1, s1, r1, rv, o1⟩
    cases q : truth h1 d with
    | none => simp only [q] at o1; exact o1.elim
    | some c =>
      simp only [q] at o1
      rw [bl_of_truth q] at rv
      simp only [Rep] at rv
      refine ⟨c, rv, ?_⟩
      cases c with
      | false => exact bl_imp σ H1 Q ⟨μ1, ρ, h1, r1, e.step s1, o1⟩
      | true => exact o1 μ1 H1 _ Stp.refl r1 (by simp only [Rep])
theorem pv_ite (hc : PT X c (tB' T W (sTru sc))) (ha : PE X a (tV T W sa)) (hb : PE X b (tV T W sb)) : PE X (.IfExp c a b pos) (tV T W (sIte sc sa sb)) :=
  PE.imp (pe_ifExp hc ha hb) fun σ H Q ⟨μ, ρ, h, r, e, o⟩ => by
    refine ⟨μ, ρ, h, r, e, OutB.mono (OutV.bindB o) ?_⟩
    rintro d H1 ⟨μ1, h1, s1, r1, o1⟩
    cases d with
    | true => exact ⟨μ1, ρ, h1, r1, e.step s1, o1⟩
    | false => exact ⟨μ1, ρ, h1, r1, e.step s1, o1⟩
end
end VI
end
section
namespace VI
open PySem PySem.Spec PyProof.Rows L2
def mapO {α β : Type} (f : α → Option β) : List α → Option (List β)
  | [] => some []
  | x :: xs => match f x with
    | some y => (match mapO f xs with | some ys => some (y :: ys) | none => none)
    | none => none
/-- data without objects, for == -/
def py : Nat → Bs → D → Option PyData
  | 0, _, _ => none
  | n + 1, h, d => match d with
    | .non => some .none
    | .bl b => some (.bool b)
    | .int i => some (.int i)
    | .str x => if PyData.strOk x then some (.str x) else none
    | .tup xs => (mapO (py n h) xs).map .tuple
    | .tpl xs => (mapO (py n h) xs).map .tuple
    | .lst xs => (mapO (py n h) xs).map .list
    | .scr ns => some (.list (ns.map .int))
    | .ref b => (match h.bs[b]? with | some (.lst _ xs) => (mapO (py n h) xs).map .list | _ => none)
    | _ => none
section
variable {X : Cx} {T : Tb} {W : WX} {μ μ' : Mu} {H H' : Hp} {h : Bs} {σ : Sg}
theorem mapO_some {α β : Type} {f : α → Option β} {x : α} {xs : List α} {zs : List β} (e : mapO f (x :: xs) = some zs) : ∃ y ys, f x = some y ∧ mapO f xs = some ys ∧ zs = y :: ys := by
  simp only [mapO] at e
  cases q : f x with
  | none => rw [q] at e; cases e
  | some y =>
    rw [q] at e
    cases q2 : mapO f xs with
    | none => rw [q2] at e; cases e
    | some ys => rw [q2] at e; cases e; exact ⟨y, ys, rfl, rfl, rfl⟩
def PyOk (T : Tb) (H : Hp) (n : Nat) (v : V) (p : PyData) : Prop := Dp T.K H v p ∧ p.depth ≤ n ∧ p.canLay0 = true
theorem ints_dp : ∀ ns : List Int, DpAll T.K H (ns.map V.int) (ns.map PyData.int) ∧ PyData.depthAll (ns.map .int) ≤ 0 ∧ PyData.canLayAll0 (ns.map .int) = true
  | [] => ⟨.nil, by simp [PyData.depthAll], by simp [PyData.canLayAll0]⟩
  | n :: ns => ⟨.cons (.int n) (ints_dp ns).1, by simpa [PyData.depthAll, PyData.depth] using (ints_dp ns).2.1, by simpa [PyData.canLayAll0, PyData.canLay0] using (ints_dp ns).2.2⟩
theorem pys_ok {n : Nat} (ih : ∀ d v p, Rep T μ H d v → py n h d = some p → PyOk T H n v p) : ∀ (xs : List D) (vs : List V) (ps : List PyData), Reps T μ H xs vs → mapO (py n h) xs = some ps →
    DpAll T.K H vs ps ∧ PyData.depthAll ps ≤ n ∧ PyData.canLayAll0 ps = true
  | [], vs, ps, q, e => by
    simp only [Reps] at q; subst q
    simp only [mapO] at e; cases e
    exact ⟨.nil, by simp [PyData.depthAll], by simp [PyData.canLayAll0]⟩
  | x :: xs, vs, ps, q, e => by
    simp only [Reps] at q
    obtain ⟨v, r, rfl, q1, q2⟩ := q
    obtain ⟨y, ys, e1, e2, rfl⟩ := mapO_some e
    obtain ⟨a1, a2, a3⟩ := ih x v y q1 e1
    obtain ⟨b1, b2, b3⟩ := pys_ok ih xs r ys q2 e2
    exact ⟨.cons a1 b1, by simp only [PyData.depthAll]; omega, by simp [PyData.canLayAll0, a3, b3]⟩
theorem py_ok (r : Rel T μ h H) : ∀ (n : Nat) (d : D) (v : V) (p : PyData), Rep T μ H d v → py n h d = some p → PyOk T H n v p
  | 0, _, _, _, _, e => by simp [py] at e
  | n + 1, d, v, p, q, e => by
    have ih := pys_ok (fun d v p => py_ok r n d v p)
    cases d with
    | non => simp only [py] at e; cases e; simp only [Rep] at q; subst q; exact ⟨.non, by simp [PyData.depth], by simp [PyData.canLay0]⟩
    | bl b => simp only [py] at e; cases e; simp only [Rep] at q; subst q; exact ⟨.bl b, by simp [PyData.depth], by simp [PyData.canLay0]⟩
    | int b => simp only [py] at e; cases e; simp only [Rep] at q; subst q; exact ⟨.int b, by simp [PyData.depth], by simp [PyData.canLay0]⟩
    | str b =>
      simp only [py] at e
      split at e
      · rename_i hs
        cases e; simp only [Rep] at q; subst q; exact ⟨.str b, by simp [PyData.depth], by simpa [PyData.canLay0] using hs⟩
      · cases e
    | tup xs =>
      simp only [py] at e
      cases q2 : mapO (py n h) xs with
      | none => rw [q2] at e; cases e
      | some ps =>
        rw [q2] at e; cases e
        obtain ⟨a, vs, rfl, e2, _, e3⟩ := q.tupOf
        obtain ⟨b1, b2, b3⟩ := ih xs vs ps e3 q2
        exact ⟨.tup (SqT.of e2) b1, by simp only [PyData.depth]; omega, by simpa [PyData.canLay0] using b3⟩
    | tpl xs =>
      simp only [py] at e
      cases q2 : mapO (py n h) xs with
      | none => rw [q2] at e; cases e
      | some ps =>
        rw [q2] at e; cases e
        obtain ⟨a, o, vs, rfl, e2, _, _, e3⟩ := q.tplOf
        obtain ⟨b1, b2, b3⟩ := ih xs vs ps e3 q2
        exact ⟨.tup (SqT.fz e2) b1, by simp only [PyData.depth]; omega, by simpa [PyData.canLay0] using b3⟩
    | lst xs =>
      simp only [py] at e
      cases q2 : mapO (py n h) xs with
      | none => rw [q2] at e; cases e
      | some ps =>
        rw [q2] at e; cases e
        obtain ⟨a, vs, rfl, e2, e3⟩ := r.lstOf (xs := xs) q rfl
        obtain ⟨b1, b2, b3⟩ := ih xs vs ps e3 q2
        exact ⟨.lst e2 b1, by simp only [PyData.depth]; omega, by simpa [PyData.canLay0] using b3⟩
    | scr ns =>
      simp only [py] at e
      cases e
      simp only [Rep] at q
      obtain ⟨a, rfl, e2⟩ := q
      obtain ⟨b1, b2, b3⟩ := ints_dp (T := T) (H := H) ns
      exact ⟨.lst e2.sq b1, by simp only [PyData.depth]; omega, by simpa [PyData.canLay0] using b3⟩
    | ref b =>
      simp only [py] at e
      split at e
      · rename_i lk xs hb
        cases q2 : mapO (py n h) xs with
        | none => rw [q2] at e; cases e
        | some ps =>
          rw [q2] at e; cases e
          obtain ⟨a, vs, rfl, e2, e3⟩ := r.lstOf (d := .ref b) (xs := xs) q (by simp [VI.lstOf, hb])
          obtain ⟨b1, b2, b3⟩ := ih xs vs ps e3 q2
          exact ⟨.lst e2 b1, by simp only [PyData.depth]; omega, by simpa [PyData.canLay0] using b3⟩
      · cases e
    | dct ks vs => simp [py] at e
    | obj c fs vs => simp [py] at e
theorem PyOk.shaped {n : Nat} {v : V} {p : PyData} (k : PyOk T H n v p) (hn : n ≤ 64) : SeqAt.shaped p = true := by
  unfold SeqAt.shaped
  simp only [Bool.and_eq_true, decide_eq_true_eq]
  exact ⟨k.2.2, Nat.le_trans k.2.1 hn⟩
abbrev pyN : Nat := 12
/-- == -/
def eqD (neg : Bool) (d e : D) (h : Bs) : R D := match py pyN h d, py pyN h e with
  | some p, some q => .ok (.bl (if neg then !PyData.eqv p q else PyData.eqv p q)) h
  | _, _ => .no
theorem eqD_calm {neg : Bool} {d e : D} : Calm (eqD neg d e h) := by
  intro x h' z; unfold eqD at z; split at z <;> cases z
theorem ov_eq (hK : X.K = T.K) (hu : X.A.units + 64 < cLine) : OpR X (compareOp .Eq) (rD2 T (eqD false)) :=
  OpR.imp (op_eqD hu) fun x y H Q ⟨μ, h, d, e, r, rd, re, o⟩ => by
    unfold eqD at o
    split at o
    · rename_i p q hp hq
      have k1 := py_ok r _ d x p rd hp
      have k2 := py_ok r _ e y q re hq
      exact ⟨p, q, by rw [hK]; exact k1.1, by rw [hK]; exact k2.1, k1.shaped (by decide), k2.shaped (by decide), o μ H _ Stp.refl r (by simp only [Rep]; rfl)⟩
    · exact o.elim
theorem ov_ne (hK : X.K = T.K) (hu : X.A.units + 64 < cLine) : OpR X (compareOp .NotEq) (rD2 T (eqD true)) :=
  OpR.imp (op_neD hu) fun x y H Q ⟨μ, h, d, e, r, rd, re, o⟩ => by
    unfold eqD at o
    split at o
    · rename_i p q hp hq
      have k1 := py_ok r _ d x p rd hp
      have k2 := py_ok r _ e y q re hq
      exact ⟨p, q, by rw [hK]; exact k1.1, by rw [hK]; exact k2.1, k1.shaped (by decide), k2.shaped (by decide), o μ H _ Stp.refl r (by simp only [Rep]; rfl)⟩
    · exact o.elim
/-- < <= > >= of ints -/
def ltD (p : Int → Int → Bool) (d e : D) (h : Bs) : R D := match d, e with
  | .int i, .int j => .ok (.bl (p i j)) h
  | _, _ => .no
theorem ltD_calm {p : Int → Int → Bool} {d e : D} : Calm (ltD p d e h) := by
  intro x h' z; unfold ltD at z; split at z <;> cases z
theorem ov_cmp {op : CmpOp} {p : Int → Int → Bool} (hop : OpR X (compareOp op) (rI0 fun i j => .bl (p i j))) : OpR X (compareOp op) (rD2 T (ltD p)) :=
  OpR.imp hop fun x y H Q ⟨μ, h, d, e, r, rd, re, o⟩ => by
    unfold ltD at o
    split at o
    · simp only [Rep] at rd re
      exact ⟨_, _, rd, re, o μ H _ Stp.refl r (by simp only [Rep])⟩
    · exact o.elim
/-- x in a list, a tuple -/
def inD (neg : Bool) (d e : D) (h : Bs) : R D := match py pyN h d, py pyN h e with
  | some p, some (.list qs) => .ok (.bl (if neg then !qs.any (fun z => PyData.eqv z p) else qs.any fun z => PyData.eqv z p)) h
  | some p, some (.tuple qs) => .ok (.bl (if neg then !qs.any (fun z => PyData.eqv z p) else qs.any fun z => PyData.eqv z p)) h
  | _, _ => .no
theorem inD_calm {neg : Bool} {d e : D} : Calm (inD neg d e h) := by
  intro x h' z; unfold inD at z; split at z <;> cases z
theorem shaped_list {ds : List PyData} (h : SeqAt.shaped (.list ds) = true) : PyData.canLayAll0 ds = true := SeqAt.canLay_of_shaped h
theorem shaped_tuple {ds : List PyData} (h : SeqAt.shaped (.tuple ds) = true) : PyData.canLayAll0 ds = true := SeqAt.canLay_of_shaped h
theorem ov_in (hK : X.K = T.K) (hu : X.A.units + 65 < cLine) : OpR X (compareOp .In) (rD2 T (inD false)) := by
  intro pins s σ H x y v u Q I rx ry ⟨μ, h, d, e, r, rd, re, o⟩
  unfold inD at o
  split at o
  · rename_i p qs hp hq
    have k1 := py_ok r _ d x _ rd hp
    have k2 := py_ok r _ e y _ re hq
    exact op_inD hu pins s σ H x y v u Q I rx ry ⟨p, qs, by rw [hK]; exact k1.1, by rw [hK]; exact k2.1, k1.shaped (by decide), k2.shaped (by decide), o μ H _ Stp.refl r (by simp only [Rep]; rfl)⟩
  · rename_i p qs hp hq
    have k1 := py_ok r _ d x _ rd hp
    have k2 := py_ok r _ e y _ re hq
    have s1 := k1.shaped (by decide)
    have s2 := k2.shaped (by decide)
    obtain ⟨as, r1⟩ := Dp.reads I p x v (by rw [hK]; exact k1.1) rx
    obtain ⟨bs, r2⟩ := Dp.reads I (.tuple qs) y u (by rw [hK]; exact k2.1) ry
    exact SeqAt.in_tuple_reads r2 r1 (shaped_tuple s2) (SeqAt.canLay_of_shaped s1) (room_in_shaped s1 hu) ⟨.bl _, H, I, rfl, o μ H _ Stp.refl r (by simp only [Rep]; rfl)⟩
  · exact o.elim
theorem ov_notIn (hK : X.K = T.K) (hu : X.A.units + 65 < cLine) : OpR X (compareOp .NotIn) (rD2 T (inD true)) := by
  intro pins s σ H x y v u Q I rx ry ⟨μ, h, d, e, r, rd, re, o⟩
  unfold inD at o
  split at o
  · rename_i p qs hp hq
    have k1 := py_ok r _ d x _ rd hp
    have k2 := py_ok r _ e y _ re hq
    exact op_notInD hu pins s σ H x y v u Q I rx ry ⟨p, qs, by rw [hK]; exact k1.1, by rw [hK]; exact k2.1, k1.shaped (by decide), k2.shaped (by decide), o μ H _ Stp.refl r (by simp only [Rep]; rfl)⟩
  · rename_i p qs hp hq
    have k1 := py_ok r _ d x _ rd hp
    have k2 := py_ok r _ e y _ re hq
    have s1 := k1.shaped (by decide)
    have s2 := k2.shaped (by decide)
    obtain ⟨as, r1⟩ := Dp.reads I p x v (by rw [hK]; exact k1.1) rx
    obtain ⟨bs, r2⟩ := Dp.reads I (.tuple qs) y u (by rw [hK]; exact k2.1) ry
    exact SeqAt.notIn_tuple_reads r2 r1 (shaped_tuple s2) (SeqAt.canLay_of_shaped s1) (room_in_shaped s1 hu) ⟨.bl _, H, I, rfl, o μ H _ Stp.refl r (by simp only [Rep]; rfl)⟩
  · exact o.elim
/-- is: None, True, False beside anything flat -/
def isN (neg : Bool) (d : D) (h : Bs) : R D := match d with
  | .non => .ok (.bl (!neg)) h
  | _ => .ok (.bl neg) h
def isB (neg : Bool) (d e : D) (h : Bs) : R D := match d, e with
  | .bl a, .bl b => .ok (.bl (if neg then !decide (a = b) else decide (a = b))) h
  | _, _ => .no
theorem isB_calm {neg : Bool} {d e : D} : Calm (isB neg d e h) := by
  intro x h' z; unfold isB at z; split at z <;> cases z
theorem ov_isB : OpR X (compareOp .Is) (rD2 T (isB false)) :=
  OpR.imp op_isBl fun x y H Q ⟨μ, h, d, e, r, rd, re, o⟩ => by
    unfold isB at o
    split at o
    · simp only [Rep] at rd re
      exact ⟨_, _, rd, re, o μ H _ Stp.refl r (by simp only [Rep]; rfl)⟩
    · exact o.elim
theorem ov_notB : OpR X (compareOp .IsNot) (rD2 T (isB true)) :=
  OpR.imp op_notBl fun x y H Q ⟨μ, h, d, e, r, rd, re, o⟩ => by
    unfold isB at o
    split at o
    · simp only [Rep] at rd re
      exact ⟨_, _, rd, re, o μ H _ Stp.refl r (by simp only [Rep]; rfl)⟩
    · exact o.elim
theorem rep_bl {b c : Bool} (e : b = c) : Rep T μ H (.bl b) (.bl c) := by subst e; simp only [Rep]
theorem rep_int {i j : Int} (e : i = j) : Rep T μ H (.int i) (.int j) := by subst e; simp only [Rep]
theorem rep_nil : Rep T μ H .non .non := by simp only [Rep]
theorem rep_non {d : D} {v : V} (q : Rep T μ H d v) : decide (v = .non) = (match d with | .non => true | _ => false) := by
  cases d with
  | non => simp only [Rep] at q; subst q; rfl
  | bl b => simp only [Rep] at q; subst q; rfl
  | int b => simp only [Rep] at q; subst q; rfl
  | str b => simp only [Rep] at q; subst q; rfl
  | tup xs => obtain ⟨a, vs, rfl, _⟩ := q.tupOf; rfl
  | tpl xs => obtain ⟨a, o, vs, rfl, _⟩ := q.tplOf; rfl
  | lst xs => simp only [Rep] at q; obtain ⟨a, vs, rfl, _⟩ := q; rfl
  | dct ks vs => simp only [Rep] at q
  | obj c fs xs => simp only [Rep] at q; obtain ⟨a, C, dx, vs, rfl, _⟩ := q; rfl
  | ref b => simp only [Rep] at q; obtain ⟨a, _, rfl⟩ := q; rfl
  | scr b => simp only [Rep] at q; obtain ⟨a, rfl, _⟩ := q; rfl
def sUn (f : D → Bs → R D) (sa : SV) : SV := fun ρ h => (sa ρ h).bind f
theorem pc_v {op : CmpOp} {a b : Expr} {sa sb : SV} {f : D → D → Bs → R D} (cf : ∀ d e h, Calm (f d e h)) (ho : OpR X (compareOp op) (rD2 T f)) (ha : PE X a (tV T W sa)) (hb : PE X b (tV T W sb)) : PC X op a b (tV T W (sOp f sa sb)) :=
  ⟨fun pins s σ H Q I w => binT ha hb I (op2_imp cf σ H Q w) fun v u s2 x y H2 I2 rx ry q => ho pins s2 σ H2 x y v u Q I2 rx ry q⟩
theorem PC.imp {op : CmpOp} {a b : Expr} {t t' : TE} (h : PC X op a b t) (i : ∀ σ H Q, t' σ H Q → t σ H Q) : PC X op a b t' := ⟨fun pins s σ H Q I w => h.run pins s σ H Q I (i σ H Q w)⟩
theorem pcv_isN {j pos'} {a : Expr} {sa : SV} (ha : PE X a (tV T W sa)) : PC X .Is a (.Constant .none j pos') (tV T W (sUn (isN false) sa)) :=
  PC.imp (pc_isN ha) fun σ H Q ⟨μ, ρ, h, r, e, o⟩ => by
    refine ⟨μ, ρ, h, r, e, OutV.mono (OutV.bind o) ?_⟩
    rintro v H1 ⟨μ1, d, h1, s1, r1, rv, o1⟩
    show Q (.bl (decide (v = .non))) H1
    rw [rep_non rv]
    cases d <;> exact o1 μ1 H1 _ Stp.refl r1 (rep_bl rfl)
theorem pcv_notN {j pos'} {a : Expr} {sa : SV} (ha : PE X a (tV T W sa)) : PC X .IsNot a (.Constant .none j pos') (tV T W (sUn (isN true) sa)) :=
  PC.imp (pc_notN ha) fun σ H Q ⟨μ, ρ, h, r, e, o⟩ => by
    refine ⟨μ, ρ, h, r, e, OutV.mono (OutV.bind o) ?_⟩
    rintro v H1 ⟨μ1, d, h1, s1, r1, rv, o1⟩
    show Q (.bl (!decide (v = .non))) H1
    rw [rep_non rv]
    cases d <;> exact o1 μ1 H1 _ Stp.refl r1 (rep_bl rfl)
theorem pv_cmp {op : CmpOp} {a b : Expr} {pos : Pos} {s : SV} (h : PC X op a b (tV T W s)) (hb : behindInMarks op b = false) : PE X (.Compare a [op] [b] pos) (tV T W s) := pe_cmp h hb
theorem pvt_cmp {op : CmpOp} {a b : Expr} {pos : Pos} {s : SV} (h : PC X op a b (tV T W s)) (hb : behindInMarks op b = false) : PT X (.Compare a [op] [b] pos) (tB' T W (sTru s)) := PT.imp (pt_cmp h hb) tru_imp

/-! ### arithmetic -/
def addD (bx : Bool) (d e : D) (h : Bs) : R D := match d, e with
  | .int i, .int j => .ok (.int (i + j)) h
  | .tup xs, .tup ys => newT (xs ++ ys) h
  | .tpl xs, .tpl ys => newP (xs ++ ys) h
  | _, _ => (match lstS h d, lstS h e with
    | some xs, some ys => newL bx (xs ++ ys) h
    | _, _ => .no)
theorem addD_calm {bx : Bool} {d e : D} : Calm (addD bx d e h) := by
  unfold addD
  split
  · intro x h' z; cases z
  · exact newT_calm
  · exact newP_calm
  · split
    · exact newL_calm
    · intro x h' z; cases z
theorem ov_add {bx : Bool} (hK : X.K = T.K) : OpR X (binaryOp .Add) (rD2 T (addD bx)) := by
  intro pins s σ H x y v u Q I rx ry ⟨μ, h, d, e, r, rd, re, o⟩
  unfold addD at o
  split at o
  · simp only [Rep] at rd re
    exact op_add pins s σ H x y v u Q I rx ry ⟨_, _, rd, re, o μ H _ Stp.refl r (by simp only [Rep])⟩
  · rename_i xs ys
    obtain ⟨a, vs, e1, e2, n1, e3⟩ := rd.tupOf
    obtain ⟨b, ws, f1, f2, n2, f3⟩ := re.tupOf
    have o' := newT_ok r (e3.append f3) o
    refine op_catA pins s σ H x y v u Q I rx ry ⟨a, b, vs, ws, e1, f1, SqT.of e2, SqT.of f2, by simpa using o'.1, ?_⟩
    unfold newT at o
    rw [if_pos (by have := (e3.append f3).length; rw [this]; exact o'.1)] at o
    refine ⟨fun z => ?_, fun z z2 => ?_, fun _ _ => o'.2⟩
    · subst z
      have : xs = [] := by have := e3.length; simpa using this
      subst this
      refine o μ H _ Stp.refl r ?_
      simp only [Rep]
      exact ⟨b, ws, rfl, f2, n2, f3⟩
    · subst z2
      have : ys = [] := by have := f3.length; simpa using this
      subst this
      refine o μ H _ Stp.refl r ?_
      simp only [Rep, List.append_nil]
      exact ⟨a, vs, rfl, e2, n1, e3⟩
  · rename_i xs ys
    obtain ⟨a, oa, vs, e1, e2, c1, n1, e3⟩ := rd.tplOf
    obtain ⟨b, ob, ws, f1, f2, c2, n2, f3⟩ := re.tplOf
    have o' := newP_ok r (e3.append f3) o
    refine op_catP pins s σ H x y v u Q I rx ry ⟨a, b, vs, ws, e1, f1, SqT.fz e2, SqT.fz f2, by simpa using o'.1, ?_⟩
    unfold newP at o
    rw [if_pos (by have := (e3.append f3).length; rw [this]; exact o'.1)] at o
    refine ⟨fun z => ?_, fun z z2 => ?_, fun _ _ p ob hc hp => o'.2 p ob hc hp⟩
    · subst z
      have : xs = [] := by have := e3.length; simpa using this
      subst this
      refine o μ H _ Stp.refl r ?_
      simp only [Rep]
      exact ⟨b, ob, ws, rfl, f2, c2, n2, f3⟩
    · subst z2
      have : ys = [] := by have := f3.length; simpa using this
      subst this
      refine o μ H _ Stp.refl r ?_
      simp only [Rep, List.append_nil]
      exact ⟨a, oa, vs, rfl, e2, c1, n1, e3⟩
  · split at o
    · rename_i xs ys hx hy
      obtain ⟨a, vs, e1, e2, e3⟩ := r.lstS rd hx
      obtain ⟨b, ws, f1, f2, f3⟩ := r.lstS re hy
      have o' := newL_ok r (e3.append f3) o
      exact op_cat pins s σ H x y v u Q I rx ry ⟨a, b, vs, ws, e1, f1, e2, f2, by simpa using o'.1, o'.2⟩
    · exact o.elim
def subD (d e : D) (h : Bs) : R D := match d, e with
  | .int i, .int j => .ok (.int (i - j)) h
  | _, _ => .no
theorem subD_calm {d e : D} : Calm (subD d e h) := by
  intro x h' z; unfold subD at z; split at z <;> cases z
theorem ov_sub : OpR X (binaryOp .Sub) (rD2 T subD) :=
  OpR.imp op_sub fun x y H Q ⟨μ, h, d, e, r, rd, re, o⟩ => by
    unfold subD at o
    split at o
    · simp only [Rep] at rd re
      exact ⟨_, _, rd, re, o μ H _ Stp.refl r (by simp only [Rep])⟩
    · exact o.elim
def fdivD (d e : D) (h : Bs) : R D := match d, e with
  | .int i, .int j => if 0 < j ∧ j.natAbs.log2 < 9000 then .ok (.int (i / j)) h else .no
  | _, _ => .no
theorem fdivD_calm {d e : D} : Calm (fdivD d e h) := by
  intro x h' z; unfold fdivD at z; split at z
  · split at z <;> cases z
  · cases z
theorem ov_fdiv : OpR X (binaryOp .FloorDiv) (rD2 T fdivD) :=
  OpR.imp op_fdivW fun x y H Q ⟨μ, h, d, e, r, rd, re, o⟩ => by
    unfold fdivD at o
    split at o
    · split at o
      · rename_i hc
        simp only [Rep] at rd re
        exact ⟨_, _, rd, re, hc, o μ H _ Stp.refl r (by simp only [Rep])⟩
      · exact o.elim
    · exact o.elim
def modD (d e : D) (h : Bs) : R D := match d, e with
  | .int i, .int j => if 0 < j then .ok (.int (i % j)) h else .no
  | _, _ => .no
theorem modD_calm {d e : D} : Calm (modD d e h) := by
  intro x h' z; unfold modD at z; split at z
  · split at z <;> cases z
  · cases z
theorem ov_mod : OpR X (binaryOp .Mod) (rD2 T modD) :=
  OpR.imp op_mod fun x y H Q ⟨μ, h, d, e, r, rd, re, o⟩ => by
    unfold modD at o
    split at o
    · split at o
      · rename_i hc
        simp only [Rep] at rd re
        exact ⟨_, _, rd, re, hc, o μ H _ Stp.refl r (by simp only [Rep])⟩
      · exact o.elim
    · exact o.elim
end
end VI
end
section
namespace VI
open PySem PySem.Spec PyProof.Rows L2
theorem tuple_mul1 (l : Addr) (items : Array Value) (n : Nat) (dd : Option Addr) (sl : Array (Option Value)) (u : Tok) :
    Meets (Builtin.«tuple.__mul__» ⟨[.ref l, .int 1 u], []⟩) (fun _ R s => s.heap.get? l = some { cls := .type "tuple", dict := dd, data := .seq items n, slots := sl } ∧ R (.ok (.ret (Value.ref l))) s) :=
  .of_wp fun prog w A R s h => by
    obtain ⟨hp, g, d, tk, os⟩ := s
    obtain ⟨hl, h⟩ := h
    have f1 := AutoSeq1.idx_int
    wp_walk using wpAny_loadPart' hl
    repeat (first
      | (refine wpAny_ite_false (by decide) ?_; wp_walk using wpAny_loadPart' hl)
      | (refine wpAny_ite_true (by simp) ?_; wp_walk using wpAny_loadPart' hl))
    exact ⟨_, rfl, h⟩
section
variable {X : Cx}
theorem op_repT1 : OpR X (binaryOp .Mult) (fun x y H Q => ∃ l xs, x = .ref l ∧ y = .int 1 ∧ SqT X.K H l xs ∧ Q x H) := by
  intro pins s σ H x y v u Q I rx ry h
  obtain ⟨l, xs, rfl, rfl, hT, q⟩ := h
  cases rx
  obtain ⟨t, rfl⟩ := ry
  obtain ⟨its, r, ⟨⟨cls, dd, data, sl⟩, ho, hc, n, hd⟩, hs⟩ := I.tuple hT
  simp only at hc hd
  subst hc hd
  exact wpAny_binaryOp_repeat_ref (T := "tuple") (U := "int") (by decide) ⟨_, ho, rfl⟩ (fun s' => typeIs_int s' 1 t) noFill_tuple_mul F.fills_int_mul F.slot_int_rmul repeat_tuple F.slot_int_index.lookup
    (call_meets F.slot_int_rmul (typeIs_int s 1 t) F.entry_int_rmul (F.args_int_rmul_2 _ _) (int_rmul_tuple 1 t l its.toArray n dd sl)
      ⟨ho, rfl, ⟨_, ho, rfl⟩, call_meets F.slot_tuple_mul ⟨_, ho, rfl⟩ F.entry_tuple_mul (F.args_tuple_mul_2 _ _) (tuple_mul1 l its.toArray n dd sl t) ⟨ho, ⟨.ref l, H, I, rfl, q⟩⟩⟩)
end
section
variable {X : Cx} {T : Tb} {W : WX} {μ μ' : Mu} {H H' : Hp} {h : Bs} {σ : Sg}
theorem Reps.rep {xs : List D} {vs : List V} (q : Reps T μ H xs vs) : ∀ k : Nat, Reps T μ H (List.replicate k xs).flatten (List.replicate k vs).flatten
  | 0 => by simp [Reps]
  | k + 1 => by simp only [List.replicate_succ, List.flatten_cons]; exact q.append (Reps.rep q k)
def mulD (bx : Bool) (d e : D) (h : Bs) : R D := match d, e with
  | .int i, .int j => if i.natAbs.log2 + j.natAbs.log2 < 1000000 then .ok (.int (i * j)) h else .no
  | .tup xs, .int k => if k = 1 then .ok d h else if xs ≠ [] ∧ 2 ≤ k ∧ k ≤ 1000 ∧ xs.length ≤ 1000 then newT (List.replicate k.toNat xs).flatten h else .no
  | .tpl xs, .int k => if k = 1 then .ok d h else if xs ≠ [] ∧ 2 ≤ k ∧ k ≤ 1000 ∧ xs.length ≤ 1000 then newP (List.replicate k.toNat xs).flatten h else .no
  | _, .int k => (match lstS h d with
    | some xs => if -(2 ^ 63) ≤ k ∧ k < 2 ^ 63 ∧ xs.length * k.toNat ≤ sizeLine then newL bx (List.replicate k.toNat xs).flatten h else .no
    | _ => .no)
  | _, _ => .no
theorem mulD_calm {bx : Bool} {d e : D} : Calm (mulD bx d e h) := by
  unfold mulD
  split
  · intro x h' z; split at z <;> cases z
  · intro x h' z
    split at z
    · cases z
    · split at z
      · exact newT_calm x h' z
      · cases z
  · intro x h' z
    split at z
    · cases z
    · split at z
      · exact newP_calm x h' z
      · cases z
  · intro x h' z
    split at z
    · split at z
      · exact newL_calm x h' z
      · cases z
    · cases z
  · intro x h' z; cases z
theorem ov_mul {bx : Bool} (hK : X.K = T.K) : OpR X (binaryOp .Mult) (rD2 T (mulD bx)) := by
  intro pins s σ H x y v u Q I rx ry ⟨μ, h, d, e, r, rd, re, o⟩
  unfold mulD at o
  split at o
  · split at o
    · rename_i hc
      simp only [Rep] at rd re
      exact op_mulW pins s σ H x y v u Q I rx ry ⟨_, _, rd, re, hc, o μ H _ Stp.refl r (rep_int rfl)⟩
    · exact o.elim
  · rename_i xs k
    have re' := re
    simp only [Rep] at re'
    obtain ⟨a, vs, e1, e2, n1, e3⟩ := rd.tupOf
    split at o
    · rename_i hk
      subst hk
      exact op_repT1 pins s σ H x y v u Q I rx ry ⟨a, vs, e1, re', SqT.of e2, o μ H _ Stp.refl r rd⟩
    · split at o
      · rename_i hk
        obtain ⟨c1, c2, c3, c4⟩ := hk
        have o' := newT_ok r (e3.rep k.toNat) o
        refine op_repT pins s σ H x y v u Q I rx ry ⟨a, k, vs, e1, re', SqT.of e2, ?_, c2, c3, by rw [← e3.length]; exact c4, o'.2⟩
        intro z
        subst z
        have := e3.length
        exact c1 (by simpa using this)
      · exact o.elim
  · rename_i xs k
    have re' := re
    simp only [Rep] at re'
    obtain ⟨a, oa, vs, e1, e2, c0, n1, e3⟩ := rd.tplOf
    split at o
    · rename_i hk
      subst hk
      exact op_repT1 pins s σ H x y v u Q I rx ry ⟨a, vs, e1, re', SqT.fz e2, o μ H _ Stp.refl r rd⟩
    · split at o
      · rename_i hk
        obtain ⟨c1, c2, c3, c4⟩ := hk
        have o' := newP_ok r (e3.rep k.toNat) o
        refine op_repP pins s σ H x y v u Q I rx ry ⟨a, k, vs, e1, re', SqT.fz e2, ?_, c2, c3, by rw [← e3.length]; exact c4, o'.2⟩
        intro z
        subst z
        have := e3.length
        exact c1 (by simpa using this)
      · exact o.elim
  · rename_i k hn1 hn2 hn3
    have re' := re
    simp only [Rep] at re'
    split at o
    · rename_i xs hx
      split at o
      · rename_i hc
        obtain ⟨c1, c2, c3⟩ := hc
        obtain ⟨a, vs, e1, e2, e3⟩ := r.lstS rd hx
        have o' := newL_ok r (e3.rep k.toNat) o
        exact op_rep pins s σ H x y v u Q I rx ry ⟨a, k, vs, e1, re', e2, c1, c2, by rw [← e3.length]; exact c3, o'.2⟩
      · exact o.elim
    · exact o.elim
  · exact o.elim

/-! ### places, cuts -/
def ixD (d e : D) (h : Bs) : R D := match e with
  | .int i => (match seqOf h d with
    | some xs => (match atI xs i with
      | some x => .ok x h
      | none => .no)
    | none => .no)
  | _ => .no
theorem ixD_calm {d e : D} : Calm (ixD d e h) := by
  intro x h' z; unfold ixD at z
  split at z
  · split at z
    · split at z <;> cases z
    · cases z
  · cases z
theorem Reps.atI {xs : List D} {vs : List V} {i : Int} {x : D} (q : Reps T μ H xs vs) (e : L2.atI xs i = some x) : ∃ v, L2.atI vs i = some v ∧ Rep T μ H x v := by
  unfold L2.atI at e ⊢
  rw [← q.length]
  cases k : ixN xs.length i with
  | none => rw [k] at e; cases e
  | some j =>
    rw [k] at e
    exact q.get e
theorem ov_ix (hK : X.K = T.K) : IxR X (rD2 T ixD) := by
  intro value slice pins s σ H x y v u Q I rx ry ⟨μ, h, d, e, r, rd, re, o⟩ hs
  refine (ix_list.or ix_tup) value slice pins s σ H x y v u Q I rx ry ?_ hs
  unfold ixD at o
  split at o
  · rename_i i
    simp only [Rep] at re
    split at o
    · rename_i xs hx
      split at o
      · rename_i z hz
        obtain ⟨a, vs, e1, e2, e3⟩ := r.seqOf rd hx
        obtain ⟨w, e4, rw'⟩ := e3.atI hz
        rcases e2 with e2 | e2
        · exact .inr ⟨a, vs, i, w, e1, re, by rw [hK]; exact e2, e4, o μ H _ Stp.refl r rw'⟩
        · exact .inl ⟨a, vs, i, w, e1, re, by rw [hK]; exact e2, e4, o μ H _ Stp.refl r rw'⟩
      · exact o.elim
    · exact o.elim
  · exact o.elim
def noSlice : Expr → Bool
  | .Slice .. => false
  | _ => true
theorem plainIx {b : Expr} (hb : noSlice b = true) : PlainIx b := by
  cases b <;> first | (exact fun _ _ => rfl) | (exact Bool.noConfusion hb)
theorem pv_ix {a b : Expr} {sa sb : SV} {pos : Pos} (hK : X.K = T.K) (hs : noSlice b = true) (ha : PE X a (tV T W sa)) (hb : PE X b (tV T W sb)) : PE X (.Subscript a b pos) (tV T W (sOp ixD sa sb)) :=
  PE.imp (pe_ix (ov_ix hK) ha hb (plainIx hs)) (op2_imp fun _ _ _ => ixD_calm)
/-- an end of a cut -/
abbrev SO := Ev → Bs → R (Option Int)
def soNone : SO := fun _ h => .ok none h
def soSome (s : SV) : SO := fun ρ h => (s ρ h).bind fun d h1 => match d with
  | .int i => .ok (some i) h1
  | _ => .no
def OutO (T : Tb) (W : WX) (σ : Sg) (μ : Mu) (H : Hp) (Q : Option Int → Hp → Prop) : R (Option Int) → Prop
  | .ok d h' => ∀ μ' H', Stp μ H μ' H' → Rel T μ' h' H' → Q d H'
  | .ex x h' => ∀ μ' H' cls d, Stp μ H μ' H' → Rel T μ' h' H' → RepX T μ' H' x cls d → W cls d σ H'
  | .no => False
def tO' (T : Tb) (W : WX) (s : SO) : TO := fun σ H Q => ∃ μ ρ h, Rel T μ h H ∧ RepE T μ H ρ σ ∧ OutO T W σ μ H Q (s ρ h)
theorem OutO.step {Q : Option Int → Hp → Prop} {r : R (Option Int)} (o : OutO T W σ μ H Q r) (s : Stp μ H μ' H') : OutO T W σ μ' H' Q r := by
  cases r with
  | ok d h => exact fun μ2 H2 s2 => o μ2 H2 (s.trans s2)
  | ex x h => exact fun μ2 H2 c d s2 => o μ2 H2 c d (s.trans s2)
  | no => exact o
theorem PO.imp {e : Option Expr} {t t' : TO} (h : PO X e t) (i : ∀ σ H Q, t' σ H Q → t σ H Q) : PO X e t' := ⟨fun pins s σ H Q I w => h.run pins s σ H Q I (i σ H Q w)⟩
theorem pov_none : PO X none (tO' T W soNone) := PO.imp po_none fun σ H Q ⟨μ, ρ, h, r, e, o⟩ => o μ H Stp.refl r
theorem pov_some {e : Expr} {s : SV} (he : PE X e (tV T W s)) : PO X (some e) (tO' T W (soSome s)) := PO.imp (po_some he) fun σ H Q ⟨μ, ρ, h, r, e, o⟩ => by
  refine ⟨μ, ρ, h, r, e, ?_⟩
  unfold soSome at o
  cases q : s ρ h with
  | no => rw [q] at o; exact o
  | ex x h1 => rw [q] at o; exact o
  | ok d h1 =>
    rw [q] at o
    simp only [R.bind] at o
    intro μ1 H1 v s1 r1 rv
    cases d with
    | int i =>
      simp only [Rep] at rv
      exact ⟨i, rv, o μ1 H1 s1 r1⟩
    | _ => exact o.elim
theorem OutV.bindO {Q : VK} {r : R (Option Int)} {f : Option Int → Bs → R D} (o : OutV T W σ μ H Q (r.bind f)) :
    OutO T W σ μ H (fun d H1 => ∃ μ1 h1, Stp μ H μ1 H1 ∧ Rel T μ1 h1 H1 ∧ OutV T W σ μ1 H1 Q (f d h1)) r := by
  cases r with
  | ok d h => exact fun μ1 H1 s r1 => ⟨μ1, h, s, r1, OutV.step o s⟩
  | ex x h => exact o
  | no => exact o
theorem OutO.mono {Q Q' : Option Int → Hp → Prop} {r : R (Option Int)} (o : OutO T W σ μ H Q r) (i : ∀ v H, Q v H → Q' v H) : OutO T W σ μ H Q' r := by
  cases r with
  | ok d h' => exact fun μ1 H1 s r1 => i _ _ (o μ1 H1 s r1)
  | ex x h => exact o
  | no => exact o
def cutD (xs : List D) (lo hi : Option Int) : List D := (xs.drop (HT.sIx xs.length 0 lo)).take (HT.sIx xs.length xs.length hi - HT.sIx xs.length 0 lo)
theorem Reps.cut {xs : List D} {vs : List V} {lo hi : Option Int} (q : Reps T μ H xs vs) : Reps T μ H (cutD xs lo hi) (cutV vs lo hi) := by
  unfold cutD cutV
  rw [← q.length]
  exact (q.drop _).take _
def slD (bx : Bool) (d : D) (lo hi : Option Int) (h : Bs) : R D := match d with
  | .tup xs => newT (cutD xs lo hi) h
  | .tpl xs => newP (cutD xs lo hi) h
  | _ => (match lstOf h d with
    | some xs => newL bx (cutD xs lo hi) h
    | none => .no)
theorem slD_calm {bx : Bool} {d : D} {lo hi : Option Int} : Calm (slD bx d lo hi h) := by
  unfold slD
  split
  · exact newT_calm
  · exact newP_calm
  · split
    · exact newL_calm
    · intro x h' z; cases z
def sSl (bx : Bool) (s : SV) (l u : SO) : SV := fun ρ h => (s ρ h).bind fun d h1 => (l ρ h1).bind fun lo h2 => (u ρ h2).bind fun hi h3 => slD bx d lo hi h3
theorem SlR.imp {r r' : V → Option Int → Option Int → Hp → VK → Prop} (h : SlR X r) (i : ∀ x lo hi H Q, r' x lo hi H Q → r x lo hi H Q) : SlR X r' :=
  fun pins s σ H x v vl vu lo hi sl Q I rx hs pl pu q => h pins s σ H x v vl vu lo hi sl Q I rx hs pl pu (i x lo hi H Q q)
def rSlD (T : Tb) (bx : Bool) : V → Option Int → Option Int → Hp → VK → Prop := fun x lo hi H Q => ∃ μ h d, Rel T μ h H ∧ Rep T μ H d x ∧ OutV T noW [] μ H Q (slD bx d lo hi h)
theorem ov_sl {bx : Bool} (hK : X.K = T.K) : SlR X (rSlD T bx) :=
  SlR.imp (sl_list.or (sl_tupA.or sl_tupP)) fun x lo hi H Q ⟨μ, h, d, r, rd, o⟩ => by
    unfold slD at o
    split at o
    · rename_i xs
      obtain ⟨a, vs, e1, e2, n1, e3⟩ := rd.tupOf
      have o' := newT_ok r e3.cut o
      refine .inr (.inl ⟨a, vs, e1, SqT.of e2, fun hw => ?_, fun _ => o'.2⟩)
      unfold newT at o
      rw [if_pos (by rw [e3.cut.length]; exact o'.1)] at o
      refine o μ H _ Stp.refl r ?_
      have ew : cutD xs lo hi = xs := by
        unfold cutD
        rw [e3.length, hw.1, hw.2]
        simp [← e3.length]
      rw [ew]
      simp only [Rep]
      exact ⟨a, vs, rfl, e2, n1, e3⟩
    · rename_i xs
      obtain ⟨a, oa, vs, e1, e2, c0, n1, e3⟩ := rd.tplOf
      have o' := newP_ok r e3.cut o
      refine .inr (.inr ⟨a, vs, e1, SqT.fz e2, fun hw => ?_, fun _ => o'.2⟩)
      unfold newP at o
      rw [if_pos (by rw [e3.cut.length]; exact o'.1)] at o
      refine o μ H _ Stp.refl r ?_
      have ew : cutD xs lo hi = xs := by
        unfold cutD
        rw [e3.length, hw.1, hw.2]
        simp [← e3.length]
      rw [ew]
      simp only [Rep]
      exact ⟨a, oa, vs, rfl, e2, c0, n1, e3⟩
    · split at o
      · rename_i xs hx
        obtain ⟨a, vs, e1, e2, e3⟩ := r.lstOf rd hx
        have o' := newL_ok r e3.cut o
        exact .inl ⟨a, vs, e1, by rw [hK]; exact e2, o'.2⟩
      · exact o.elim
theorem pv_sl {bx : Bool} {e : Expr} {lo hi : Option Expr} {p2 pos : Pos} {s : SV} {l u : SO} (hK : X.K = T.K) (he : PE X e (tV T W s)) (hl : PO X lo (tO' T W l)) (hu : PO X hi (tO' T W u)) : PE X (.Subscript e (.Slice lo hi none p2) pos) (tV T W (sSl bx s l u)) :=
  PE.imp (pe_slice (ov_sl (bx := bx) hK) he hl hu) fun σ H Q ⟨μ, ρ, h, r, e, o⟩ => by
    refine ⟨μ, ρ, h, r, e, OutV.mono (OutV.bind o) ?_⟩
    rintro v H1 ⟨μ1, d, h1, s1, r1, rv, o1⟩
    refine ⟨μ1, ρ, h1, r1, e.step s1, OutO.mono (OutV.bindO o1) ?_⟩
    rintro lo H2 ⟨μ2, h2, s2, r2, o2⟩
    refine ⟨μ2, ρ, h2, r2, (e.step s1).step s2, OutO.mono (OutV.bindO o2) ?_⟩
    rintro hi H3 ⟨μ3, h3, s3, r3, o3⟩
    exact ⟨μ3, h3, d, r3, Rep.step s3 _ _ (Rep.step s2 _ _ rv), o3.calm slD_calm⟩
/-- xs[::-1] -/
def revD (bx : Bool) (d : D) (h : Bs) : R D := match lstOf h d with
  | some xs => newL bx xs.reverse h
  | none => .no
theorem Reps.reverse : ∀ {xs : List D} {vs : List V}, Reps T μ H xs vs → Reps T μ H xs.reverse vs.reverse
  | [], vs, q => by simp only [Reps] at q; subst q; simp [Reps]
  | x :: xs, vs, q => by
    simp only [Reps] at q
    obtain ⟨v, r, rfl, q1, q2⟩ := q
    rw [List.reverse_cons, List.reverse_cons]
    exact (Reps.reverse q2).append (.one q1)
theorem pv_rev {bx : Bool} {e : Expr} {k : Nat} {p1 p2 p3 pos : Pos} {s : SV} (hK : X.K = T.K) (he : PE X e (tV T W s)) : PE X (.Subscript e (.Slice none none (some (.UnaryOp .USub (.Constant (.int 1) k p1) p2)) p3) pos) (tV T W (sUn (revD bx) s)) :=
  PE.imp (pe_revL he) fun σ H Q ⟨μ, ρ, h, r, e, o⟩ => by
    refine ⟨μ, ρ, h, r, e, OutV.mono (OutV.bind o) ?_⟩
    rintro v H1 ⟨μ1, d, h1, s1, r1, rv, o1⟩
    unfold revD at o1
    split at o1
    · rename_i xs hx
      obtain ⟨a, vs, e1, e2, e3⟩ := r1.lstOf rv hx
      exact ⟨a, vs, e1, by rw [hK]; exact e2, (newL_ok r1 e3.reverse o1).2⟩
    · exact o1.elim
/-- -x -/
def negD (d : D) (h : Bs) : R D := match d with
  | .int i => .ok (.int (-i)) h
  | _ => .no
theorem UnR.imp {f : Value → Sem Value} {r r' : V → Hp → VK → Prop} (h : UnR X f r) (i : ∀ x H Q, r' x H Q → r x H Q) : UnR X f r' := fun pins s σ H x v Q I rx w => h pins s σ H x v Q I rx (i x H Q w)
theorem pv_neg {a : Expr} {pos : Pos} {s : SV} (ha : PE X a (tV T W s)) : PE X (.UnaryOp .USub a pos) (tV T W (sUn negD s)) :=
  PE.imp (pe_un un_neg ha) fun σ H Q ⟨μ, ρ, h, r, e, o⟩ => by
    refine ⟨μ, ρ, h, r, e, OutV.mono (OutV.bind o) ?_⟩
    rintro v H1 ⟨μ1, d, h1, s1, r1, rv, o1⟩
    unfold negD at o1
    split at o1
    · simp only [Rep] at rv
      exact ⟨_, rv, o1 μ1 H1 _ Stp.refl r1 (rep_int rfl)⟩
    · exact o1.elim
end
end VI
end
section
namespace VI
open PySem PySem.Spec PyProof.Rows L2
section
variable {X : Cx} {T : Tb} {W : WX} {μ μ' : Mu} {H H' : Hp} {h : Bs} {σ : Sg}
/-! ### calls of built-ins by values -/
def rDn (T : Tb) (f : List D → Bs → R D) : List V → Hp → VK → Prop := fun xs H Q => ∃ μ h ds, Rel T μ h H ∧ Reps T μ H ds xs ∧ OutV T noW [] μ H Q (f ds h)
def sCall (f : List D → Bs → R D) (sa : SA) : SV := fun ρ h => (sa ρ h).bind f
theorem call_imp {f : List D → Bs → R D} {sa : SA} (cf : ∀ ds h, Calm (f ds h)) : ∀ σ H Q, tV T W (sCall f sa) σ H Q → tCB (rDn T f) (tA' T W sa) σ H Q := fun σ H Q ⟨μ, ρ, h, r, e, o⟩ => by
  refine ⟨μ, ρ, h, r, e, OutA.mono (OutV.bindA o) ?_⟩
  rintro v H1 ⟨μ1, d, h1, s1, r1, rv, o1⟩
  exact ⟨μ1, h1, d, r1, rv, o1.calm (cf _ _)⟩
def noStars (es : List Expr) : Bool := es.all fun e => !PySem.W.isStarred e
theorem back_no {pos : Pos} {env : Env} : ∀ {es : List Expr}, noStars es = true → (backTo pos (starEach es env)).any (·.1) = false
  | [], _ => rfl
  | e :: es, hs => by
    simp only [noStars, List.all_cons, Bool.and_eq_true, Bool.not_eq_true'] at hs
    rw [star_no hs.1]
    show (false || (backTo pos (starEach es env)).any (·.1)) = false
    rw [back_no (show noStars es = true from hs.2)]
    rfl
theorem pv_callB {x : Str} {id : String} {e : Expr} {es : List Expr} {p pos : Pos} {f : List D → Bs → R D} {sa : SA} (cf : ∀ ds h, Calm (f ds h)) (hc : CallR X (.builtin id) (rDn T f)) (hg : Gl X x) (hm : X.mg x = none) (hv : bootBuiltins x = some (.builtin id))
    (hn : x ≠ "__name__") (hdb : (x == ("__debug__" : Str)) = false) (hs : noStars (e :: es) = true) (ha : PA X (e :: es) (tA' T W sa)) : PE X (.Call (.Name x p) (e :: es) [] pos) (tV T W (sCall f sa)) := by
  simp only [noStars, List.all_cons, Bool.and_eq_true, Bool.not_eq_true'] at hs
  exact PE.imp (pe_callB hc hg hm hv ha hn hdb (star_no hs.1) (back_no (show noStars es = true from hs.2))) (call_imp cf)
theorem pv_callTy {x : Str} {id : String} {e : Expr} {es : List Expr} {p pos : Pos} {f : List D → Bs → R D} {sa : SA} (cf : ∀ ds h, Calm (f ds h)) (hc : CallR X (.type id) (rDn T f)) (hg : Gl X x) (hm : X.mg x = none) (hv : bootBuiltins x = some (.type id))
    (hn : x ≠ "__name__") (hdb : (x == ("__debug__" : Str)) = false) (hs : noStars (e :: es) = true) (ha : PA X (e :: es) (tA' T W sa)) : PE X (.Call (.Name x p) (e :: es) [] pos) (tV T W (sCall f sa)) := by
  simp only [noStars, List.all_cons, Bool.and_eq_true, Bool.not_eq_true'] at hs
  exact PE.imp (pe_callTy hc hg hm hv ha hn hdb (star_no hs.1) (back_no (show noStars es = true from hs.2))) (call_imp cf)
theorem CallR.imp {f : Value} {r r' : List V → Hp → VK → Prop} (h : CallR X f r) (i : ∀ xs H Q, r' xs H Q → r xs H Q) : CallR X f r' := fun pins s σ H xs us Q I rx w => h pins s σ H xs us Q I rx (i xs H Q w)
theorem Reps.is1 {d : D} {xs : List V} (q : Reps T μ H [d] xs) : ∃ v, xs = [v] ∧ Rep T μ H d v := by
  simp only [Reps] at q
  obtain ⟨v, r, rfl, q1, rfl⟩ := q
  exact ⟨v, rfl, q1⟩
theorem Reps.is2 {d e : D} {xs : List V} (q : Reps T μ H [d, e] xs) : ∃ v w, xs = [v, w] ∧ Rep T μ H d v ∧ Rep T μ H e w := by
  simp only [Reps] at q
  obtain ⟨v, r, rfl, q1, w, r2, rfl, q2, rfl⟩ := q
  exact ⟨v, w, rfl, q1, q2⟩
/-- len -/
def lenD (ds : List D) (h : Bs) : R D := match ds with
  | [d] => (match seqOf h d with
    | some xs => .ok (.int xs.length) h
    | none => .no)
  | _ => .no
theorem lenD_calm {ds : List D} : Calm (lenD ds h) := by
  intro x h' z; unfold lenD at z
  split at z
  · split at z <;> cases z
  · cases z
theorem cv_len (hK : X.K = T.K) : CallR X (.builtin "len") (rDn T lenD) :=
  CallR.imp call_len_seq fun xs H Q ⟨μ, h, ds, r, rd, o⟩ => by
    unfold lenD at o
    split at o
    · obtain ⟨v, rfl, rv⟩ := rd.is1
      split at o
      · rename_i ys hy
        obtain ⟨a, vs, rfl, e2, e3⟩ := r.seqOf rv hy
        exact ⟨a, vs, rfl, by rw [hK]; exact e2.symm, o μ H _ Stp.refl r (rep_int (by rw [e3.length]))⟩
      · exact o.elim
    · exact o.elim
/-- abs, int, min and max of two -/
def absD (ds : List D) (h : Bs) : R D := match ds with
  | [.int i] => .ok (.int (if i < 0 then -i else i)) h
  | _ => .no
theorem absD_calm {ds : List D} : Calm (absD ds h) := by
  intro x h' z; unfold absD at z; split at z <;> cases z
theorem cv_abs : CallR X (.builtin "abs") (rDn T absD) :=
  CallR.imp call_abs fun xs H Q ⟨μ, h, ds, r, rd, o⟩ => by
    unfold absD at o
    split at o
    · obtain ⟨v, rfl, rv⟩ := rd.is1
      simp only [Rep] at rv
      subst rv
      exact ⟨_, rfl, o μ H _ Stp.refl r (rep_int rfl)⟩
    · exact o.elim
def intD (ds : List D) (h : Bs) : R D := match ds with
  | [.int i] => .ok (.int i) h
  | [.bl b] => .ok (.int (if b then 1 else 0)) h
  | _ => .no
theorem intD_calm {ds : List D} : Calm (intD ds h) := by
  intro x h' z; unfold intD at z; split at z <;> cases z
theorem cv_int : CallR X (.type "int") (rDn T intD) :=
  CallR.imp call_int1 fun xs H Q ⟨μ, h, ds, r, rd, o⟩ => by
    unfold intD at o
    split at o
    · obtain ⟨v, rfl, rv⟩ := rd.is1
      simp only [Rep] at rv
      subst rv
      exact .inl ⟨_, rfl, o μ H _ Stp.refl r (rep_int rfl)⟩
    · obtain ⟨v, rfl, rv⟩ := rd.is1
      simp only [Rep] at rv
      subst rv
      exact .inr ⟨_, rfl, o μ H _ Stp.refl r (rep_int rfl)⟩
    · exact o.elim
/-- the ints of a list of data -/
def intsD : List D → Option (List Int)
  | [] => some []
  | .int i :: xs => (match intsD xs with | some ns => some (i :: ns) | none => none)
  | _ :: _ => none
theorem intsD_eq : ∀ {xs : List D} {ns : List Int}, intsD xs = some ns → xs = ns.map .int
  | [], ns, e => by simp [intsD] at e; subst e; rfl
  | .int i :: xs, ns, e => by
    simp only [intsD] at e
    cases q : intsD xs with
    | none => rw [q] at e; cases e
    | some ms => rw [q] at e; cases e; rw [intsD_eq q]; rfl
  | .non :: _, _, e | .bl _ :: _, _, e | .str _ :: _, _, e | .tup _ :: _, _, e | .tpl _ :: _, _, e | .lst _ :: _, _, e | .dct _ _ :: _, _, e | .obj _ _ _ :: _, _, e | .ref _ :: _, _, e | .scr _ :: _, _, e => by simp [intsD] at e
theorem intsD_map : ∀ ns : List Int, intsD (ns.map .int) = some ns
  | [] => rfl
  | n :: ns => by simp [intsD, intsD_map ns]
theorem Rel.ints (r : Rel T μ h H) {d : D} {v : V} {xs : List D} {ns : List Int} (q : Rep T μ H d v) (e : VI.seqOf h d = some xs) (e2 : intsD xs = some ns) : ∃ a, v = .ref a ∧ (SqT T.K H a (ns.map V.int) ∨ SqL T.K H a (ns.map V.int)) := by
  obtain ⟨a, vs, e1, e3, e4⟩ := r.seqOf q e
  rw [intsD_eq e2] at e4
  rw [e4.intsOf] at e3
  exact ⟨a, e1, e3⟩
theorem ints_alike (ns : List Int) : PySem.W.AlikeAll (ns.map .int) := by
  refine ⟨fun x hx y hy => ?_, fun x hx => ?_⟩
  · obtain ⟨i, _, rfl⟩ := List.mem_map.mp hx
    obtain ⟨j, _, rfl⟩ := List.mem_map.mp hy
    rfl
  · obtain ⟨i, _, rfl⟩ := List.mem_map.mp hx
    intro z; cases z

theorem ints_reads {pins : List (Addr × Obj)} {s : Shared} (I : Inv X pins σ H s) {ns : List Int} {us : List Value} (rv : Vals (ns.map V.int) us) : ∃ as, ReadsAll s.heap us (ns.map PyData.int) as :=
  Dp.readsAll I _ _ _ (ints_dp (T := ⟨X.K, fun _ => none, fun _ => default, 0, fun _ _ => none, fun _ => false, fun _ _ => false, fun _ => (0, "")⟩) ns).1 rv
theorem reads_int {h : Heap} {v : Value} {i : Int} {bs : List Addr} (r : Reads h v (.int i) bs) : ∃ t, v = .int i t := by
  cases r; exact ⟨_, rfl⟩
theorem depth_ints : ∀ ns : List Int, PyData.depthAll (ns.map .int) = 0
  | [] => by simp [PyData.depthAll]
  | n :: ns => by simp [PyData.depthAll, PyData.depth, depth_ints ns]
def minFold (n : Int) (ns : List Int) : Int := ns.foldl min n
def maxFold (n : Int) (ns : List Int) : Int := ns.foldl max n
/-- min, max -/
def mmD (f2 : Int → Int → Int) (ff : Int → List Int → Int) (ds : List D) (h : Bs) : R D := match ds with
  | [.int i, .int j] => .ok (.int (f2 i j)) h
  | [d] => (match seqOf h d with
    | some xs => (match intsD xs with
      | some (n :: ns) => .ok (.int (ff n ns)) h
      | _ => .no)
    | none => .no)
  | _ => .no
theorem mmD_calm {f2 : Int → Int → Int} {ff : Int → List Int → Int} {ds : List D} : Calm (mmD f2 ff ds h) := by
  intro x h' z; unfold mmD at z
  split at z
  · cases z
  · split at z
    · split at z <;> cases z
    · cases z
  · cases z
theorem cv_min (hK : X.K = T.K) (hc : X.calm = true) (hu : X.A.units + 1 < cLine) : CallR X (.builtin "min") (rDn T (mmD (fun i j => if j < i then j else i) minFold)) := by
  intro pins s σ H xs us Q I rx ⟨μ, h, ds, r, rd, o⟩
  unfold mmD at o
  split at o
  · obtain ⟨v, w, rfl, rv, rw'⟩ := rd.is2
    simp only [Rep] at rv rw'
    subst rv rw'
    exact call_min2 hc pins s σ H _ us Q I rx ⟨_, _, rfl, o μ H _ Stp.refl r (rep_int rfl)⟩
  · obtain ⟨v, rfl, rv⟩ := rd.is1
    split at o
    · rename_i ys hy
      split at o
      · rename_i n ns hn
        obtain ⟨a, rfl, e2⟩ := r.ints rv hy hn
        obtain rfl := Vals.ref1 rx
        have fin : ∀ (i : Nat) (v : Value) (h' : Heap) (tk : Nat) (bs : List Addr), Reads h' v (PySem.W.minD (.int n) (ns.map .int)) bs → (∀ b o, s.heap.get? b = some o → h'.get? b = some o) → EP X pins σ Q v { s with heap := h', toks := tk } := fun i v h' tk bs rr hk => by
          rw [PySem.W.minD_ints] at rr
          obtain ⟨t, rfl⟩ := reads_int rr
          exact ⟨.int _, H, I.kept (t' := tk) hk, ⟨_, rfl⟩, o μ H _ Stp.refl r (rep_int rfl)⟩
        rcases e2 with e2 | e2
        · obtain ⟨its, rv, ht, _⟩ := I.tuple (by rw [hK]; exact e2)
          obtain ⟨as, rr⟩ := ints_reads I rv
          exact PySem.W.min_tuple_data (I.ok.hd hc) ht (x := .int n) (xs := ns.map .int) rr (ints_alike (n :: ns)) (by rw [show PyData.depthAll (PyData.int n :: ns.map .int) = 0 from depth_ints (n :: ns)]; exact hu) fun i v h' tk bs _ => fin i v h' tk bs
        · obtain ⟨its, rv, ht, _⟩ := I.list (by rw [hK]; exact e2)
          obtain ⟨as, rr⟩ := ints_reads I rv
          exact PySem.W.min_list_data (I.ok.hd hc) ht.isList (x := .int n) (xs := ns.map .int) rr (ints_alike (n :: ns)) (by rw [show PyData.depthAll (PyData.int n :: ns.map .int) = 0 from depth_ints (n :: ns)]; exact hu) fun i v h' tk bs _ => fin i v h' tk bs
      · exact o.elim
    · exact o.elim
  · exact o.elim
theorem cv_max (hK : X.K = T.K) (hc : X.calm = true) (hu : X.A.units + 1 < cLine) : CallR X (.builtin "max") (rDn T (mmD (fun i j => if j > i then j else i) maxFold)) := by
  intro pins s σ H xs us Q I rx ⟨μ, h, ds, r, rd, o⟩
  unfold mmD at o
  split at o
  · obtain ⟨v, w, rfl, rv, rw'⟩ := rd.is2
    simp only [Rep] at rv rw'
    subst rv rw'
    exact call_max2 hc pins s σ H _ us Q I rx ⟨_, _, rfl, o μ H _ Stp.refl r (rep_int rfl)⟩
  · obtain ⟨v, rfl, rv⟩ := rd.is1
    split at o
    · rename_i ys hy
      split at o
      · rename_i n ns hn
        obtain ⟨a, rfl, e2⟩ := r.ints rv hy hn
        obtain rfl := Vals.ref1 rx
        have fin : ∀ (i : Nat) (v : Value) (h' : Heap) (tk : Nat) (bs : List Addr), Reads h' v (PySem.W.maxD (.int n) (ns.map .int)) bs → (∀ b o, s.heap.get? b = some o → h'.get? b = some o) → EP X pins σ Q v { s with heap := h', toks := tk } := fun i v h' tk bs rr hk => by
          rw [PySem.W.maxD_ints] at rr
          obtain ⟨t, rfl⟩ := reads_int rr
          exact ⟨.int _, H, I.kept (t' := tk) hk, ⟨_, rfl⟩, o μ H _ Stp.refl r (rep_int rfl)⟩
        rcases e2 with e2 | e2
        · obtain ⟨its, rv, ht, _⟩ := I.tuple (by rw [hK]; exact e2)
          obtain ⟨as, rr⟩ := ints_reads I rv
          exact PySem.W.max_tuple_data (I.ok.hd hc) ht (x := .int n) (xs := ns.map .int) rr (ints_alike (n :: ns)) (by rw [show PyData.depthAll (PyData.int n :: ns.map .int) = 0 from depth_ints (n :: ns)]; exact hu) fun i v h' tk bs _ => fin i v h' tk bs
        · obtain ⟨its, rv, ht, _⟩ := I.list (by rw [hK]; exact e2)
          obtain ⟨as, rr⟩ := ints_reads I rv
          exact PySem.W.max_list_data (I.ok.hd hc) ht.isList (x := .int n) (xs := ns.map .int) rr (ints_alike (n :: ns)) (by rw [show PyData.depthAll (PyData.int n :: ns.map .int) = 0 from depth_ints (n :: ns)]; exact hu) fun i v h' tk bs _ => fin i v h' tk bs
      · exact o.elim
    · exact o.elim
  · exact o.elim
/-- sum -/
def sumD (ds : List D) (h : Bs) : R D := match ds with
  | [d] => (match seqOf h d with
    | some xs => (match intsD xs with
      | some ns => .ok (.int ns.sum) h
      | _ => .no)
    | none => .no)
  | _ => .no
theorem sumD_calm {ds : List D} : Calm (sumD ds h) := by
  intro x h' z; unfold sumD at z
  split at z
  · split at z
    · split at z <;> cases z
    · cases z
  · cases z
theorem cv_sum (hK : X.K = T.K) (hc : X.calm = true) : CallR X (.builtin "sum") (rDn T sumD) := by
  intro pins s σ H xs us Q I rx ⟨μ, h, ds, r, rd, o⟩
  unfold sumD at o
  split at o
  · obtain ⟨v, rfl, rv⟩ := rd.is1
    split at o
    · rename_i ys hy
      split at o
      · rename_i ns hn
        obtain ⟨a, rfl, e2⟩ := r.ints rv hy hn
        rcases e2 with e2 | e2
        · obtain rfl := Vals.ref1 rx
          obtain ⟨its, rv, ht, _⟩ := I.tuple (by rw [hK]; exact e2)
          have hi := rv.ints
          obtain ⟨xs, e⟩ := hi.allInts.items
          have hn : numsOf (intItems xs).toList = ns := by rw [← e]; exact hi.numsOf
          rw [nums_intItems] at hn
          have ht' := ht
          rw [e] at ht'
          refine PySem.W.ktm_sumG (I.ok.hd hc) ht' fun h' tk t' hk => ?_
          rw [preSum_eq, List.take_of_length_le (by simp), hn]
          exact ⟨.int _, H, I.kept (t' := tk) hk, ⟨_, rfl⟩, o μ H _ Stp.refl r (rep_int rfl)⟩
        · exact cr_sum hc pins s σ H _ us Q I rx ⟨a, ns, rfl, by rw [hK]; exact e2, o μ H _ Stp.refl r (rep_int rfl)⟩
      · exact o.elim
    · exact o.elim
  · exact o.elim
end
end VI
end
section
namespace VI
open PySem PySem.Spec PyProof.Rows L2
def F.bind (f : F) (g : Ev → Bs → F) : F := match f with
  | .nx ρ h => g ρ h
  | f => f
def R.toF {α : Type} (r : R α) (ρ : Ev) (k : α → Bs → F) : F := match r with
  | .ok a h => k a h
  | .ex x h => .ex x ρ h
  | .no => .no
section
variable {X : Cx} {T : Tb} {W : WX} {μ μ' : Mu} {H H' : Hp} {h : Bs} {σ : Sg} {ρ : Ev}
theorem OutS.mono {D D' : Ends} {f : F} (o : OutS T W μ H D f) (hn : ∀ σ H, D.nx σ H → D'.nx σ H) (hr : ∀ v H, D.rt v H → D'.rt v H) (hb : ∀ σ H, D.bk σ H → D'.bk σ H) (hc : ∀ σ H, D.ct σ H → D'.ct σ H) : OutS T W μ H D' f := by
  cases f with
  | nx ρ h => exact fun μ1 H1 σ1 a b c => hn _ _ (o μ1 H1 σ1 a b c)
  | bk ρ h => exact fun μ1 H1 σ1 a b c => hb _ _ (o μ1 H1 σ1 a b c)
  | ct ρ h => exact fun μ1 H1 σ1 a b c => hc _ _ (o μ1 H1 σ1 a b c)
  | rt d h => exact fun μ1 H1 σ1 a b c => hr _ _ (o μ1 H1 σ1 a b c)
  | ex x ρ h => exact o
  | no => exact o
theorem OutS.bind {D : Ends} {f : F} {g : Ev → Bs → F} (o : OutS T W μ H D (f.bind g)) :
    OutS T W μ H { D with nx := fun σ H1 => ∃ μ1 ρ1 h1, Stp μ H μ1 H1 ∧ Rel T μ1 h1 H1 ∧ RepE T μ1 H1 ρ1 σ ∧ OutS T W μ1 H1 D (g ρ1 h1) } f := by
  cases f with
  | nx ρ h => exact fun μ1 H1 σ1 a b c => ⟨μ1, ρ, h, a, b, c, OutS.step o a⟩
  | bk ρ h => exact o
  | ct ρ h => exact o
  | rt d h => exact o
  | ex x ρ h => exact o
  | no => exact o
/-- an expression's value, in a statement -/
theorem OutS.ofV {D : Ends} {r : R VI.D} {k : VI.D → Bs → F} (e : RepE T μ H ρ σ) (o : OutS T W μ H D (r.toF ρ k)) :
    OutV T W σ μ H (fun v H1 => ∃ μ1 d h1, Stp μ H μ1 H1 ∧ Rel T μ1 h1 H1 ∧ RepE T μ1 H1 ρ σ ∧ Rep T μ1 H1 d v ∧ OutS T W μ1 H1 D (k d h1)) r := by
  cases r with
  | ok d h => exact fun μ1 H1 v s r1 rv => ⟨μ1, d, h, s, r1, e.step s, rv, OutS.step o s⟩
  | ex x h => exact fun μ1 H1 c d s r1 rx => o μ1 H1 σ c d s r1 (e.step s) rx
  | no => exact o
theorem OutS.ofB {D : Ends} {r : R Bool} {k : Bool → Bs → F} (e : RepE T μ H ρ σ) (o : OutS T W μ H D (r.toF ρ k)) :
    OutB T W σ μ H (fun d H1 => ∃ μ1 h1, Stp μ H μ1 H1 ∧ Rel T μ1 h1 H1 ∧ RepE T μ1 H1 ρ σ ∧ OutS T W μ1 H1 D (k d h1)) r := by
  cases r with
  | ok d h => exact fun μ1 H1 s r1 => ⟨μ1, h, s, r1, e.step s, OutS.step o s⟩
  | ex x h => exact fun μ1 H1 c d s r1 rx => o μ1 H1 σ c d s r1 (e.step s) rx
  | no => exact o
theorem OutS.ofA {D : Ends} {r : R (List VI.D)} {k : List VI.D → Bs → F} (e : RepE T μ H ρ σ) (o : OutS T W μ H D (r.toF ρ k)) :
    OutA T W σ μ H (fun v H1 => ∃ μ1 d h1, Stp μ H μ1 H1 ∧ Rel T μ1 h1 H1 ∧ RepE T μ1 H1 ρ σ ∧ Reps T μ1 H1 d v ∧ OutS T W μ1 H1 D (k d h1)) r := by
  cases r with
  | ok d h => exact fun μ1 H1 v s r1 rv => ⟨μ1, d, h, s, r1, e.step s, rv, OutS.step o s⟩
  | ex x h => exact fun μ1 H1 c d s r1 rx => o μ1 H1 σ c d s r1 (e.step s) rx
  | no => exact o

/-! ### blocks -/
def ssNil : SS := fun ρ h => .nx ρ h
def ssCons (s t : SS) : SS := fun ρ h => (s ρ h).bind t
theorem psv_nil : PSs X [] (tS' T W ssNil) := PSs.imp pss_nil fun D σ H ⟨μ, ρ, h, r, e, o⟩ => o μ H σ Stp.refl r e
theorem psv_cons {st : Stmt} {rest : List Stmt} {s t : SS} (h1 : PS X st (tS' T W s)) (h2 : PSs X rest (tS' T W t)) : PSs X (st :: rest) (tS' T W (ssCons s t)) :=
  PSs.imp (pss_cons h1 h2) fun D σ H ⟨μ, ρ, h, r, e, o⟩ => by
    refine ⟨μ, ρ, h, r, e, OutS.mono (OutS.bind o) (fun σ1 H1 ⟨μ1, ρ1, h1, _, r1, e1, o1⟩ => ⟨μ1, ρ1, h1, r1, e1, o1⟩) (fun _ _ z => z) (fun _ _ z => z) (fun _ _ z => z)⟩
variable {pos : Pos} {a b c : Expr} {sa sb sc : SV}
theorem psv_pass : PS X (.Pass pos) (tS' T W ssNil) := PS.imp ps_pass fun D σ H ⟨μ, ρ, h, r, e, o⟩ => o μ H σ Stp.refl r e
theorem psv_break : PS X (.Break pos) (tS' T W fun ρ h => .bk ρ h) := PS.imp ps_break fun D σ H ⟨μ, ρ, h, r, e, o⟩ => o μ H σ Stp.refl r e
theorem psv_continue : PS X (.Continue pos) (tS' T W fun ρ h => .ct ρ h) := PS.imp ps_continue fun D σ H ⟨μ, ρ, h, r, e, o⟩ => o μ H σ Stp.refl r e
def ssExpr (s : SV) : SS := fun ρ h => (s ρ h).toF ρ fun _ h1 => .nx ρ h1
def isComp : Expr → Bool
  | .ListComp .. => true
  | .SetComp .. => true
  | .DictComp .. => true
  | _ => false
theorem sw_no {e : Expr} {t : Option Expr} {l : Nat} {env : Env} (hc : isComp e = false) : swapsWith e t l env = pure false := by
  cases e <;> first | rfl | (exact Bool.noConfusion hc)
theorem psv_expr (hc : isComp a = false) (ha : PE X a (tV T W sa)) : PS X (.Expr a pos) (tS' T W (ssExpr sa)) :=
  PS.imp (ps_expr ha (sw_no hc)) fun D σ H ⟨μ, ρ, h, r, e, o⟩ => by
    refine ⟨μ, ρ, h, r, e, OutV.mono (OutS.ofV e o) ?_⟩
    rintro v H1 ⟨μ1, d, h1, s1, r1, e1, rv, o1⟩
    exact o1 μ1 H1 σ Stp.refl r1 e1
def ssRet (s : SV) : SS := fun ρ h => (s ρ h).toF ρ fun d h1 => .rt d h1
theorem psv_ret (ha : PE X a (tV T W sa)) : PS X (.Return (some a) pos) (tS' T W (ssRet sa)) :=
  PS.imp (ps_ret ha) fun D σ H ⟨μ, ρ, h, r, e, o⟩ => by
    refine ⟨μ, ρ, h, r, e, OutV.mono (OutS.ofV e o) ?_⟩
    rintro v H1 ⟨μ1, d, h1, s1, r1, e1, rv, o1⟩
    exact o1 μ1 H1 v Stp.refl r1 rv
theorem psv_retN : PS X (.Return none pos) (tS' T W fun _ h => .rt .non h) := PS.imp ps_retN fun D σ H ⟨μ, ρ, h, r, e, o⟩ => o μ H .non Stp.refl r rep_nil
def ssIf (s : SV) (t u : SS) : SS := fun ρ h => (sTru s ρ h).toF ρ fun b h1 => if b then t ρ h1 else u ρ h1
theorem psv_if {x y : List Stmt} {t u : SS} (hc : PT X c (tB' T W (sTru sc))) (hx : PSs X x (tS' T W t)) (hy : PSs X y (tS' T W u)) : PS X (.If c x y pos) (tS' T W (ssIf sc t u)) :=
  PS.imp (ps_if hc hx hy) fun D σ H ⟨μ, ρ, h, r, e, o⟩ => by
    refine ⟨μ, ρ, h, r, e, OutB.mono (OutS.ofB e o) ?_⟩
    rintro b H1 ⟨μ1, h1, s1, r1, e1, o1⟩
    cases b with
    | true => exact ⟨μ1, ρ, h1, r1, e1, o1⟩
    | false => exact ⟨μ1, ρ, h1, r1, e1, o1⟩

/-! ### targets -/
/-- what a target does with a value: the new slots -/
abbrev SG := VI.D → Ev → Bs → R Ev
abbrev SGs := List VI.D → Ev → Bs → R Ev
def OutG (T : Tb) (own : List Nat) (σ : Sg) (μ : Mu) (H : Hp) (Q : Sg → Hp → Prop) : R Ev → Prop
  | .ok ρ h' => ∀ μ' H' σ', Stp μ H μ' H' → Rel T μ' h' H' → RepE T μ' H' ρ σ' → wipe σ' own = wipe σ own → Q σ' H'
  | _ => False
def tG' (T : Tb) (own : List Nat) (s : SG) : TG := fun v σ H Q => ∃ μ ρ h d, Rel T μ h H ∧ RepE T μ H ρ σ ∧ Rep T μ H d v ∧ OutG T own σ μ H Q (s d ρ h)
def tGs' (T : Tb) (own : List Nat) (s : SGs) : TGs := fun vs σ H Q => ∃ μ ρ h ds, Rel T μ h H ∧ RepE T μ H ρ σ ∧ Reps T μ H ds vs ∧ OutG T own σ μ H Q (s ds ρ h)
variable {own : List Nat}
theorem OutG.step {Q : Sg → Hp → Prop} {r : R Ev} (o : OutG T own σ μ H Q r) (s : Stp μ H μ' H') : OutG T own σ μ' H' Q r := by
  cases r with
  | ok ρ h => exact fun μ2 H2 σ2 s2 => o μ2 H2 σ2 (s.trans s2)
  | ex x h => exact o
  | no => exact o
theorem OutG.mono {Q Q' : Sg → Hp → Prop} {r : R Ev} (o : OutG T own σ μ H Q r) (i : ∀ σ H, Q σ H → Q' σ H) : OutG T own σ μ H Q' r := by
  cases r with
  | ok ρ h => exact fun μ2 H2 σ2 a b c d => i _ _ (o μ2 H2 σ2 a b c d)
  | ex x h => exact o
  | no => exact o
theorem OutG.sig {Q : Sg → Hp → Prop} {r : R Ev} {σ1 : Sg} (o : OutG T own σ μ H Q r) (e : wipe σ1 own = wipe σ own) : OutG T own σ1 μ H Q r := by
  cases r with
  | ok ρ h => exact fun μ2 H2 σ2 a b c d => o μ2 H2 σ2 a b c (d.trans e)
  | ex x h => exact o
  | no => exact o
theorem OutG.bind {Q : Sg → Hp → Prop} {r : R Ev} {g : Ev → Bs → R Ev} (o : OutG T own σ μ H Q (r.bind g)) :
    OutG T own σ μ H (fun σ1 H1 => ∃ μ1 ρ1 h1, Stp μ H μ1 H1 ∧ Rel T μ1 h1 H1 ∧ RepE T μ1 H1 ρ1 σ1 ∧ OutG T own σ1 μ1 H1 Q (g ρ1 h1)) r := by
  cases r with
  | ok ρ h => exact fun μ1 H1 σ1 a b c d => ⟨μ1, ρ, h, a, b, c, (OutG.step o a).sig d⟩
  | ex x h => exact o
  | no => exact o
theorem OutG.ofV {Q : Sg → Hp → Prop} {r : R VI.D} {k : VI.D → Bs → R Ev} (e : RepE T μ H ρ σ) (o : OutG T own σ μ H Q (r.bind k)) :
    OutV T W σ μ H (fun v H1 => ∃ μ1 d h1, Stp μ H μ1 H1 ∧ Rel T μ1 h1 H1 ∧ RepE T μ1 H1 ρ σ ∧ Rep T μ1 H1 d v ∧ OutG T own σ μ1 H1 Q (k d h1)) r := by
  cases r with
  | ok d h => exact fun μ1 H1 v s r1 rv => ⟨μ1, d, h, s, r1, e.step s, rv, OutG.step o s⟩
  | ex x h => exact o.elim
  | no => exact o
theorem wipe_set {i : Nat} {v : Option V} : ∀ {own : List Nat} {σ : Sg}, i ∈ own → wipe (σ.set i v) own = wipe σ own
  | o :: os, σ, h => by
    unfold wipe
    by_cases hi : i ∈ os
    · rw [wipe_set hi]
    · have e : i = o := by
        rcases List.mem_cons.mp h with z | z
        · exact z
        · exact absurd z hi
      subst e
      have key : ∀ (os : List Nat), i ∉ os → wipe (σ.set i v) os = (wipe σ os).set i v := by
        intro os
        induction os with
        | nil => intro _; rfl
        | cons o os ih =>
          intro hn
          unfold wipe
          rw [ih (fun z => hn (List.mem_cons_of_mem _ z)), List.set_comm]
          exact fun z => hn (by rw [z]; exact List.mem_cons_self)
      rw [key os hi, List.set_set]
theorem PG.imp {t t' : TG} (h : PG X a t) (i : ∀ v σ H Q, t' v σ H Q → t v σ H Q) : PG X a t' := ⟨fun pins s σ H v u Q I r w => h.run pins s σ H v u Q I r (i v σ H Q w)⟩
theorem PGs.imp {es : List Expr} {t t' : TGs} (h : PGs X es t) (i : ∀ v σ H Q, t' v σ H Q → t v σ H Q) : PGs X es t' := ⟨fun pins s σ H v u Q I r w => h.run pins s σ H v u Q I r (i v σ H Q w)⟩
def sgName (i : Nat) : SG := fun d ρ h => .ok (ρ.set i (some d)) h
theorem pgv_name {i : Nat} {x : Str} (hN : X.N.Nodup) (hi : X.N[i]? = some x) (hx : Loc X.env.scope x) (hf : X.fn x = true ∨ X.env.scope.names.lookup x = some .local) (ho : i ∈ own) : PG X (.Name x pos) (tG' T own (sgName i)) :=
  PG.imp (pg_name hN hi hx hf) fun v σ H Q ⟨μ, ρ, h, d, r, e, rv, o⟩ => o μ H _ Stp.refl r (e.set rv) (wipe_set ho)
def sgNil : SGs := fun ds ρ h => match ds with
  | [] => .ok ρ h
  | _ => .no
def sgCons (s : SG) (t : SGs) : SGs := fun ds ρ h => match ds with
  | d :: r => (s d ρ h).bind (t r)
  | [] => .no
theorem pgsv_nil : PGs X [] (tGs' T own sgNil) := PGs.imp pgs_nil fun v σ H Q ⟨μ, ρ, h, ds, r, e, rv, o⟩ => by
  cases ds with
  | nil => simp only [Reps] at rv; exact ⟨rv, o μ H σ Stp.refl r e rfl⟩
  | cons _ _ => exact o.elim
def noStarT : Expr → Bool
  | .Starred .. => false
  | _ => true
theorem asg_one {e : Expr} {es : List Expr} {env : Env} (hs : noStarT e = true) : (assignEach (e :: es) env).map (·.2) = assign e env :: (assignEach es env).map (·.2) := by
  cases e <;> first | rfl | (exact Bool.noConfusion hs)
theorem pgsv_cons {es : List Expr} {s : SG} {t : SGs} (hs : noStarT a = true) (h1 : PG X a (tG' T own s)) (h2 : PGs X es (tGs' T own t)) : PGs X (a :: es) (tGs' T own (sgCons s t)) :=
  PGs.imp (pgs_cons h1 h2 (asg_one hs)) fun v σ H Q ⟨μ, ρ, h, ds, r, e, rv, o⟩ => by
    cases ds with
    | nil => exact o.elim
    | cons d ds =>
      simp only [Reps] at rv
      obtain ⟨w, vr, rfl, q1, q2⟩ := rv
      refine ⟨w, vr, rfl, μ, ρ, h, d, r, e, q1, OutG.mono (OutG.bind o) (fun σ1 H1 ⟨μ1, ρ1, h1, s1, r1, e1, o1⟩ => ?_)⟩
      exact ⟨μ1, ρ1, h1, ds, r1, e1, Reps.step s1 _ _ q2, o1⟩
def sgTup (n : Nat) (t : SGs) : SG := fun d ρ h => match d with
  | .tup xs => if xs.length = n then t xs ρ h else .no
  | .tpl xs => if xs.length = n then t xs ρ h else .no
  | _ => .no
def noStarTs (es : List Expr) : Bool := es.all noStarT
theorem asg_len {env : Env} : ∀ {es : List Expr}, noStarTs es = true → (assignEach es env).length = es.length ∧ (assignEach es env).findIdx? (·.1) = none
  | [], _ => ⟨rfl, rfl⟩
  | e :: es, hs => by
    simp only [noStarTs, List.all_cons, Bool.and_eq_true] at hs
    obtain ⟨h1, h2⟩ := asg_len (env := env) (show noStarTs es = true from hs.2)
    have e1 : assignEach (e :: es) env = (false, assign e env) :: assignEach es env := by
      have := hs.1
      cases e <;> first | rfl | (exact Bool.noConfusion this)
    rw [e1]
    refine ⟨by simp [h1], ?_⟩
    rw [List.findIdx?_cons]
    simp [h2]
theorem pgv_tup {es : List Expr} {k : Nat} {t : SGs} (hc : X.calm = true) (hs : noStarTs es = true) (h : PGs X es (tGs' T own t)) : PG X (.Tuple es k pos) (tG' T own (sgTup es.length t)) :=
  PG.imp (pg_tup (n := es.length) hc h (asg_len hs).1 (asg_len hs).2) fun v σ H Q ⟨μ, ρ, h, d, r, e, rv, o⟩ => by
    cases d with
    | tup xs =>
      unfold sgTup at o
      simp only at o
      split at o
      · rename_i hl
        obtain ⟨a, vs, e1, e2, _, e3⟩ := rv.tupOf
        exact ⟨a, vs, e1, SqT.of e2, by rw [← e3.length]; exact hl, μ, ρ, h, xs, r, e, e3, o⟩
      · exact o.elim
    | tpl xs =>
      unfold sgTup at o
      simp only at o
      split at o
      · rename_i hl
        obtain ⟨a, ob, vs, e1, e2, _, _, e3⟩ := rv.tplOf
        exact ⟨a, vs, e1, SqT.fz e2, by rw [← e3.length]; exact hl, μ, ρ, h, xs, r, e, e3, o⟩
      · exact o.elim
    | _ => exact o.elim

/-! ### writing boxes -/
def okW (h : Bs) (b : Nat) (d : VI.D) : Bool := match h.fbs with
  | [] => true
  | k :: _ => decide (k ≤ b) || noR d
theorem okW_bel (r : Rel T μ h H) {b : Nat} {d : VI.D} (e : okW h b d = true) : ∀ k ∈ h.fbs, b < k → bel k d := by
  intro k hk hb
  unfold okW at e
  have o := r.ord
  cases q : h.fbs with
  | nil => rw [q] at hk; cases hk
  | cons k0 ks =>
    rw [q] at hk e o
    simp only [Bool.or_eq_true, decide_eq_true_eq] at e
    rcases e with e | e
    · exfalso
      rcases List.mem_cons.mp hk with z | z
      · subst z; omega
      · have : k0 ≥ k := (List.pairwise_cons.mp o).1 k z
        omega
    · exact noR.bel d e
theorem bels_set {k : Nat} {d : VI.D} (hd : bel k d) : ∀ {xs : List VI.D} {j : Nat}, bels k xs → bels k (xs.set j d)
  | [], _, h => h
  | x :: xs, 0, h => by simp only [bels] at h; simp only [List.set_cons_zero, bels]; exact ⟨hd, h.2⟩
  | x :: xs, j + 1, h => by simp only [bels] at h; simp only [List.set_cons_succ, bels]; exact ⟨h.1, bels_set hd h.2⟩
theorem bels_append {k : Nat} : ∀ {xs ys : List VI.D}, bels k xs → bels k ys → bels k (xs ++ ys)
  | [], _, _, h => h
  | x :: xs, ys, h, h2 => by simp only [bels] at h; simp only [List.cons_append, bels]; exact ⟨h.1, bels_append h.2 h2⟩
theorem bels_sub {k : Nat} {xs ys : List VI.D} (s : xs.Sublist ys) : bels k ys → bels k xs := by
  induction s with
  | slnil => exact fun h => h
  | cons a s ih => exact fun h => by simp only [bels] at h; exact ih h.2
  | cons_cons a s ih => exact fun h => by simp only [bels] at h ⊢; exact ⟨h.1, ih h.2⟩
/-- a list box is given other items -/
def putL (b : Nat) (xs : List VI.D) (h : Bs) : Bs := { h with bs := h.bs.set b (.lst false xs) }
theorem Rel.putL (r : Rel T μ h H) {b : Nat} {a : Addr} {xs ys : List VI.D} {vs : List V} (hb : h.bs[b]? = some (.lst false xs)) (ha : μ.ad[b]? = some a) (q : Reps T μ H ys vs) (hw : ∀ k ∈ h.fbs, b < k → bels k xs → bels k ys) :
    Rel T μ (VI.putL b ys h) (upd H a (.lst vs)) ∧ Stp μ H μ (upd H a (.lst vs)) := by
  have hlk : ∀ zs, h.bs[b]? ≠ some (.lst true zs) := fun zs z => by rw [hb] at z; cases z
  have st : Stp μ H μ (upd H a (.lst vs)) := Stp.put (List.mem_of_getElem? ha) (r.free ha hlk)
  exact ⟨r.put ha hlk (fun _ z => by cases z) ⟨vs, upd_same, Reps.step st _ _ q⟩ fun k hk hb' => hw k hk hb' (r.wf k hk b _ hb' hb), st⟩
theorem Rel.boxAt (r : Rel T μ h H) {b : Nat} {v : V} {lk : Bool} {xs : List VI.D} (hb : h.bs[b]? = some (.lst lk xs)) (q : Rep T μ H (.ref b) v) : ∃ a vs, μ.ad[b]? = some a ∧ v = .ref a ∧ H a = some (.lst vs) ∧ Reps T μ H xs vs := by
  simp only [Rep] at q
  obtain ⟨a, e1, e2⟩ := q
  obtain ⟨vs, e3, q⟩ := r.at_ _ _ a hb e1
  exact ⟨a, vs, e1, e2, e3, q⟩
/-- o[i] = v -/
def setD (o i v : VI.D) (h : Bs) : R VI.D := match o, i with
  | .ref b, .int k => (match h.bs[b]? with
    | some (.lst false xs) => (match ixN xs.length k with
      | some j => if okW h b v then .ok .non (putL b (xs.set j v) h) else .no
      | none => .no)
    | _ => .no)
  | _, _ => .no
theorem setD_calm {o i v : VI.D} : Calm (setD o i v h) := by
  intro x h' z; unfold setD at z
  repeat' split at z
  all_goals cases z
def rSet3 (T : Tb) : TSet := fun o i v H Q => ∃ μ h od id vd, Rel T μ h H ∧ Rep T μ H od o ∧ Rep T μ H id i ∧ Rep T μ H vd v ∧ OutV T noW [] μ H (fun _ H' => Q H') (setD od id vd h)
theorem PSet.imp {t t' : TSet} (h : PSet X t) (i : ∀ o j v H Q, t' o j v H Q → t o j v H Q) : PSet X t' := fun pins s σ H o j v ov iv u Q I r1 r2 r3 w => h pins s σ H o j v ov iv u Q I r1 r2 r3 (i o j v H Q w)
theorem ov_set : PSet X (rSet3 T) := PSet.imp set_list fun o i v H Q ⟨μ, h, od, id, vd, r, ro, ri, rv, out⟩ => by
  unfold setD at out
  split at out
  · rename_i b k
    simp only [Rep] at ri
    split at out
    · rename_i xs hb
      split at out
      · rename_i j hj
        split at out
        · rename_i hw
          obtain ⟨a, vs, e1, e2, e3, q⟩ := r.boxAt hb ro
          obtain ⟨r', st⟩ := r.putL hb e1 (q.set rv j) (fun k hk hb' hx => bels_set (okW_bel r hw k hk hb') hx)
          exact ⟨a, vs, k, j, e2, ri, e3, by rw [← q.length]; exact hj, out μ _ .non st r' rep_nil⟩
        · exact out.elim
      · exact out.elim
    · exact out.elim
  · exact out.elim
def sgSub (so si : SV) : SG := fun d ρ h => (so ρ h).bind fun o h1 => (si ρ h1).bind fun i h2 => (setD o i d h2).bind fun _ h3 => .ok ρ h3
theorem pgv_sub (hs : noSlice b = true) (ho : PE X a (tV T W sa)) (hi : PE X b (tV T W sb)) : PG X (.Subscript a b pos) (tG' T own (sgSub sa sb)) :=
  PG.imp (pg_sub ho hi ov_set (by cases b <;> first | (exact fun _ => rfl) | (exact Bool.noConfusion hs))) fun v σ H Q ⟨μ, ρ, h, d, r, e, rv, o⟩ => by
    refine ⟨μ, ρ, h, r, e, OutV.mono (OutG.ofV e o) ?_⟩
    rintro v1 H1 ⟨μ1, d1, h1, s1, r1, e1, rv1, o1⟩
    refine ⟨μ1, ρ, h1, r1, e1, OutV.mono (OutG.ofV e1 o1) ?_⟩
    rintro v2 H2 ⟨μ2, d2, h2, s2, r2, e2, rv2, o2⟩
    refine ⟨μ2, h2, d1, d2, d, r2, Rep.step s2 _ _ rv1, rv2, Rep.step s2 _ _ (Rep.step s1 _ _ rv), ?_⟩
    cases q : setD d1 d2 d h2 with
    | no => rw [q] at o2; exact o2
    | ex x h3 => exact absurd q (setD_calm x h3)
    | ok z h3 => rw [q] at o2; exact fun μ3 H3 v3 s3 r3 _ => o2 μ3 H3 σ s3 r3 (e2.step s3) rfl
/-! ### assignments -/
/-- no exception passes a target -/
def R.toF' (r : R Ev) : F := match r with
  | .ok ρ h => .nx ρ h
  | _ => .no
def ssAsg (s : SV) (g : SG) : SS := fun ρ h => (s ρ h).toF ρ fun d h1 => (g d ρ h1).toF'
theorem OutS.toG {D : Ends} {r : R Ev} (o : OutS T W μ H D r.toF') : OutG T own σ μ H D.nx r := by
  cases r with
  | ok ρ h => exact fun μ1 H1 σ1 a b c _ => o μ1 H1 σ1 a b c
  | ex x h => exact o
  | no => exact o
theorem asg_imp {g : SG} : ∀ D σ H, tS' T W (ssAsg sa g) D σ H → tAsg (tV T W sa) (tG' T own g) D σ H := fun D σ H ⟨μ, ρ, h, r, e, o⟩ => by
  refine ⟨μ, ρ, h, r, e, OutV.mono (OutS.ofV e o) ?_⟩
  rintro v H1 ⟨μ1, d, h1, s1, r1, e1, rv, o1⟩
  exact ⟨μ1, ρ, h1, d, r1, e1, rv, OutS.toG o1⟩
theorem asgN_imp {i : Nat} : ∀ D σ H, tS' T W (ssAsg sa (sgName i)) D σ H → tAsg (tV T W sa) (gName i) D σ H := fun D σ H ⟨μ, ρ, h, r, e, o⟩ => by
  refine ⟨μ, ρ, h, r, e, OutV.mono (OutS.ofV e o) ?_⟩
  rintro v H1 ⟨μ1, d, h1, s1, r1, e1, rv, o1⟩
  exact o1 μ1 H1 _ Stp.refl r1 (e1.set rv)
/-- x = e, e no comprehension -/
theorem psv_set {i : Nat} {x : Str} {pos' : Pos} (hN : X.N.Nodup) (hi : X.N[i]? = some x) (hx : Loc X.env.scope x) (hf : X.fn x = true ∨ X.env.scope.names.lookup x = some .local) (hc : isComp a = false) (ha : PE X a (tV T W sa)) :
    PS X (.Assign [.Name x pos'] a pos) (tS' T W (ssAsg sa (sgName i))) := PS.imp (ps_set hN hi hx ha (sw_no hc) hf) asgN_imp
/-- another single target -/
theorem psv_asg {tg : Expr} {g : SG} (hc : isComp a = false) (hw : swappedStores [tg] a X.env = pure none) (hs : noStarT tg = true) (ha : PE X a (tV T W sa)) (hg : PG X tg (tG' T own g)) : PS X (.Assign [tg] a pos) (tS' T W (ssAsg sa g)) :=
  PS.imp (ps_asg ha hg (sw_no hc) hw (asg_one hs)) asg_imp
end
end VI
end
section
namespace VI
open PySem PySem.Spec PyProof.Rows L2
/-- a box is locked, unlocked -/
def lockB (b : Nat) (h : Bs) : Bs := match h.bs[b]? with
  | some (.lst _ xs) => { h with bs := h.bs.set b (.lst true xs) }
  | _ => h
def unlB (b : Nat) (h : Bs) : Bs := match h.bs[b]? with
  | some (.lst _ xs) => { h with bs := h.bs.set b (.lst false xs) }
  | _ => h
def lockO (l : Option Nat) (h : Bs) : Bs := match l with
  | some b => lockB b h
  | none => h
def unlO (l : Option Nat) (h : Bs) : Bs := match l with
  | some b => unlB b h
  | none => h
def unlF (l : Option Nat) (f : F) : F := match f with
  | .nx ρ h => .nx ρ (unlO l h)
  | .bk ρ h => .bk ρ (unlO l h)
  | .ct ρ h => .ct ρ (unlO l h)
  | .rt d h => .rt d (unlO l h)
  | .ex x ρ h => .ex x ρ (unlO l h)
  | .no => .no
def unlR {α : Type} (l : Option Nat) (r : R α) : R α := match r with
  | .ok a h => .ok a (unlO l h)
  | .ex x h => .ex x (unlO l h)
  | .no => .no
section
variable {X : Cx} {T : Tb} {W : WX} {μ μ' : Mu} {H H' : Hp} {h : Bs} {σ : Sg} {ρ : Ev}
/-! ### Rep looks at the places alone -/
mutual
theorem Rep.ad (e : μ'.ad = μ.ad) (ep : μ'.pr = μ.pr) : ∀ (d : D) (v : V), Rep T μ H d v → Rep T μ' H d v
  | .non, v, q => by simpa only [Rep] using q
  | .bl b, v, q => by simpa only [Rep] using q
  | .int b, v, q => by simpa only [Rep] using q
  | .str b, v, q => by simpa only [Rep] using q
  | .tup xs, v, q => by
    simp only [Rep] at q ⊢
    obtain ⟨a, vs, e1, e2, e3, e4⟩ := q
    exact ⟨a, vs, e1, e2, ⟨by rw [e]; exact e3.1, by rw [ep]; exact e3.2⟩, Reps.ad e ep xs vs e4⟩
  | .tpl xs, v, q => by
    simp only [Rep] at q ⊢
    obtain ⟨a, o, vs, e1, e2, c, e3, e4⟩ := q
    exact ⟨a, o, vs, e1, e2, c, ⟨by rw [e]; exact e3.1, by rw [ep]; exact e3.2⟩, Reps.ad e ep xs vs e4⟩
  | .lst xs, v, q => by
    simp only [Rep] at q ⊢
    obtain ⟨a, vs, e1, e2, e3, e4⟩ := q
    exact ⟨a, vs, e1, e2, ⟨by rw [e]; exact e3.1, by rw [ep]; exact e3.2⟩, Reps.ad e ep xs vs e4⟩
  | .dct ks vs, v, q => by simp only [Rep] at q
  | .obj c fs xs, v, q => by
    simp only [Rep] at q ⊢
    obtain ⟨a, C, dx, vs, e1, e2, e3, e4, e5, e6⟩ := q
    exact ⟨a, C, dx, vs, e1, e2, e3, ⟨by rw [e]; exact e4.1, by rw [ep]; exact e4.2⟩, e5, Reps.ad e ep xs vs e6⟩
  | .ref b, v, q => by simp only [Rep] at q ⊢; rw [e]; exact q
  | .scr ns, v, q => by
    simp only [Rep] at q ⊢
    obtain ⟨a, e1, e2⟩ := q
    refine ⟨a, e1, ?_⟩
    rcases e2 with ⟨z1, z2⟩ | z
    · exact .inl ⟨z1, by rw [e]; exact z2.1, by rw [ep]; exact z2.2⟩
    · exact .inr z
theorem Reps.ad (e : μ'.ad = μ.ad) (ep : μ'.pr = μ.pr) : ∀ (d : List D) (v : List V), Reps T μ H d v → Reps T μ' H d v
  | [], v, q => by simpa only [Reps] using q
  | x :: xs, v, q => by
    simp only [Reps] at q ⊢
    obtain ⟨w, r, e1, q1, q2⟩ := q
    exact ⟨w, r, e1, Rep.ad e ep x w q1, Reps.ad e ep xs r q2⟩
end
theorem RepB.ad (e : μ'.ad = μ.ad) (ep : μ'.pr = μ.pr) {b : Bx} {a : Addr} (q : RepB T μ H b a) : RepB T μ' H b a := by
  cases b with
  | lst lk xs => obtain ⟨vs, e1, q⟩ := q; exact ⟨vs, e1, Reps.ad e ep _ _ q⟩
  | dct lk ks vs => exact q.elim
  | obj c fs xs => obtain ⟨C, dx, vs, e1, e2, e3, q⟩ := q; exact ⟨C, dx, vs, e1, e2, e3, Reps.ad e ep _ _ q⟩
  | tbl t => obtain ⟨a1, ps, e1, e2, e3⟩ := q; exact ⟨a1, ps, e1, e2, fun pos cv q => by obtain ⟨c, f1, f2, f3⟩ := e3 pos cv q; exact ⟨c, f1, f2, by rw [e]; exact f3.1, by rw [ep]; exact f3.2⟩⟩
theorem RepE.ad (e : μ'.ad = μ.ad) (ep : μ'.pr = μ.pr) (q : RepE T μ H ρ σ) : RepE T μ' H ρ σ := ⟨q.1, fun i d z => by
  obtain ⟨v, e1, q⟩ := q.2 i d z
  exact ⟨v, e1, Rep.ad e ep _ _ q⟩⟩
theorem RepX.ad (e : μ'.ad = μ.ad) (ep : μ'.pr = μ.pr) {x : Ex} {cls : Value} {d : Option Addr} (q : RepX T μ H x cls d) : RepX T μ' H x cls d := by
  obtain ⟨C, e1, e2, q⟩ := q
  refine ⟨C, e1, e2, ?_⟩
  rcases q with q | ⟨dx, vs, e3, e4, e5, e6, q⟩
  · exact .inl q
  · exact .inr ⟨dx, vs, e3, e4, ⟨by rw [e]; exact e5.1, by rw [ep]; exact e5.2⟩, e6, Reps.ad e ep _ _ q⟩
/-- the flag of a list box is set -/
theorem Rel.flag (r : Rel T μ h H) {b : Nat} {lk lk' : Bool} {xs : List D} (hb : h.bs[b]? = some (.lst lk xs)) (e : μ'.ad = μ.ad) (ep : μ'.pr = μ.pr) (ef : μ'.fb = μ.fb)
    (hl : ∀ a ∈ μ'.lk, ∃ (c : Nat) (ys : List D), μ'.ad[c]? = some a ∧ (h.bs.set b (.lst lk' xs))[c]? = some (.lst true ys)) (hf : ∀ (c : Nat) (ys : List D) (a : Addr), (h.bs.set b (.lst lk' xs))[c]? = some (.lst true ys) → μ'.ad[c]? = some a → a ∈ μ'.lk) : Rel T μ' { h with bs := h.bs.set b (.lst lk' xs) } H := by
  have hlt : b < h.bs.length := (List.getElem?_eq_some_iff.mp hb).1
  refine ⟨r.fb.trans ef.symm, fun a ha => by rw [ep] at ha; rw [e]; exact r.prh a ha, hl, hf, by rw [e]; simp [r.len], by rw [e]; exact r.nd, fun i b' a e1 e2 => ?_, fun k hk => by simpa using r.lo k hk, r.ord, fun k hk i b' hi e1 => ?_⟩
  · have e1 : (h.bs.set b (.lst lk' xs))[i]? = some b' := e1
    rw [e] at e2
    by_cases hi : b = i
    · subst hi
      rw [List.getElem?_set_self hlt] at e1
      cases e1
      exact (r.at_ b _ a hb e2).ad e ep
    · rw [List.getElem?_set_ne hi] at e1
      exact (r.at_ i b' a e1 e2).ad e ep
  · have e1 : (h.bs.set b (.lst lk' xs))[i]? = some b' := e1
    by_cases hi' : b = i
    · subst hi'
      rw [List.getElem?_set_self hlt] at e1
      cases e1
      exact (r.wf k hk b _ hi hb : belB k (.lst lk xs))
    · rw [List.getElem?_set_ne hi'] at e1
      exact r.wf k hk i b' hi e1
/-- the locked places: those and, if a box is locked, its own -/
def lockMu (μ : Mu) : Option Nat → Mu
  | some b => (match μ.ad[b]? with
    | some a => { μ with lk := a :: μ.lk }
    | none => μ)
  | none => μ
theorem lockMu_ad {l : Option Nat} : (lockMu μ l).ad = μ.ad := by
  cases l with
  | none => rfl
  | some b => simp only [lockMu]; split <;> rfl
theorem lockMu_pr {l : Option Nat} : (lockMu μ l).pr = μ.pr := by
  cases l with
  | none => rfl
  | some b => simp only [lockMu]; split <;> rfl
theorem Rel.lock (r : Rel T μ h H) (l : Option Nat) (hl : ∀ b, l = some b → ∃ lk xs, h.bs[b]? = some (.lst lk xs)) : Rel T (lockMu μ l) (lockO l h) H := by
  cases l with
  | none => exact r
  | some b =>
    obtain ⟨lk, xs, hb⟩ := hl b rfl
    have hlt : b < h.bs.length := (List.getElem?_eq_some_iff.mp hb).1
    have ha : ∃ a, μ.ad[b]? = some a := ⟨_, List.getElem?_eq_getElem (by rw [r.len]; exact hlt)⟩
    obtain ⟨a, ha⟩ := ha
    have em : lockMu μ (some b) = { μ with lk := a :: μ.lk } := by simp only [lockMu, ha]
    have eh : lockO (some b) h = { h with bs := h.bs.set b (.lst true xs) } := by simp only [lockO, lockB, hb]
    rw [em, eh]
    refine r.flag hb rfl rfl rfl (fun a' ha' => ?_) (fun c ys a' f1 f2 => ?_)
    rcases List.mem_cons.mp ha' with z | z
    · subst z
      exact ⟨b, xs, ha, List.getElem?_set_self hlt⟩
    · obtain ⟨c, ys, e1, e2⟩ := r.lks a' z
      by_cases hc : b = c
      · subst hc
        rw [hb] at e2; cases e2
        exact ⟨b, xs, e1, List.getElem?_set_self hlt⟩
      · exact ⟨c, ys, e1, by rw [List.getElem?_set_ne hc]; exact e2⟩
    · have f2' : μ.ad[c]? = some a' := f2
      by_cases hc : b = c
      · subst hc
        rw [ha] at f2'
        cases f2'
        exact List.mem_cons_self
      · rw [List.getElem?_set_ne hc] at f1
        exact List.mem_cons_of_mem _ (r.lkf c ys a' f1 f2')
/-- behind: it is as it was -/
theorem Rel.unlock {μ1 : Mu} {H1 : Hp} (l : Option Nat) (hl : ∀ b, l = some b → ∃ a, μ1.ad[b]? = some a ∧ a ∉ μ1.lk) (s : Stp (lockMu μ1 l) H1 μ H) (r : Rel T μ h H) : Rel T { μ with lk := μ1.lk } (unlO l h) H ∧ Stp μ1 H1 { μ with lk := μ1.lk } H := by
  cases l with
  | none =>
    have s' : Stp μ1 H1 μ H := s
    have e : ({ μ with lk := μ1.lk } : Mu) = μ := by rw [← s'.lks]
    rw [e]
    exact ⟨r, s'⟩
  | some b =>
    obtain ⟨a, ha, na⟩ := hl b rfl
    have em : lockMu μ1 (some b) = { μ1 with lk := a :: μ1.lk } := by simp only [lockMu, ha]
    rw [em] at s
    have hμ : μ.ad[b]? = some a := s.pre b a ha
    refine ⟨?_, ⟨s.fbe, s.pre, rfl, s.prs, s.prn, fun c o e1 e2 => s.keep' c o e1 ?_, s.new⟩⟩
    · have hm : a ∈ μ.lk := by rw [s.lks]; exact List.mem_cons_self
      obtain ⟨c, xs, e1, e2⟩ := r.lks a hm
      have hc : c = b := by
        obtain ⟨p1, q1⟩ := List.getElem?_eq_some_iff.mp hμ
        obtain ⟨p2, q2⟩ := List.getElem?_eq_some_iff.mp e1
        exact (List.getElem_inj (h₀ := p2) (h₁ := p1) r.nd).mp (q2.trans q1.symm)
      subst hc
      have eh : unlO (some c) h = { h with bs := h.bs.set c (.lst false xs) } := by simp only [unlO, unlB, e2]
      rw [eh]
      refine r.flag e2 rfl rfl rfl (fun a' ha' => ?_) (fun c' ys a' f1 f2 => ?_)
      rotate_left
      · have f2' : μ.ad[c']? = some a' := f2
        by_cases hc : c = c'
        · subst hc
          rw [List.getElem?_set_self (List.getElem?_eq_some_iff.mp e2).1] at f1
          cases f1
        · rw [List.getElem?_set_ne hc] at f1
          have hm2 := r.lkf c' ys a' f1 f2'
          rw [s.lks] at hm2
          rcases List.mem_cons.mp hm2 with z | z
          · exfalso
            subst z
            obtain ⟨p1, q1⟩ := List.getElem?_eq_some_iff.mp hμ
            obtain ⟨p2, q2⟩ := List.getElem?_eq_some_iff.mp f2'
            exact hc ((List.getElem_inj (h₀ := p1) (h₁ := p2) r.nd).mp (q1.trans q2.symm))
          · exact z
      have ha2 : a' ∈ μ.lk := by rw [s.lks]; exact List.mem_cons_of_mem _ ha'
      obtain ⟨c', ys, f1, f2⟩ := r.lks a' ha2
      refine ⟨c', ys, f1, ?_⟩
      rw [List.getElem?_set_ne]
      · exact f2
      · intro z
        subst z
        rw [e1] at f1
        cases f1
        exact na ha'
    · rcases e2 with z | z
      · exact .inl z
      · exact .inr (List.mem_cons_of_mem _ z)
theorem OutS.unl {μ1 : Mu} {H1 : Hp} {D : Ends} {f : F} (l : Option Nat) (hl : ∀ b, l = some b → ∃ a, μ1.ad[b]? = some a ∧ a ∉ μ1.lk) (o : OutS T W μ1 H1 D (unlF l f)) : OutS T W (lockMu μ1 l) H1 D f := by
  cases f with
  | nx ρ h =>
    intro μ' H' σ' s r e
    obtain ⟨r', s'⟩ := Rel.unlock l hl s r
    exact o _ H' σ' s' r' (RepE.ad (μ := μ') (μ' := { μ' with lk := μ1.lk }) rfl rfl e)
  | bk ρ h =>
    intro μ' H' σ' s r e
    obtain ⟨r', s'⟩ := Rel.unlock l hl s r
    exact o _ H' σ' s' r' (RepE.ad (μ := μ') (μ' := { μ' with lk := μ1.lk }) rfl rfl e)
  | ct ρ h =>
    intro μ' H' σ' s r e
    obtain ⟨r', s'⟩ := Rel.unlock l hl s r
    exact o _ H' σ' s' r' (RepE.ad (μ := μ') (μ' := { μ' with lk := μ1.lk }) rfl rfl e)
  | rt d h =>
    intro μ' H' v s r e
    obtain ⟨r', s'⟩ := Rel.unlock l hl s r
    exact o _ H' v s' r' (Rep.ad (μ := μ') (μ' := { μ' with lk := μ1.lk }) rfl rfl _ _ e)
  | ex x ρ h =>
    intro μ' H' σ' cls d s r e q
    obtain ⟨r', s'⟩ := Rel.unlock l hl s r
    exact o _ H' σ' cls d s' r' (RepE.ad (μ := μ') (μ' := { μ' with lk := μ1.lk }) rfl rfl e) (RepX.ad (μ := μ') (μ' := { μ' with lk := μ1.lk }) rfl rfl q)
  | no => exact o
theorem OutV.unl {μ1 : Mu} {H1 : Hp} {Q : VK} {f : R D} (l : Option Nat) (hl : ∀ b, l = some b → ∃ a, μ1.ad[b]? = some a ∧ a ∉ μ1.lk) (o : OutV T W σ μ1 H1 Q (unlR l f)) : OutV T W σ (lockMu μ1 l) H1 Q f := by
  cases f with
  | ok d h =>
    intro μ' H' v s r e
    obtain ⟨r', s'⟩ := Rel.unlock l hl s r
    exact o _ H' v s' r' (Rep.ad (μ := μ') (μ' := { μ' with lk := μ1.lk }) rfl rfl _ _ e)
  | ex x h =>
    intro μ' H' cls d s r q
    obtain ⟨r', s'⟩ := Rel.unlock l hl s r
    exact o _ H' cls d s' r' (RepX.ad (μ := μ') (μ' := { μ' with lk := μ1.lk }) rfl rfl q)
  | no => exact o
end
end VI
end
section
namespace VI
open PySem PySem.Spec PyProof.Rows L2
/-- from one state to a later one; what E names may be written -/
structure Stx (E : Addr → Prop) (μ : Mu) (H : Hp) (μ' : Mu) (H' : Hp) : Prop where
  fbe : μ'.fb = μ.fb
  pre : ∀ (i : Nat) (a : Addr), μ.ad[i]? = some a → μ'.ad[i]? = some a
  lks : μ'.lk = μ.lk
  prs : ∀ a ∈ μ.pr, a ∈ μ'.pr
  prn : ∀ a ∈ μ'.pr, a ∈ μ.pr ∨ a ∈ μ.ad ∨ H a = none
  keep' : ∀ a o, H a = some o → (a ∉ μ.ad ∨ a ∈ μ.lk) → ¬ E a → H' a = some o
  new : ∀ p, p ∈ μ'.ad → p ∈ μ.ad ∨ H p = none
  al : ∀ a, E a → ∃ o, H' a = some o
section
variable {T : Tb} {μ μ' μ'' : Mu} {H H' H'' : Hp} {E : Addr → Prop}
theorem Stp.x0 (s : Stp μ H μ' H') : Stx (fun _ => False) μ H μ' H' := ⟨s.fbe, s.pre, s.lks, s.prs, s.prn, fun a o e n _ => s.keep' a o e n, s.new, fun _ z => z.elim⟩
theorem Stx.p (s : Stx (fun _ => False) μ H μ' H') : Stp μ H μ' H' := ⟨s.fbe, s.pre, s.lks, s.prs, s.prn, fun a o e n => s.keep' a o e n id, s.new⟩
theorem Stx.keepN (s : Stx E μ H μ' H') (hE : ∀ a, E a → a ∈ μ.pr) {a : Addr} {o : HO} (h : H a = some o) (n : μ.no a) : H' a = some o := s.keep' a o h (.inl n.1) fun z => n.2 (hE a z)
theorem Stx.not (s : Stx E μ H μ' H') {a : Addr} {o : HO} (h : H a = some o) (n : μ.no a) : μ'.no a := by
  refine ⟨fun hm => ?_, fun hm => ?_⟩
  · rcases s.new a hm with z | z
    · exact n.1 z
    · rw [z] at h; cases h
  · rcases s.prn a hm with z | z | z
    · exact n.2 z
    · exact n.1 z
    · rw [z] at h; cases h
theorem Stx.fl {K : PySem.W.Frag} (s : Stx E μ H μ' H') (hE : ∀ a, E a → a ∈ μ.pr) {a : Addr} {xs : List V} (h : FzL K μ H a xs) : FzL K μ' H' a xs := by
  rcases h with ⟨r, n⟩ | h
  · obtain ⟨o, e⟩ := Rd.some r
    refine .inl ⟨?_, s.not e n⟩
    rcases r with r | ⟨o, r⟩
    · exact .inl (s.keepN hE r n)
    · exact .inr ⟨o, s.keepN hE r n⟩
  · exact .inr h
mutual
theorem Rep.stepx (s : Stx E μ H μ' H') (hE : ∀ a, E a → a ∈ μ.pr) : ∀ (d : D) (v : V), Rep T μ H d v → Rep T μ' H' d v
  | .non, v, h => by simpa [Rep] using h
  | .bl b, v, h => by simpa [Rep] using h
  | .int i, v, h => by simpa [Rep] using h
  | .str x, v, h => by simpa [Rep] using h
  | .tup xs, v, h => by
    simp only [Rep] at h ⊢
    obtain ⟨a, vs, e, f, n, r⟩ := h
    exact ⟨a, vs, e, s.keepN hE f n, s.not f n, Reps.stepx s hE xs vs r⟩
  | .tpl xs, v, h => by
    simp only [Rep] at h ⊢
    obtain ⟨a, o, vs, e, f, c, n, r⟩ := h
    exact ⟨a, o, vs, e, s.keepN hE f n, c, s.not f n, Reps.stepx s hE xs vs r⟩
  | .lst xs, v, h => by
    simp only [Rep] at h ⊢
    obtain ⟨a, vs, e, f, n, r⟩ := h
    exact ⟨a, vs, e, s.keepN hE f n, s.not f n, Reps.stepx s hE xs vs r⟩
  | .dct ks vs, v, h => by simp only [Rep] at h
  | .obj c fs xs, v, h => by
    simp only [Rep] at h ⊢
    obtain ⟨a, C, dx, vs, e, ec, f, n, l, r⟩ := h
    exact ⟨a, C, dx, vs, e, ec, s.keepN hE f n, s.not f n, l, Reps.stepx s hE xs vs r⟩
  | .ref b, v, h => by
    simp only [Rep] at h ⊢
    obtain ⟨a, e, e2⟩ := h
    exact ⟨a, s.pre _ _ e, e2⟩
  | .scr ns, v, h => by
    simp only [Rep] at h ⊢
    obtain ⟨a, e, f⟩ := h
    exact ⟨a, e, s.fl hE f⟩
theorem Reps.stepx (s : Stx E μ H μ' H') (hE : ∀ a, E a → a ∈ μ.pr) : ∀ (d : List D) (v : List V), Reps T μ H d v → Reps T μ' H' d v
  | [], v, h => by simpa [Reps] using h
  | x :: xs, v, h => by
    simp only [Reps] at h ⊢
    obtain ⟨w, r, e, h1, h2⟩ := h
    exact ⟨w, r, e, Rep.stepx s hE x w h1, Reps.stepx s hE xs r h2⟩
end
theorem RepE.stepx (s : Stx E μ H μ' H') (hE : ∀ a, E a → a ∈ μ.pr) {ρ : Ev} {σ : Sg} (h : RepE T μ H ρ σ) : RepE T μ' H' ρ σ := ⟨h.1, fun i d e => by
  obtain ⟨v, e1, r⟩ := h.2 i d e
  exact ⟨v, e1, Rep.stepx s hE d v r⟩⟩
theorem Stx.trans (s : Stx E μ H μ' H') (hE : ∀ a, E a → a ∈ μ.pr ∧ a ∉ μ.ad ∧ ∃ o, H a = some o) (t : Stp μ' H' μ'' H'') : Stx E μ H μ'' H'' := by
  have nad : ∀ a, a ∉ μ.ad → (∃ o, H a = some o) → a ∉ μ'.ad := fun a h1 ⟨o, h2⟩ z => by
    rcases s.new a z with q | q
    · exact h1 q
    · rw [q] at h2; cases h2
  refine ⟨t.fbe.trans s.fbe, fun i a h => t.pre i a (s.pre i a h), t.lks.trans s.lks, fun a h => t.prs a (s.prs a h), fun a h => ?_, fun a o h n ne => ?_, fun p hp => ?_, fun a h => ?_⟩
  · rcases t.prn a h with z | z | z
    · exact s.prn a z
    · exact .inr (s.new a z)
    · by_cases hm : a ∈ μ.ad
      · exact .inr (.inl hm)
      · by_cases he : E a
        · exact .inl (hE a he).1
        · cases e : H a with
          | none => exact .inr (.inr rfl)
          | some o => have := s.keep' a o e (.inl hm) he; rw [z] at this; cases this
  · refine t.keep' a o (s.keep' a o h n ne) ?_
    rcases n with n | n
    · exact .inl (nad a n ⟨o, h⟩)
    · exact .inr (by rw [s.lks]; exact n)
  · rcases t.new p hp with z | z
    · exact s.new p z
    · by_cases hm : p ∈ μ.ad
      · exact .inl hm
      · cases e : H p with
        | none => exact .inr rfl
        | some o =>
          by_cases he : E p
          · obtain ⟨u, hu⟩ := s.al p he; rw [z] at hu; cases hu
          · have := s.keep' p o e (.inl hm) he; rw [z] at this; cases this
  · obtain ⟨u, hu⟩ := s.al a h
    exact ⟨u, t.keep' a u hu (.inl (nad a (hE a h).2.1 (hE a h).2.2))⟩
/-- the thing at D is written -/
theorem Stx.put {D : Addr} {o : HO} (s : Stx (· = D) μ H μ' H') : Stx (· = D) μ H μ' (upd H' D o) :=
  ⟨s.fbe, s.pre, s.lks, s.prs, s.prn, fun a u h n ne => by rw [upd_ne ne]; exact s.keep' a u h n ne, s.new, fun a h => ⟨o, by cases h; exact upd_same⟩⟩
theorem Stx.one {D : Addr} {o : HO} (h : H D = some o) : Stx (· = D) μ H μ H := ⟨rfl, fun _ _ z => z, rfl, fun _ z => z, fun _ z => .inl z, fun _ _ z _ _ => z, fun _ z => .inl z, fun a e => ⟨o, by cases e; exact h⟩⟩
/-- ahead of it D was no thing -/
theorem Stp.thenx {D : Addr} {μ0 : Mu} {H0 : Hp} (s : Stp μ0 H0 μ H) (hD : H0 D = none) (hx : D ∈ μ.pr) (t : Stx (· = D) μ H μ' H') : Stp μ0 H0 μ' H' := by
  refine ⟨t.fbe.trans s.fbe, fun i a h => t.pre i a (s.pre i a h), t.lks.trans s.lks, fun a h => t.prs a (s.prs a h), fun a h => ?_, fun a o h n => ?_, fun p hp => ?_⟩
  · rcases t.prn a h with z | z | z
    · exact s.prn a z
    · exact .inr (s.new a z)
    · by_cases hm : a ∈ μ0.ad
      · exact .inr (.inl hm)
      · cases e : H0 a with
        | none => exact .inr (.inr rfl)
        | some o => have := s.keep a o e hm; rw [z] at this; cases this
  · have ne : a ≠ D := ne_of_none h hD
    refine t.keep' a o (s.keep' a o h n) ?_ ne
    rcases n with n | n
    · refine .inl fun z => ?_
      rcases s.new a z with q | q
      · exact n q
      · rw [q] at h; cases h
    · exact .inr (by rw [s.lks]; exact n)
  · rcases t.new p hp with z | z
    · exact s.new p z
    · by_cases hm : p ∈ μ0.ad
      · exact .inl hm
      · cases e : H0 p with
        | none => exact .inr rfl
        | some o => have := s.keep p o e hm; rw [z] at this; cases this
open Classical in
theorem Rel.unlockx {E : Addr → Prop} {h : Bs} {μ1 : Mu} {H1 : Hp} (l : Option Nat) (hl : ∀ b, l = some b → ∃ a, μ1.ad[b]? = some a ∧ a ∉ μ1.lk) (s : Stx E (lockMu μ1 l) H1 μ H) (r : Rel T μ h H) : Rel T { μ with lk := μ1.lk } (unlO l h) H ∧ Stx E μ1 H1 { μ with lk := μ1.lk } H := by
  -- the part about boxes does not look at H1: an H1 that agrees is taken
  have sp : Stp (lockMu μ1 l) (fun a => if E a then none else H1 a) μ H := ⟨s.fbe, s.pre, s.lks, s.prs, fun a h => by
      rcases s.prn a h with z | z | z
      · exact .inl z
      · exact .inr (.inl z)
      · exact .inr (.inr (by show (if E _ then none else _) = none; split <;> first | rfl | exact z)), fun a o h n => by
      by_cases he : E a
      · rw [if_pos he] at h; cases h
      · rw [if_neg he] at h; exact s.keep' a o h n he, fun p hp => by
      rcases s.new p hp with z | z
      · exact .inl z
      · exact .inr (by show (if E _ then none else _) = none; split <;> first | rfl | exact z)⟩
  obtain ⟨h1, h2⟩ := Rel.unlock l hl sp r
  refine ⟨h1, h2.fbe, h2.pre, h2.lks, h2.prs, fun a h => ?_, fun a o h n ne => ?_, fun p hp => ?_, s.al⟩
  · have := s.prn a h
    rw [lockMu_pr, lockMu_ad] at this
    exact this
  · exact h2.keep' a o (by rw [if_neg ne]; exact h) n
  · have := s.new p hp
    rw [lockMu_ad] at this
    exact this
end
end VI
end
section
namespace VI
open PySem PySem.Spec PyProof.Rows L2
/-- what is walked: the items, the box that is locked meanwhile -/
abbrev Iu := List VI.D × Option Nat
abbrev SI := Ev → Bs → R Iu
structure Wk (T : Tb) (J : It) (items : List VI.D) (μL : Mu) (H1 : Hp) : Prop where
  goesx : ∀ (E : Addr → Prop) i μ H, (∀ a, E a → a ∈ μL.pr) → i < items.length → Stx E μL H1 μ H → J.go i H
  stopsx : ∀ (E : Addr → Prop) μ H, (∀ a, E a → a ∈ μL.pr) → Stx E μL H1 μ H → J.stop items.length H
  yieldsx : ∀ (E : Addr → Prop) i μ H h x H', (∀ a, E a → a ∈ μL.pr) → i < items.length → Stx E μL H1 μ H → Rel T μ h H → J.yld i H x H' → ∃ d, items[i]? = some d ∧ Stp μ H μ H' ∧ Rel T μ h H' ∧ Rep T μ H' d x
theorem Wk.goes {T : Tb} {J : It} {items : List VI.D} {μL : Mu} {H1 : Hp} (w : Wk T J items μL H1) (i : Nat) (μ : Mu) (H : Hp) (hi : i < items.length) (s : Stp μL H1 μ H) : J.go i H := w.goesx _ i μ H (fun _ z => z.elim) hi s.x0
theorem Wk.stops {T : Tb} {J : It} {items : List VI.D} {μL : Mu} {H1 : Hp} (w : Wk T J items μL H1) (μ : Mu) (H : Hp) (s : Stp μL H1 μ H) : J.stop items.length H := w.stopsx _ μ H (fun _ z => z.elim) s.x0
theorem Wk.yields {T : Tb} {J : It} {items : List VI.D} {μL : Mu} {H1 : Hp} (w : Wk T J items μL H1) (i : Nat) (μ : Mu) (H : Hp) (h : Bs) (x : V) (H' : Hp) (hi : i < items.length) (s : Stp μL H1 μ H) (r : Rel T μ h H) (y : J.yld i H x H') : ∃ d, items[i]? = some d ∧ Stp μ H μ H' ∧ Rel T μ h H' ∧ Rep T μ H' d x := w.yieldsx _ i μ H h x H' (fun _ z => z.elim) hi s.x0 r y
/-- it stays -/
def Stays (μ : Mu) (H : Hp) (P : Hp → Prop) : Prop := ∀ (E : Addr → Prop) μ' H', (∀ a, E a → a ∈ μ.pr) → Stx E μ H μ' H' → P H'
/-- the lock can be set -/
def Lkb (μ : Mu) (h : Bs) (l : Option Nat) : Prop := ∀ b, l = some b → (∃ a, μ.ad[b]? = some a ∧ a ∉ μ.lk) ∧ ∃ lk xs, h.bs[b]? = some (.lst lk xs)
def OutI (T : Tb) (W : WX) (σ : Sg) (μ : Mu) (H : Hp) (Q : It → Hp → Prop) : R Iu → Prop
  | .ok d h' => ∀ μ' H' J, Stp μ H μ' H' → Rel T μ' h' H' → Lkb μ' h' d.2 → Wk T J d.1 (lockMu μ' d.2) H' → Q J H'
  | .ex x h' => ∀ μ' H' cls d, Stp μ H μ' H' → Rel T μ' h' H' → RepX T μ' H' x cls d → W cls d σ H'
  | .no => False
def tI' (T : Tb) (W : WX) (s : SI) : TI := fun σ H Q => ∃ μ ρ h, Rel T μ h H ∧ RepE T μ H ρ σ ∧ OutI T W σ μ H Q (s ρ h)
section
variable {X : Cx} {T : Tb} {W : WX} {μ μ' : Mu} {H H' : Hp} {h : Bs} {σ : Sg} {ρ : Ev} {tg : Expr}
theorem OutI.step {Q : It → Hp → Prop} {r : R Iu} (o : OutI T W σ μ H Q r) (s : Stp μ H μ' H') : OutI T W σ μ' H' Q r := by
  cases r with
  | ok d h => exact fun μ2 H2 J s2 => o μ2 H2 J (s.trans s2)
  | ex x h => exact fun μ2 H2 c d s2 => o μ2 H2 c d (s.trans s2)
  | no => exact o
theorem OutI.bindV {Q : It → Hp → Prop} {r : R VI.D} {f : VI.D → Bs → R Iu} (o : OutI T W σ μ H Q (r.bind f)) :
    OutV T W σ μ H (fun v H1 => ∃ μ1 d h1, Stp μ H μ1 H1 ∧ Rel T μ1 h1 H1 ∧ Rep T μ1 H1 d v ∧ OutI T W σ μ1 H1 Q (f d h1)) r := by
  cases r with
  | ok d h => exact fun μ1 H1 v s r1 rv => ⟨μ1, d, h, s, r1, rv, OutI.step o s⟩
  | ex x h => exact o
  | no => exact o
theorem OutI.bindA {Q : It → Hp → Prop} {r : R (List VI.D)} {f : List VI.D → Bs → R Iu} (o : OutI T W σ μ H Q (r.bind f)) :
    OutA T W σ μ H (fun v H1 => ∃ μ1 d h1, Stp μ H μ1 H1 ∧ Rel T μ1 h1 H1 ∧ Reps T μ1 H1 d v ∧ OutI T W σ μ1 H1 Q (f d h1)) r := by
  cases r with
  | ok d h => exact fun μ1 H1 v s r1 rv => ⟨μ1, d, h, s, r1, rv, OutI.step o s⟩
  | ex x h => exact o
  | no => exact o
theorem PI.imp {e : Expr} {t t' : TI} (h : PI X tg e t) (i : ∀ σ H Q, t' σ H Q → t σ H Q) : PI X tg e t' := ⟨fun pins s σ H Q I w => h.run pins s σ H Q I (i σ H Q w)⟩
theorem PI.or {e : Expr} {t t' : TI} (h : PI X tg e t) (h' : PI X tg e t') : PI X tg e (fun σ H Q => t σ H Q ∨ t' σ H Q) := ⟨fun pins s σ H Q I w => by
  rcases w with w | w
  · exact h.run pins s σ H Q I w
  · exact h'.run pins s σ H Q I w⟩
/-! ### a list, a tuple, a box -/
def itSeq (d : VI.D) (h : Bs) : R Iu := match d with
  | .tup xs => .ok (xs, none) h
  | .tpl xs => .ok (xs, none) h
  | .lst xs => .ok (xs, none) h
  | .scr ns => .ok (ns.map .int, none) h
  | .ref b => (match h.bs[b]? with
    | some (.lst false xs) => .ok (xs, some b) h
    | some (.lst true xs) => .ok (xs, none) h
    | _ => .no)
  | _ => .no
def isTupD : VI.D → Bool
  | .tup _ => true
  | .tpl _ => true
  | _ => false
def siSeq (s : SV) : SI := fun ρ h => (s ρ h).bind itSeq
theorem lockMu_none : lockMu μ none = μ := rfl
/-- a thing that stays, walked -/
theorem wk_list {a : Addr} {xs : List VI.D} {vs : List V} {μ1 : Mu} (q : Reps T μ1 H xs vs) (hs : Stays μ1 H fun H' => SqL T.K H' a vs) : Wk T (Itl T.K a) xs μ1 H := by
  have wk := walk_list (K := T.K) (a := a) (xs := vs)
  refine ⟨fun E i μ' H' hE hi s => wk.goes i H' (by rw [← q.length]; exact hi) (hs E μ' H' hE s), fun E μ' H' hE s => by rw [q.length]; exact wk.stops H' (hs E μ' H' hE s), fun E i μ' H' h x H'' hE hi s r y => ?_⟩
  obtain ⟨e1, e2⟩ := wk.yields i H' x H'' (by rw [← q.length]; exact hi) (hs E μ' H' hE s) y
  subst e1
  have hd : xs[i]? = some xs[i] := List.getElem?_eq_getElem hi
  obtain ⟨v, e3, rv⟩ := q.get hd
  rw [e2] at e3
  cases e3
  exact ⟨_, hd, Stp.refl, r, Rep.stepx s hE _ _ rv⟩
theorem wk_tup {a : Addr} {xs : List VI.D} {vs : List V} {μ1 : Mu} (q : Reps T μ1 H xs vs) (hs : Stays μ1 H fun H' => SqT T.K H' a vs) : Wk T (Itt T.K a) xs μ1 H := by
  have wk := walk_tup (K := T.K) (a := a) (xs := vs)
  refine ⟨fun E i μ' H' hE hi s => wk.goes i H' (by rw [← q.length]; exact hi) (hs E μ' H' hE s), fun E μ' H' hE s => by rw [q.length]; exact wk.stops H' (hs E μ' H' hE s), fun E i μ' H' h x H'' hE hi s r y => ?_⟩
  obtain ⟨e1, e2⟩ := wk.yields i H' x H'' (by rw [← q.length]; exact hi) (hs E μ' H' hE s) y
  subst e1
  have hd : xs[i]? = some xs[i] := List.getElem?_eq_getElem hi
  obtain ⟨v, e3, rv⟩ := q.get hd
  rw [e2] at e3
  cases e3
  exact ⟨_, hd, Stp.refl, r, Rep.stepx s hE _ _ rv⟩
/-- a value that can be walked: list or tuple, what it is, that it stays -/
theorem seq_stays {d : VI.D} {v : V} {xs : List VI.D} {l : Option Nat} {h' : Bs} (r : Rel T μ h H) (rv : Rep T μ H d v) (e : itSeq d h = .ok (xs, l) h') :
    h' = h ∧ Lkb μ h l ∧ ∃ a vs, v = .ref a ∧ Reps T μ H xs vs ∧ ((isTupD d = false ∧ SqL T.K H a vs ∧ Stays (lockMu μ l) H fun H' => SqL T.K H' a vs) ∨ (isTupD d = true ∧ SqT T.K H a vs ∧ Stays (lockMu μ l) H fun H' => SqT T.K H' a vs)) := by
  have nl : Lkb μ h none := fun b z => by cases z
  cases d with
  | tup ys =>
    simp only [itSeq] at e; cases e
    obtain ⟨a, vs, e1, e2, e3, e4⟩ := rv.tupOf
    exact ⟨rfl, nl, a, vs, e1, e4, .inr ⟨rfl, SqT.of e2, fun E μ' H' hE s => SqT.of (s.keepN hE e2 e3)⟩⟩
  | tpl ys =>
    simp only [itSeq] at e; cases e
    obtain ⟨a, o, vs, e1, e2, _, e3, e4⟩ := rv.tplOf
    exact ⟨rfl, nl, a, vs, e1, e4, .inr ⟨rfl, SqT.fz e2, fun E μ' H' hE s => SqT.fz (s.keepN hE e2 e3)⟩⟩
  | lst ys =>
    simp only [itSeq] at e; cases e
    simp only [Rep] at rv
    obtain ⟨a, vs, e1, e2, e3, e4⟩ := rv
    exact ⟨rfl, nl, a, vs, e1, e4, .inl ⟨rfl, SqL.of e2, fun E μ' H' hE s => SqL.of (s.keepN hE e2 e3)⟩⟩
  | scr ns =>
    simp only [itSeq] at e; cases e
    simp only [Rep] at rv
    obtain ⟨a, e1, e2⟩ := rv
    exact ⟨rfl, nl, a, _, e1, Reps.ints ns, .inl ⟨rfl, e2.sq, fun E μ' H' hE s => (s.fl hE e2).sq⟩⟩
  | ref b =>
    simp only [itSeq] at e
    split at e
    · rename_i ys hb
      cases e
      obtain ⟨a, vs, e1, e2, e3, e4⟩ := r.boxAt hb rv
      have nk : a ∉ μ.lk := r.free e1 fun zs z => by rw [hb] at z; cases z
      refine ⟨rfl, fun c z => by cases z; exact ⟨⟨a, e1, nk⟩, _, _, hb⟩, a, vs, e2, e4, .inl ⟨rfl, SqL.of e3, fun E μ' H' hE s => SqL.of (s.keep' a _ e3 (.inr ?_) fun z => (r.prh a (by have := hE a z; rwa [lockMu_pr] at this)).2 (List.mem_of_getElem? e1))⟩⟩
      simp only [lockMu, e1]
      exact List.mem_cons_self
    · rename_i ys hb
      cases e
      obtain ⟨a, vs, e1, e2, e3, e4⟩ := r.boxAt hb rv
      exact ⟨rfl, nl, a, vs, e2, e4, .inl ⟨rfl, SqL.of e3, fun E μ' H' hE s => SqL.of (s.keep' a _ e3 (.inr (r.lkf _ _ a hb e1)) fun z => (r.prh a (hE a z)).2 (List.mem_of_getElem? e1))⟩⟩
    · cases e
  | _ => simp [itSeq] at e
theorem itSeq_calm {d : VI.D} {x : Ex} {h' : Bs} : itSeq d h ≠ .ex x h' := by
  intro e
  unfold itSeq at e
  repeat' split at e
  all_goals cases e
theorem lockMu_reps {l : Option Nat} {xs : List VI.D} {vs : List V} (q : Reps T μ H xs vs) : Reps T (lockMu μ l) H xs vs := Reps.ad lockMu_ad lockMu_pr _ _ q
theorem piv_seq {e : Expr} {s : SV} (hK : X.K = T.K) (he : PE X e (tV T W s)) : PI X tg e (tI' T W (siSeq s)) :=
  PI.imp (PI.or (pi_list he) (pi_tup he)) fun σ H Q ⟨μ, ρ, h, r, e, o⟩ => by
    unfold siSeq at o
    cases q : s ρ h with
    | no => rw [q] at o; exact o.elim
    | ex x h1 => rw [q] at o; exact .inl ⟨μ, ρ, h, r, e, by rw [q]; exact o⟩
    | ok d h1 =>
      rw [q] at o
      simp only [R.bind] at o
      cases q2 : itSeq d h1 with
      | no => rw [q2] at o; exact o.elim
      | ex x h2 => exact absurd q2 itSeq_calm
      | ok u h2 =>
        obtain ⟨xs, l⟩ := u
        rw [q2] at o
        cases ht : isTupD d with
        | true =>
          refine .inr ⟨μ, ρ, h, r, e, ?_⟩
          rw [q]
          intro μ1 H1 v s1 r1 rv
          obtain ⟨rfl, nl, a, vs, e1, e4, e5⟩ := seq_stays r1 rv q2
          rcases e5 with ⟨z, _⟩ | ⟨_, e5, e6⟩
          · rw [ht] at z; cases z
          · refine ⟨a, e1, ⟨vs, by rw [hK]; exact e5⟩, ?_⟩
            rw [hK]
            exact o μ1 H1 _ s1 r1 nl (wk_tup (lockMu_reps e4) e6)
        | false =>
          refine .inl ⟨μ, ρ, h, r, e, ?_⟩
          rw [q]
          intro μ1 H1 v s1 r1 rv
          obtain ⟨rfl, nl, a, vs, e1, e4, e5⟩ := seq_stays r1 rv q2
          rcases e5 with ⟨_, e5, e6⟩ | ⟨z, _⟩
          · refine ⟨a, e1, ⟨vs, by rw [hK]; exact e5⟩, ?_⟩
            rw [hK]
            exact o μ1 H1 _ s1 r1 nl (wk_list (lockMu_reps e4) e6)
          · rw [ht] at z; cases z
/-! ### ranges -/
def rngItems (lo : Int) (n : Nat) : List VI.D := (List.range n).map fun (i : Nat) => .int (lo + (i : Int))
theorem wk_range {lo : Int} {n : Nat} {μ1 : Mu} : Wk T (Itr lo n) (rngItems lo n) μ1 H := by
  have wk := walk_range (lo := lo) (n := n)
  have hl : (rngItems lo n).length = n := by simp [rngItems]
  refine ⟨fun E i μ' H' hE hi s => wk.goes i H' (by rw [hl] at hi; exact hi) trivial, fun E μ' H' hE s => by rw [hl]; exact wk.stops H' trivial, fun E i μ' H' h x H'' hE hi s r y => ?_⟩
  rw [hl] at hi
  obtain ⟨e1, e2⟩ := wk.yields i H' x H'' hi trivial y
  subst e1
  exact ⟨.int (lo + i), by simp [rngItems, hi], Stp.refl, r, by rw [e2]; exact rep_int rfl⟩
def itRng1 (ds : List VI.D) (h : Bs) : R Iu := match ds with
  | [.int j] => if -(2 ^ 62) ≤ j ∧ j < 2 ^ 62 then .ok (rngItems 0 j.toNat, none) h else .no
  | _ => .no
def itRng2 (ds : List VI.D) (h : Bs) : R Iu := match ds with
  | [.int i, .int j] => if -(2 ^ 62) ≤ i ∧ i < 2 ^ 62 ∧ -(2 ^ 62) ≤ j ∧ j < 2 ^ 62 then .ok (rngItems i (j - i).toNat, none) h else .no
  | _ => .no
def siArg (f : List VI.D → Bs → R Iu) (sa : SA) : SI := fun ρ h => (sa ρ h).bind f
theorem OutI.nolk {Q : It → Hp → Prop} {items : List VI.D} {J : It} (r : Rel T μ h H) (o : OutI T W σ μ H Q (.ok (items, none) h)) (wk : Wk T J items μ H) : Q J H := o μ H J Stp.refl r (fun b z => by cases z) wk
theorem piv_range1 {a : Expr} {p pos : Pos} {sa : SA} (hg : Gl X "range") (hm : X.mg "range" = none) (hs : PySem.W.isStarred a = false) (ha : PA X [a] (tA' T W sa)) : PI X tg (.Call (.Name "range" p) [a] [] pos) (tI' T W (siArg itRng1 sa)) :=
  PI.imp (pi_range1 hg hm ha (by rw [star_no hs]; rfl)) fun σ H Q ⟨μ, ρ, h, r, e, o⟩ => by
    refine ⟨μ, ρ, h, r, e, OutA.mono (OutI.bindA o) ?_⟩
    rintro v H1 ⟨μ1, ds, h1, s1, r1, rv, o1⟩
    unfold itRng1 at o1
    split at o1
    · split at o1
      · rename_i hb
        obtain ⟨w, rfl, rw'⟩ := rv.is1
        simp only [Rep] at rw'
        subst rw'
        exact ⟨_, rfl, hb.1, hb.2, o1.nolk r1 wk_range⟩
      · exact o1.elim
    · exact o1.elim
theorem piv_range2 {a b : Expr} {p pos : Pos} {sa : SA} (hg : Gl X "range") (hm : X.mg "range" = none) (hs : PySem.W.isStarred a = false) (hs2 : PySem.W.isStarred b = false) (ha : PA X [a, b] (tA' T W sa)) : PI X tg (.Call (.Name "range" p) [a, b] [] pos) (tI' T W (siArg itRng2 sa)) :=
  PI.imp (pi_range2 hg hm ha (by rw [star_no hs, star_no hs2]; rfl) (by rw [star_no hs2]; rfl)) fun σ H Q ⟨μ, ρ, h, r, e, o⟩ => by
    refine ⟨μ, ρ, h, r, e, OutA.mono (OutI.bindA o) ?_⟩
    rintro v H1 ⟨μ1, ds, h1, s1, r1, rv, o1⟩
    unfold itRng2 at o1
    split at o1
    · split at o1
      · rename_i hb
        obtain ⟨w, w2, rfl, rw', rw2⟩ := rv.is2
        simp only [Rep] at rw' rw2
        subst rw' rw2
        exact ⟨_, _, rfl, hb, o1.nolk r1 wk_range⟩
      · exact o1.elim
    · exact o1.elim
/-! ### for -/
def loopS (g : SG) (body : SS) : List VI.D → Ev → Bs → F
  | [], ρ, h => .nx ρ h
  | d :: ds, ρ, h => match g d ρ h with
    | .ok ρ1 h1 => (match body ρ1 h1 with
      | .nx ρ2 h2 => loopS g body ds ρ2 h2
      | .ct ρ2 h2 => loopS g body ds ρ2 h2
      | .bk ρ2 h2 => .nx ρ2 h2
      | f => f)
    | _ => .no
def ssFor (it : SI) (g : SG) (body : SS) : SS := fun ρ h => (it ρ h).toF ρ fun u h1 => unlF u.2 (loopS g body u.1 ρ (lockO u.2 h1))
theorem OutS.ofI {D : Ends} {r : R Iu} {k : Iu → Bs → F} (e : RepE T μ H ρ σ) (o : OutS T W μ H D (r.toF ρ k)) (Q : It → Hp → Prop)
    (hk : ∀ u h1 μ1 H1 J, r = .ok u h1 → Stp μ H μ1 H1 → Rel T μ1 h1 H1 → RepE T μ1 H1 ρ σ → Lkb μ1 h1 u.2 → Wk T J u.1 (lockMu μ1 u.2) H1 → OutS T W μ1 H1 D (k u h1) → Q J H1) : OutI T W σ μ H Q r := by
  cases r with
  | ok u h => exact fun μ1 H1 J s r1 l w => hk u h μ1 H1 J rfl s r1 (e.step s) l w (OutS.step o s)
  | ex x h => exact fun μ1 H1 c d s r1 rx => o μ1 H1 σ c d s r1 (e.step s) rx
  | no => exact o
theorem loop_imp {own : List Nat} {g : SG} {body : SS} {D : Ends} {J : It} {items : List VI.D} {μL : Mu} {H1 : Hp} {h1 : Bs} (wk : Wk T J items μL H1) (r1 : Rel T μL h1 H1) (e1 : RepE T μL H1 ρ σ) (o : OutS T W μL H1 D (loopS g body items ρ h1)) :
    ∃ Wv : Nat → Nat → Sg → Hp → Prop, (∃ m, Wv 0 m σ H1) ∧ ∀ i m σ H, Wv i m σ H →
      (J.stop i H ∧ D.nx σ H) ∨ (J.go i H ∧ ∃ N : Sg → Hp → Prop, (∀ σ' H', N σ' H' → ∃ m', m' < m ∧ Wv (i + 1) m' σ' H') ∧ ∀ x H', J.yld i H x H' → tG' T own g x σ H' fun σ2 H2 => tS' T W body { D with nx := N, ct := N, bk := D.nx } σ2 H2) := by
  let P : Nat → Sg → Hp → Prop := fun i σ H => ∃ μ ρ h, Stp μL H1 μ H ∧ Rel T μ h H ∧ RepE T μ H ρ σ ∧ OutS T W μ H D (loopS g body (items.drop i) ρ h)
  refine ⟨fun i m σ H => m = items.length - i ∧ i ≤ items.length ∧ P i σ H, ⟨_, rfl, Nat.zero_le _, μL, ρ, h1, Stp.refl, r1, e1, by simpa using o⟩, ?_⟩
  rintro i m σ2 H2 ⟨rfl, hi, μ2, ρ2, h2, s2, r2, e2, o2⟩
  by_cases hlt : i < items.length
  · refine .inr ⟨wk.goes i μ2 H2 hlt s2, P (i + 1), fun σ' H' p => ⟨items.length - (i + 1), by omega, rfl, hlt, p⟩, fun x H' y => ?_⟩
    obtain ⟨d, hd, s3, r3, rv⟩ := wk.yields i μ2 H2 h2 x H' hlt s2 r2 y
    have ed : items.drop i = d :: items.drop (i + 1) := by
      rw [List.drop_eq_getElem_cons hlt]
      rw [List.getElem?_eq_getElem hlt] at hd
      cases hd; rfl
    rw [ed] at o2
    have o3 := OutS.step o2 s3
    refine ⟨μ2, ρ2, h2, d, r3, e2.step s3, rv, ?_⟩
    simp only [loopS] at o3
    cases q : g d ρ2 h2 with
    | no => rw [q] at o3; exact o3
    | ex z h3 => rw [q] at o3; exact o3
    | ok ρ3 h3 =>
      rw [q] at o3
      simp only at o3
      intro μ4 H4 σ4 s4 r4 e4 _
      refine ⟨μ4, ρ3, h3, r4, e4, ?_⟩
      have o4 := OutS.step o3 s4
      have st : Stp μL H1 μ4 H4 := (s2.trans s3).trans s4
      cases q2 : body ρ3 h3 with
      | nx ρ5 h5 => rw [q2] at o4; exact fun μ5 H5 σ5 s5 r5 e5 => ⟨μ5, ρ5, h5, st.trans s5, r5, e5, OutS.step o4 s5⟩
      | ct ρ5 h5 => rw [q2] at o4; exact fun μ5 H5 σ5 s5 r5 e5 => ⟨μ5, ρ5, h5, st.trans s5, r5, e5, OutS.step o4 s5⟩
      | bk ρ5 h5 => rw [q2] at o4; exact o4
      | rt d5 h5 => rw [q2] at o4; exact o4
      | ex x5 ρ5 h5 => rw [q2] at o4; exact o4
      | no => rw [q2] at o4; exact o4
  · have ei : i = items.length := by omega
    subst ei
    refine .inl ⟨wk.stops μ2 H2 s2, ?_⟩
    rw [List.drop_length] at o2
    exact o2 μ2 H2 σ2 Stp.refl r2 e2
theorem psv_for {own : List Nat} {iter : Expr} {body : List Stmt} {pos : Pos} {it : SI} {g : SG} {sb : SS} (hp : PassesOwn (model X.prog X.w) X.A X.env X.xe) (hc : X.calm = true) (hi : PI X tg iter (tI' T W it)) (hg : PG X tg (tG' T own g)) (hb : PSs X body (tS' T W sb))
    (hs : ∀ x, foldedSetIterable iter X.env x = pure x) : PS X (.For tg iter body [] pos) (tS' T W (ssFor it g sb)) :=
  PS.imp (ps_for hp hc hi hg hb hs) fun D σ H ⟨μ, ρ, h, r, e, o⟩ => by
    refine ⟨μ, ρ, h, r, e, OutS.ofI e o _ ?_⟩
    rintro u h1 μ1 H1 J _ s1 r1 e1 l wk o1
    exact loop_imp wk (r1.lock u.2 fun b z => (l b z).2) (e1.ad lockMu_ad lockMu_pr) (OutS.unl u.2 (fun b z => (l b z).1) o1)
/-! ### while -/
def whileS (s : SV) (body : SS) : Nat → Ev → Bs → F
  | 0, _, _ => .no
  | n + 1, ρ, h => (sTru s ρ h).toF ρ fun b h1 => if b then (match body ρ h1 with
      | .nx ρ2 h2 => whileS s body n ρ2 h2
      | .ct ρ2 h2 => whileS s body n ρ2 h2
      | .bk ρ2 h2 => .nx ρ2 h2
      | f => f) else .nx ρ h1
theorem psv_while {c : Expr} {body : List Stmt} {pos : Pos} {sc : SV} {sb : SS} {n : Nat} (hp : PassesOwn (model X.prog X.w) X.A X.env X.xe) (hc : PT X c (tB' T W (sTru sc))) (hb : PSs X body (tS' T W sb)) : PS X (.While c body [] pos) (tS' T W (whileS sc sb n)) :=
  PS.imp (ps_while hp hc hb) fun D σ H ⟨μ, ρ, h, r, e, o⟩ => by
    refine ⟨fun m σ H => ∃ μ ρ h, Rel T μ h H ∧ RepE T μ H ρ σ ∧ OutS T W μ H D (whileS sc sb m ρ h), ⟨n, μ, ρ, h, r, e, o⟩, ?_⟩
    rintro m σ1 H1 ⟨μ1, ρ1, h1, r1, e1, o1⟩
    cases m with
    | zero => exact o1.elim
    | succ m =>
      refine ⟨μ1, ρ1, h1, r1, e1, OutB.mono (OutS.ofB e1 o1) ?_⟩
      rintro b H2 ⟨μ2, h2, s2, r2, e2, o2⟩
      cases b with
      | false => exact o2 μ2 H2 σ1 Stp.refl r2 e2
      | true =>
        refine ⟨fun σ H => ∃ μ ρ h, Rel T μ h H ∧ RepE T μ H ρ σ ∧ OutS T W μ H D (whileS sc sb m ρ h), fun σ' H' p => ⟨m, Nat.lt_succ_self _, p⟩, μ2, ρ1, h2, r2, e2, ?_⟩
        simp only [if_true] at o2
        cases q2 : sb ρ1 h2 with
        | nx ρ5 h5 => rw [q2] at o2; exact fun μ5 H5 σ5 s5 r5 e5 => ⟨μ5, ρ5, h5, r5, e5, OutS.step o2 s5⟩
        | ct ρ5 h5 => rw [q2] at o2; exact fun μ5 H5 σ5 s5 r5 e5 => ⟨μ5, ρ5, h5, r5, e5, OutS.step o2 s5⟩
        | bk ρ5 h5 => rw [q2] at o2; exact o2
        | rt d5 h5 => rw [q2] at o2; exact o2
        | ex x5 ρ5 h5 => rw [q2] at o2; exact o2
        | no => rw [q2] at o2; exact o2
end
end VI
end
section
namespace VI
open PySem PySem.Spec PyProof.Rows L2
section
variable {X : Cx} {T : Tb} {W : WX} {μ μ' : Mu} {H H' : Hp} {h : Bs} {σ : Sg} {ρ : Ev} {tg : Expr} {p : Addr} {o : HO}
/-! ### other places, the same data -/
mutual
theorem Rep.mv (hn : ∀ a, μ.no a → μ'.no a) (hp : ∀ (i : Nat) a, μ.ad[i]? = some a → μ'.ad[i]? = some a) : ∀ (d : D) (v : V), Rep T μ H d v → Rep T μ' H d v
  | .non, v, q => by simpa only [Rep] using q
  | .bl b, v, q => by simpa only [Rep] using q
  | .int b, v, q => by simpa only [Rep] using q
  | .str b, v, q => by simpa only [Rep] using q
  | .tup xs, v, q => by
    simp only [Rep] at q ⊢
    obtain ⟨a, vs, e1, e2, e3, e4⟩ := q
    exact ⟨a, vs, e1, e2, hn a e3, Reps.mv hn hp xs vs e4⟩
  | .tpl xs, v, q => by
    simp only [Rep] at q ⊢
    obtain ⟨a, o, vs, e1, e2, c, e3, e4⟩ := q
    exact ⟨a, o, vs, e1, e2, c, hn a e3, Reps.mv hn hp xs vs e4⟩
  | .lst xs, v, q => by
    simp only [Rep] at q ⊢
    obtain ⟨a, vs, e1, e2, e3, e4⟩ := q
    exact ⟨a, vs, e1, e2, hn a e3, Reps.mv hn hp xs vs e4⟩
  | .dct ks vs, v, q => by simp only [Rep] at q
  | .obj c fs xs, v, q => by
    simp only [Rep] at q ⊢
    obtain ⟨a, C, dx, vs, e1, e2, e3, e4, e5, e6⟩ := q
    exact ⟨a, C, dx, vs, e1, e2, e3, hn a e4, e5, Reps.mv hn hp xs vs e6⟩
  | .ref b, v, q => by
    simp only [Rep] at q ⊢
    obtain ⟨a, e1, e2⟩ := q
    exact ⟨a, hp _ _ e1, e2⟩
  | .scr ns, v, q => by
    simp only [Rep] at q ⊢
    obtain ⟨a, e1, e2⟩ := q
    refine ⟨a, e1, ?_⟩
    rcases e2 with ⟨z1, z2⟩ | z
    · exact .inl ⟨z1, hn a z2⟩
    · exact .inr z
theorem Reps.mv (hn : ∀ a, μ.no a → μ'.no a) (hp : ∀ (i : Nat) a, μ.ad[i]? = some a → μ'.ad[i]? = some a) : ∀ (d : List D) (v : List V), Reps T μ H d v → Reps T μ' H d v
  | [], v, q => by simpa only [Reps] using q
  | x :: xs, v, q => by
    simp only [Reps] at q ⊢
    obtain ⟨w, r, e1, q1, q2⟩ := q
    exact ⟨w, r, e1, Rep.mv hn hp x w q1, Reps.mv hn hp xs r q2⟩
end
theorem RepB.mv (hn : ∀ a, μ.no a → μ'.no a) (hp : ∀ (i : Nat) a, μ.ad[i]? = some a → μ'.ad[i]? = some a) {b : Bx} {a : Addr} (q : RepB T μ H b a) : RepB T μ' H b a := by
  cases b with
  | lst lk xs => obtain ⟨vs, e1, q⟩ := q; exact ⟨vs, e1, Reps.mv hn hp _ _ q⟩
  | dct lk ks vs => exact q.elim
  | obj c fs xs => obtain ⟨C, dx, vs, e1, e2, e3, q⟩ := q; exact ⟨C, dx, vs, e1, e2, e3, Reps.mv hn hp _ _ q⟩
  | tbl t => obtain ⟨a1, ps, e1, e2, e3⟩ := q; exact ⟨a1, ps, e1, e2, fun pos cv q => by obtain ⟨c, f1, f2, f3⟩ := e3 pos cv q; exact ⟨c, f1, f2, hn c f3⟩⟩
/-- a thing that no data stand on is written -/
theorem upd_no {a : Addr} (hm : p ∈ μ.pr) (n : μ.no a) : upd H p o a = H a := upd_ne fun z => n.2 (by rw [z]; exact hm)
mutual
theorem Rep.pr (hm : p ∈ μ.pr) : ∀ (d : D) (v : V), Rep T μ H d v → Rep T μ (upd H p o) d v
  | .non, v, q => by simpa only [Rep] using q
  | .bl b, v, q => by simpa only [Rep] using q
  | .int b, v, q => by simpa only [Rep] using q
  | .str b, v, q => by simpa only [Rep] using q
  | .tup xs, v, q => by
    simp only [Rep] at q ⊢
    obtain ⟨a, vs, e1, e2, e3, e4⟩ := q
    exact ⟨a, vs, e1, (upd_no hm e3).trans e2, e3, Reps.pr hm xs vs e4⟩
  | .tpl xs, v, q => by
    simp only [Rep] at q ⊢
    obtain ⟨a, o, vs, e1, e2, c, e3, e4⟩ := q
    exact ⟨a, o, vs, e1, (upd_no hm e3).trans e2, c, e3, Reps.pr hm xs vs e4⟩
  | .lst xs, v, q => by
    simp only [Rep] at q ⊢
    obtain ⟨a, vs, e1, e2, e3, e4⟩ := q
    exact ⟨a, vs, e1, (upd_no hm e3).trans e2, e3, Reps.pr hm xs vs e4⟩
  | .dct ks vs, v, q => by simp only [Rep] at q
  | .obj c fs xs, v, q => by
    simp only [Rep] at q ⊢
    obtain ⟨a, C, dx, vs, e1, e2, e3, e4, e5, e6⟩ := q
    exact ⟨a, C, dx, vs, e1, e2, (upd_no hm e4).trans e3, e4, e5, Reps.pr hm xs vs e6⟩
  | .ref b, v, q => by simpa only [Rep] using q
  | .scr ns, v, q => by
    simp only [Rep] at q ⊢
    obtain ⟨a, e1, e2⟩ := q
    refine ⟨a, e1, ?_⟩
    rcases e2 with ⟨z1, z2⟩ | z
    · refine .inl ⟨?_, z2⟩
      rcases z1 with z1 | ⟨u, z1⟩
      · exact .inl ((upd_no hm z2).trans z1)
      · exact .inr ⟨u, (upd_no hm z2).trans z1⟩
    · exact .inr z
theorem Reps.pr (hm : p ∈ μ.pr) : ∀ (d : List D) (v : List V), Reps T μ H d v → Reps T μ (upd H p o) d v
  | [], v, q => by simpa only [Reps] using q
  | x :: xs, v, q => by
    simp only [Reps] at q ⊢
    obtain ⟨w, r, e1, q1, q2⟩ := q
    exact ⟨w, r, e1, Rep.pr hm x w q1, Reps.pr hm xs r q2⟩
end
theorem Rel.pr {xs : List V} (r : Rel T μ h H) (hm : p ∈ μ.pr) : Rel T μ h (upd H p (.lst xs)) := by
  have np : p ∉ μ.ad := (r.prh p hm).2
  refine ⟨r.fb, fun a ha => ?_, r.lks, r.lkf, r.len, r.nd, fun i b a e1 e2 => ?_, r.lo, r.ord, r.wf⟩
  · obtain ⟨⟨ys, e⟩, n⟩ := r.prh a ha
    refine ⟨?_, n⟩
    by_cases hap : a = p
    · subst hap; exact ⟨xs, upd_same⟩
    · exact ⟨ys, by rw [upd_ne hap]; exact e⟩
  · have q := r.at_ i b a e1 e2
    have hne : a ≠ p := fun z => np (by rw [← z]; exact List.mem_of_getElem? e2)
    cases b with
    | lst lk ys => obtain ⟨vs, e3, q⟩ := q; exact ⟨vs, by rw [upd_ne hne]; exact e3, Reps.pr hm _ _ q⟩
    | dct lk ks vs => exact q.elim
    | obj c fs ys => obtain ⟨C, dx, vs, e3, e4, e5, q⟩ := q; exact ⟨C, dx, vs, e3, by rw [upd_ne hne]; exact e4, e5, Reps.pr hm _ _ q⟩
    | tbl t => obtain ⟨a1, ps, e3, e4, e5⟩ := q; exact ⟨a1, ps, by rw [upd_ne hne]; exact e3, e4, fun pos cv z => by obtain ⟨c, f1, f2, f3⟩ := e5 pos cv z; exact ⟨c, f1, (upd_no hm f3).trans f2, f3⟩⟩
/-- the comprehension's new list -/
def Mu.prot (μ : Mu) (p : Addr) : Mu := { μ with pr := p :: μ.pr }
theorem Stp.prot (hp : H p = none) : Stp μ H (μ.prot p) (upd H p o) :=
  ⟨rfl, fun _ _ e => e, rfl, fun _ z => List.mem_cons_of_mem _ z, fun a z => by
    rcases List.mem_cons.mp z with y | y
    · subst y; exact .inr (.inr hp)
    · exact .inl y, fun a u e _ => by rw [upd_ne (ne_of_none e hp)]; exact e, fun _ e => .inl e⟩
theorem Rel.prot {xs : List V} (r : Rel T μ h H) (hp : H p = none) : Rel T (μ.prot p) h (upd H p (.lst xs)) := by
  refine ⟨r.fb, fun a ha => ?_, r.lks, r.lkf, r.len, r.nd, fun i b a e1 e2 => ?_, r.lo, r.ord, r.wf⟩
  · rcases List.mem_cons.mp ha with z | z
    · subst z; exact ⟨⟨xs, upd_same⟩, r.not' hp⟩
    · obtain ⟨⟨ys, e⟩, n⟩ := r.prh a z
      exact ⟨⟨ys, by rw [upd_ne (ne_of_none e hp)]; exact e⟩, n⟩
  · exact (r.at_ i b a e1 e2).step (Stp.prot hp) (upd_ne fun z => by subst z; exact r.not' hp (List.mem_of_getElem? e2))
/-- behind it -/
def Mu.unprot (μ : Mu) (p : Addr) : Mu := { μ with pr := μ.pr.filter fun a => decide (a ≠ p) }
theorem unprot_no {a : Addr} (n : μ.no a) : (μ.unprot p).no a := ⟨n.1, fun z => n.2 (List.mem_filter.mp z).1⟩
theorem Rel.unprot (r : Rel T μ h H) : Rel T (μ.unprot p) h H :=
  ⟨r.fb, fun a ha => r.prh a (List.mem_filter.mp ha).1, r.lks, r.lkf, r.len, r.nd, fun i b a e1 e2 => (r.at_ i b a e1 e2).mv (fun _ n => unprot_no n) (fun _ _ e => e), r.lo, r.ord, r.wf⟩
theorem Stp.unprot {μ1 : Mu} {H1 : Hp} {h1 : Bs} (r : Rel T μ1 h1 H1) (hp : H1 p = none) (s : Stp μ1 H1 μ H) : Stp μ1 H1 (μ.unprot p) H :=
  ⟨s.fbe, s.pre, s.lks, fun a z => List.mem_filter.mpr ⟨s.prs a z, by
    obtain ⟨⟨xs, e⟩, _⟩ := r.prh a z
    simp only [decide_eq_true_eq]
    exact ne_of_none e hp⟩, fun a z => s.prn a (List.mem_filter.mp z).1, s.keep', s.new⟩
/-- .. as a box -/
theorem Rel.adopt {xs : List D} {vs : List V} (r : Rel T μ h H) (hm : p ∈ μ.pr) (e : H p = some (.lst vs)) (q : Reps T μ H xs vs) : Rel T ((μ.unprot p).push p) { h with bs := h.bs ++ [.lst false xs] } H := by
  have np : p ∉ μ.ad := (r.prh p hm).2
  have hn : ∀ a, μ.no a → ((μ.unprot p).push p).no a := fun a n => ⟨fun z => by
    rcases List.mem_append.mp (show a ∈ μ.ad ++ [p] from z) with z | z
    · exact n.1 z
    · have : a = p := by simpa using z
      subst this; exact n.2 hm, fun z => n.2 (List.mem_filter.mp z).1⟩
  have hpre : ∀ (i : Nat) a, μ.ad[i]? = some a → ((μ.unprot p).push p).ad[i]? = some a := fun i a e => by
    show (μ.ad ++ [p])[i]? = some a
    rw [List.getElem?_append_left (List.getElem?_eq_some_iff.mp e).1]; exact e
  refine ⟨r.fb, fun a ha => ?_, fun a ha => ?_, fun b0 ys a e1 e2' => ?_, by simp [Mu.push, Mu.unprot, r.len], ?_, fun i b' a e1 e2' => ?_, fun k hk' => by simpa using Nat.le_succ_of_le (r.lo k hk'), r.ord, fun k hk' i b' hi e' => ?_⟩
  · obtain ⟨h1, h2⟩ := List.mem_filter.mp (show a ∈ μ.pr.filter fun a => decide (a ≠ p) from ha)
    obtain ⟨hx, n⟩ := r.prh a h1
    refine ⟨hx, fun z => ?_⟩
    rcases List.mem_append.mp (show a ∈ μ.ad ++ [p] from z) with z | z
    · exact n z
    · have : a = p := by simpa using z
      simp [this] at h2
  · obtain ⟨b0, ys, e1, e2⟩ := r.lks a ha
    refine ⟨b0, ys, hpre _ _ e1, ?_⟩
    show (h.bs ++ [_])[b0]? = _
    rw [List.getElem?_append_left (List.getElem?_eq_some_iff.mp e2).1]
    exact e2
  · have e2 : (μ.ad ++ [p])[b0]? = some a := e2'
    have e1' : (h.bs ++ [Bx.lst false xs])[b0]? = some (.lst true ys) := e1
    by_cases hi : b0 < μ.ad.length
    · rw [List.getElem?_append_left hi] at e2
      rw [List.getElem?_append_left (by rw [← r.len]; exact hi)] at e1'
      exact r.lkf b0 ys a e1' e2
    · rw [List.getElem?_append_right (by rw [← r.len]; omega)] at e1'
      have h0 : b0 - h.bs.length = 0 := by
        have := (List.getElem?_eq_some_iff.mp e1').1
        simp at this; omega
      rw [h0] at e1'
      simp at e1'
  · show (μ.ad ++ [p]).Nodup
    rw [List.nodup_append]
    refine ⟨r.nd, by simp, fun x hx y hy => ?_⟩
    have : y = p := by simpa using hy
    subst this
    intro z; subst z
    exact np hx
  · have e2 : (μ.ad ++ [p])[i]? = some a := e2'
    by_cases hi : i < μ.ad.length
    · rw [List.getElem?_append_left hi] at e2
      have e1' : (h.bs ++ [Bx.lst false xs])[i]? = some b' := e1
      rw [List.getElem?_append_left (by rw [← r.len]; exact hi)] at e1'
      exact (r.at_ i b' a e1' e2).mv hn hpre
    · rw [List.getElem?_append_right (by omega)] at e2
      have e1' : (h.bs ++ [Bx.lst false xs])[i]? = some b' := e1
      rw [List.getElem?_append_right (by rw [← r.len]; omega), ← r.len] at e1'
      have h0 : i - μ.ad.length = 0 := by
        have := (List.getElem?_eq_some_iff.mp e2).1
        simp at this; omega
      rw [h0] at e1' e2
      simp at e1' e2
      subst e1'; subst e2
      exact ⟨vs, e, Reps.mv hn hpre _ _ q⟩
  · have hl : i < h.bs.length := Nat.lt_of_lt_of_le hi (r.lo k hk')
    have e'' : (h.bs ++ [Bx.lst false xs])[i]? = some b' := e'
    rw [List.getElem?_append_left hl] at e''
    exact r.wf k hk' i b' hi e''
theorem Stp.adopt {μ1 : Mu} {H1 : Hp} {h1 : Bs} (r : Rel T μ1 h1 H1) (hp : H1 p = none) (s : Stp μ1 H1 μ H) : Stp μ1 H1 ((μ.unprot p).push p) H := by
  have s' := Stp.unprot r hp s
  refine ⟨s'.fbe, fun i a e => ?_, s'.lks, s'.prs, s'.prn, s'.keep', fun a z => ?_⟩
  · show (μ.ad ++ [p])[i]? = some a
    have := s.pre i a e
    rw [List.getElem?_append_left (List.getElem?_eq_some_iff.mp this).1]; exact this
  · rcases List.mem_append.mp (show a ∈ μ.ad ++ [p] from z) with z | z
    · exact s.new a z
    · have : a = p := by simpa using z
      subst this; exact .inr hp
end
end VI
end
section
namespace VI
open PySem PySem.Spec PyProof.Rows L2
abbrev SB := Ev → Bs → R Bool
/-- the items of a comprehension -/
def lcS (g : SG) (tt : SB) (el : SV) (ρ : Ev) : List VI.D → Bs → R (List VI.D)
  | [], h => .ok [] h
  | d :: ds, h => match g d ρ h with
    | .ok ρ1 h1 => (match tt ρ1 h1 with
      | .ok true h2 => (match el ρ1 h2 with
        | .ok y h3 => (match lcS g tt el ρ ds h3 with
          | .ok ys h4 => .ok (y :: ys) h4
          | _ => .no)
        | _ => .no)
      | .ok false h2 => lcS g tt el ρ ds h2
      | _ => .no)
    | _ => .no
def wipeE (ρ : Ev) : List Nat → Ev
  | [] => ρ
  | v :: vs => (wipeE ρ vs).set v none
def sLc (bx : Bool) (own : List Nat) (it : SI) (g : SG) (tt : SB) (el : SV) : SV := fun ρ h =>
  (it ρ h).bind fun u h1 => (unlR u.2 (lcS g tt el (wipeE ρ own) u.1 (lockO u.2 h1))).bind fun ys h2 => newL bx ys h2
section
variable {X : Cx} {T : Tb} {W : WX} {μ μ' : Mu} {H H' : Hp} {h : Bs} {σ : Sg} {ρ : Ev} {tg : Expr} {p : Addr} {o : HO}
theorem RepE.none (e : RepE T μ H ρ σ) (i : Nat) : RepE T μ H (ρ.set i none) (σ.set i none) := by
  refine ⟨by simp [e.1], fun j d q => ?_⟩
  by_cases hj : i = j
  · subst hj
    have hl : i < ρ.length := by
      have := (List.getElem?_eq_some_iff.mp q).1
      simpa using this
    rw [List.getElem?_set_self hl] at q
    cases q
  · rw [List.getElem?_set_ne hj] at q ⊢
    exact e.2 j d q
theorem RepE.wipe (e : RepE T μ H ρ σ) : ∀ own : List Nat, RepE T μ H (wipeE ρ own) (L2.wipe σ own)
  | [] => e
  | v :: vs => (RepE.wipe e vs).none v
theorem RepE.pr (hm : p ∈ μ.pr) (e : RepE T μ H ρ σ) : RepE T μ (upd H p o) ρ σ := ⟨e.1, fun i d q => by
  obtain ⟨v, e1, r⟩ := e.2 i d q
  exact ⟨v, e1, Rep.pr hm d v r⟩⟩
theorem Stp.over (s : Stp μ H μ' H') (hp : H p = none) : Stp μ H μ' (upd H' p o) :=
  ⟨s.fbe, s.pre, s.lks, s.prs, s.prn, fun a u e n => by rw [upd_ne (ne_of_none e hp)]; exact s.keep' a u e n, s.new⟩
theorem newL_prot {bx : Bool} {ys : List VI.D} {acc : List V} {μ1 : Mu} {H1 : Hp} {h1 : Bs} {Q : VK} (o : OutV T W σ μ1 H1 Q (newL bx ys h)) (r1 : Rel T μ1 h1 H1) (hp : H1 p = none) (s : Stp μ1 H1 μ H) (r : Rel T μ h H) (hm : p ∈ μ.pr)
    (e : H p = some (.lst acc)) (q : Reps T μ H ys acc) : Q (.ref p) H := by
  unfold newL at o
  split at o
  · cases bx with
    | false =>
      refine o _ H _ (Stp.unprot r1 hp s) r.unprot ?_
      simp only [Rep]
      exact ⟨p, acc, rfl, e, ⟨(r.prh p hm).2, fun z => by simpa using (List.mem_filter.mp z).2⟩, Reps.mv (fun _ n => unprot_no n) (fun _ _ e => e) _ _ q⟩
    | true =>
      refine o _ H _ (Stp.adopt r1 hp s) (r.adopt hm e q) ?_
      simp only [Rep]
      refine ⟨p, ?_, rfl⟩
      show (μ.ad ++ [p])[h.bs.length]? = some p
      rw [← r.len]; simp
  · exact o.elim
theorem newL_len {bx : Bool} {ys : List VI.D} {μ1 : Mu} {H1 : Hp} {Q : VK} (o : OutV T W σ μ1 H1 Q (newL bx ys h)) : ys.length ≤ sizeLine := by
  unfold newL at o
  split at o
  · assumption
  · exact o.elim
theorem lc_imp {bx : Bool} {own : List Nat} {it : SI} {g : SG} {tt : SB} {el : SV} : ∀ σ H Q, tV T W (sLc bx own it g tt el) σ H Q → tLc (tI' T W it) (tG' T own g) (tB' T noW tt) (tV T noW el) own σ H Q := fun σ H Q ⟨μ, ρ, h, r, e, o⟩ => by
  refine ⟨μ, ρ, h, r, e, ?_⟩
  unfold sLc at o
  cases q : it ρ h with
  | no => rw [q] at o; exact o
  | ex x h1 => rw [q] at o; exact o
  | ok u h1 =>
    rw [q] at o
    simp only [R.bind] at o
    intro μ1 H1 J s1 r1 l wk
    have o1 := OutV.step o s1
    obtain ⟨items, lk⟩ := u
    simp only at o1 l wk
    cases q2 : lcS g tt el (wipeE ρ own) items (lockO lk h1) with
    | no => rw [q2] at o1; exact o1.elim
    | ex x h2 =>
      exfalso
      have key : ∀ (ds : List VI.D) (h : Bs) (x : Ex) (h' : Bs), lcS g tt el (wipeE ρ own) ds h ≠ .ex x h' := by
        intro ds
        induction ds with
        | nil => intro h x h' z; simp [lcS] at z
        | cons d ds ih =>
          intro h x h' z
          simp only [lcS] at z
          repeat' split at z
          all_goals first | (cases z; done) | exact ih _ _ _ z
      exact key _ _ _ _ q2
    | ok ys h2 =>
      rw [q2] at o1
      simp only [unlR] at o1
      have o2 : OutV T W σ μ1 H1 Q (newL bx ys (unlO lk h2)) := o1
      have hlen := newL_len o2
      intro D hD
      have rL : Rel T (lockMu μ1 lk) (lockO lk h1) H1 := r1.lock lk fun b z => (l b z).2
      have eL : RepE T (lockMu μ1 lk) H1 ρ σ := (e.step s1).ad lockMu_ad lockMu_pr
      let P : Nat → Hp → Prop := fun i H => ∃ μ h acc accD, Stp (lockMu μ1 lk) H1 μ H ∧ Rel T μ h H ∧ D ∈ μ.pr ∧ H D = some (.lst acc) ∧ Reps T μ H accD acc ∧ RepE T μ H ρ σ ∧
        ∃ ys', lcS g tt el (wipeE ρ own) (items.drop i) h = .ok ys' h2 ∧ accD ++ ys' = ys
      have h0 : P 0 (upd H1 D (.lst [])) := ⟨(lockMu μ1 lk).prot D, lockO lk h1, [], [], Stp.prot hD, rL.prot hD, List.mem_cons_self, upd_same, .nil, eL.step (Stp.prot hD), ys, by simpa using q2, rfl⟩
      refine ⟨fun i m H => m = items.length - i ∧ i ≤ items.length ∧ P i H, ⟨_, rfl, Nat.zero_le _, h0⟩, ?_⟩
      rintro i m H2 ⟨rfl, hi, μ2, hh, acc, accD, s2, r2, hm2, hD2, q2r, e2, ys', c2, ey⟩
      by_cases hlt : i < items.length
      · refine .inr ⟨wk.goes i μ2 H2 hlt s2, P (i + 1), fun H' p => ⟨items.length - (i + 1), by omega, rfl, hlt, p⟩, fun x H3 y => ?_⟩
        obtain ⟨d, hd, s3, r3, rv⟩ := wk.yields i μ2 H2 hh x H3 hlt s2 r2 y
        have ed : items.drop i = d :: items.drop (i + 1) := by
          rw [List.drop_eq_getElem_cons hlt]
          rw [List.getElem?_eq_getElem hlt] at hd
          cases hd; rfl
        rw [ed] at c2
        simp only [lcS] at c2
        have e3 : RepE T μ2 H3 ρ σ := e2.step s3
        refine ⟨μ2, wipeE ρ own, hh, d, r3, e3.wipe own, rv, ?_⟩
        cases q3 : g d (wipeE ρ own) hh with
        | no => rw [q3] at c2; cases c2
        | ex x h3 => rw [q3] at c2; cases c2
        | ok ρ4 h4 =>
          rw [q3] at c2
          simp only at c2
          intro μ4 H4 σ4 s4 r4 e4 w4
          have wid : ∀ (own : List Nat) (σ : Sg), L2.wipe (L2.wipe σ own) own = L2.wipe σ own := by
            intro own σ
            apply List.ext_getElem?
            intro j
            by_cases hj : j ∈ own
            · have key : ∀ (os : List Nat) (τ : Sg), j ∈ os → (L2.wipe τ os)[j]? = (if j < τ.length then some none else none) := by
                intro os
                induction os with
                | nil => intro τ z; cases z
                | cons o os ih =>
                  intro τ z
                  unfold L2.wipe
                  by_cases ho : o = j
                  · subst ho
                    rw [List.getElem?_set]
                    simp [wipe_length]
                  · rw [List.getElem?_set_ne ho]
                    rcases List.mem_cons.mp z with z | z
                    · exact absurd z.symm ho
                    · exact ih τ z
              rw [key own _ hj, key own _ hj, wipe_length]
            · rw [wipe_out hj]
          refine ⟨by rw [w4, wid], ?_⟩
          refine ⟨μ4, ρ4, h4, r4, e4, ?_⟩
          have hm4 : D ∈ μ4.pr := s4.prs D (s3.prs D hm2)
          have hD3 : H3 D = some (.lst acc) := s3.keep D _ hD2 (r2.prh D hm2).2
          have hD4 : H4 D = some (.lst acc) := s4.keep D _ hD3 (r3.prh D hm2).2
          have q4r : Reps T μ4 H4 accD acc := Reps.step s4 _ _ (Reps.step s3 _ _ q2r)
          have s24 : Stp (lockMu μ1 lk) H1 μ4 H4 := (s2.trans s3).trans s4
          have e24 : RepE T μ4 H4 ρ σ := e3.step s4
          cases q4 : tt ρ4 h4 with
          | no => rw [q4] at c2; cases c2
          | ex x h5 => rw [q4] at c2; cases c2
          | ok b h5 =>
            rw [q4] at c2
            cases b with
            | false =>
              simp only at c2
              intro μ5 H5 s5 r5
              simp only [Bool.false_eq_true, if_false]
              exact ⟨μ5, h5, acc, accD, s24.trans s5, r5, s5.prs D hm4, s5.keep D _ hD4 (r4.prh D hm4).2, Reps.step s5 _ _ q4r, e24.step s5, ys', c2, ey⟩
            | true =>
              simp only at c2
              intro μ5 H5 s5 r5
              simp only [if_true]
              refine ⟨μ5, ρ4, h5, r5, e4.step s5, ?_⟩
              have hm5 : D ∈ μ5.pr := s5.prs D hm4
              have hD5 : H5 D = some (.lst acc) := s5.keep D _ hD4 (r4.prh D hm4).2
              cases q5 : el ρ4 h5 with
              | no => rw [q5] at c2; cases c2
              | ex x h6 => rw [q5] at c2; cases c2
              | ok z h6 =>
                rw [q5] at c2
                simp only at c2
                cases q6 : lcS g tt el (wipeE ρ own) (items.drop (i + 1)) h6 with
                | no => rw [q6] at c2; cases c2
                | ex x h7 => rw [q6] at c2; cases c2
                | ok zs h7 =>
                  rw [q6] at c2
                  cases c2
                  intro μ6 H6 v6 s6 r6 rv6
                  have hm6 : D ∈ μ6.pr := s6.prs D hm5
                  have hD6 : H6 D = some (.lst acc) := s6.keep D _ hD5 (r5.prh D hm5).2
                  have q6r : Reps T μ6 H6 accD acc := Reps.step s6 _ _ (Reps.step s5 _ _ q4r)
                  have hl : acc.length < sizeLine := by
                    have h1 := q6r.length
                    have h2 := congrArg List.length ey
                    rw [List.length_append, List.length_cons] at h2
                    omega
                  exact ⟨acc, hD6, hl, μ6, h6, acc ++ [v6], accD ++ [z], ((s24.trans s5).trans s6).over hD, r6.pr hm6, hm6, upd_same, Reps.pr hm6 _ _ (q6r.append (.one rv6)), ((e24.step s5).step s6).pr hm6, zs, q6, by rw [List.append_assoc]; exact ey⟩
      · have ei : i = items.length := by omega
        subst ei
        refine .inl ⟨wk.stops μ2 H2 s2, ?_⟩
        rw [List.drop_length] at c2
        simp only [lcS] at c2
        cases c2
        rw [List.append_nil] at ey
        subst ey
        obtain ⟨ru, su⟩ := Rel.unlock lk (fun b z => (l b z).1) s2 r2
        exact newL_prot o2 r1 hD su ru hm2 hD2 (Reps.ad (μ := μ2) (μ' := { μ2 with lk := μ1.lk }) rfl rfl _ _ q2r)
end
end VI
end
section
namespace VI
open PySem PySem.Spec PyProof.Rows L2
section
variable {X : Cx} {T : Tb} {W : WX} {μ μ' : Mu} {H H' : Hp} {h : Bs} {σ : Sg} {ρ : Ev} {tg : Expr} {p : Addr} {o : HO}
/-! ### comprehensions -/
theorem ptv_nil : PTs X [] (tB' T W fun _ h => .ok true h) := ⟨fun pins s σ H Q I w => pts_nil.run pins s σ H Q I (by obtain ⟨μ, ρ, h, r, e, o⟩ := w; exact o μ H Stp.refl r)⟩
theorem ptv_one {c : Expr} {s : SB} (h : PT X c (tB' T W s)) : PTs X [c] (tB' T W s) := pts_one h
variable {elt iter : Expr} {ifs : List Expr} {scope : Scope} {own : List (Str × Nat)} {pos : Pos} {it : SI} {g : SG} {tt : SB} {el : SV}
theorem pv_lc {bx : Bool} (hc : X.calm = true) (hN : X.N.Nodup) (hi : PI X tg iter (tI' T W it)) (ok : BlkOk X.N X.env.scope scope own)
    (hg : ∀ (s : Shared) (H : Hp) (C : Addr) (cl : List (Str × Addr)) (fp : List Addr), PG (X.blk s H scope (compEnvC scope cl C X.env) fp) tg (tG' T (own.map (·.2)) g))
    (ht : ∀ (s : Shared) (H : Hp) (C : Addr) (cl : List (Str × Addr)) (fp : List Addr), PTs (X.blk s H scope (compEnvC scope cl C X.env) fp) ifs (tB' T noW tt))
    (he : ∀ (s : Shared) (H : Hp) (C : Addr) (cl : List (Str × Addr)) (fp : List Addr), PE (X.blk s H scope (compEnvC scope cl C X.env) fp) elt (tV T noW el)) (hs : ∀ x, foldedSetIterable iter X.env x = pure x) :
    PE X (.ListComp elt [⟨tg, iter, ifs, 0⟩] scope pos) (tV T W (sLc bx (own.map (·.2)) it g tt el)) := PE.imp (pe_lc hc hN hi ok hg ht he hs) lc_imp
theorem psv_setLc {bx : Bool} {i : Nat} {y : Str} {py spos : Pos} (hc : X.calm = true) (hN : X.N.Nodup) (hy : X.N[i]? = some y) (hyl : X.env.scope.names.lookup y = some .local)
    (hsw : swapsWith (.ListComp elt [⟨tg, iter, ifs, 0⟩] scope pos) (some (.Name y py)) spos.line X.env = pure true) (hi : PI X tg iter (tI' T W it)) (ok : BlkOk X.N X.env.scope scope own)
    (hg : ∀ (s : Shared) (H : Hp) (C : Addr) (cl : List (Str × Addr)) (fp : List Addr), PG (X.blk s H scope (compEnvC scope cl C X.env) fp) tg (tG' T (own.map (·.2)) g))
    (ht : ∀ (s : Shared) (H : Hp) (C : Addr) (cl : List (Str × Addr)) (fp : List Addr), PTs (X.blk s H scope (compEnvC scope cl C X.env) fp) ifs (tB' T noW tt))
    (he : ∀ (s : Shared) (H : Hp) (C : Addr) (cl : List (Str × Addr)) (fp : List Addr), PE (X.blk s H scope (compEnvC scope cl C X.env) fp) elt (tV T noW el)) (hs : ∀ x, foldedSetIterable iter X.env x = pure x) :
    PS X (.Assign [.Name y py] (.ListComp elt [⟨tg, iter, ifs, 0⟩] scope pos) spos) (tS' T W (ssAsg (sLc bx (own.map (·.2)) it g tt el) (sgName i))) :=
  PS.imp (ps_setLc hc hN hy hyl hsw hi ok hg ht he hs) fun D σ H w => by
    have w' := asgN_imp D σ H w
    exact lc_imp σ H _ w'
/-! ### calls of the text's own defs -/
def spF (T : Tb) (f : List D → Bs → R D) : Sp := fun vs H Q E => ∃ μ h ds, Rel T μ h H ∧ Reps T μ H ds vs ∧ OutV T (fun c d _ H => E c d H) [] μ H Q (f ds h)
variable {k : Nat} {f : Addr} {fd : FuncData} {ps : List Str} {x : Str} {q : Pos} {e : Expr} {es : List Expr} {cf : List D → Bs → R D} {sa : SA}
theorem OutV.sig {Q : VK} {r : R D} {σ' : Sg} (o : OutV T W σ μ H Q r) : OutV T (fun c d _ H => W c d σ H) σ' μ H Q r := by
  cases r with
  | ok d h => exact o
  | ex x h => exact o
  | no => exact o
theorem fn_imp : ∀ σ H Q, tV T W (sCall cf sa) σ H Q → tCallSD (spF T cf) [] (WE W) (tA' T W sa) σ H Q := fun σ H Q ⟨μ, ρ, h, r, e, o⟩ => by
  refine ⟨μ, ρ, h, r, e, OutA.mono (OutV.bindA o) ?_⟩
  rintro v H1 ⟨μ1, d, h1, s1, r1, rv, o1⟩
  exact ⟨μ1, h1, d, r1, by simpa using rv, o1.sig⟩
theorem pv_call (F : FnOk X.prog X.w X.K X.mg X.base (CX X.prog X.w) k f fd ps (spF T cf)) (hr : Room k X.A) (hg : Gl X x) (hm : X.mg x = some (.ref f)) (hk : PySem.W.keepIn X.K (.ref f) = true) (hb : Binds X.K fd ps []) (tk : Takes X W)
    (hdb : (x == ("__debug__" : Str)) = false) (hs : noStars (e :: es) = true) (ha : PA X (e :: es) (tA' T W sa)) : PE X (.Call (.Name x q) (e :: es) [] pos) (tV T W (sCall cf sa)) := by
  simp only [noStars, List.all_cons, Bool.and_eq_true, Bool.not_eq_true'] at hs
  exact PE.imp (pe_callSD F hr hg hm hk hb .nil (fun σ => passAt tk σ) ha hdb (star_no hs.1) (back_no (show noStars es = true from hs.2))) fn_imp
theorem pv_call0 (F : FnOk X.prog X.w X.K X.mg X.base (CX X.prog X.w) k f fd ps (spF T cf)) (hr : Room k X.A) (hg : Gl X x) (hm : X.mg x = some (.ref f)) (hk : PySem.W.keepIn X.K (.ref f) = true) (hb : Binds X.K fd ps []) (tk : Takes X W)
    (hdb : (x == ("__debug__" : Str)) = false) : PE X (.Call (.Name x q) [] [] pos) (tV T W (sCall cf saNil)) := by
  refine ⟨fun pins s σ H Q I w => ?_⟩
  refine wpAny_Call_Name_kw (ld_glob I hg hm ?_ hdb)
  obtain ⟨μ, ρ, h, r, e, o⟩ := w
  exact PySem.W.callWith_K0 I.kIn hk (run_fnSD (us := []) (vs := []) (dvs := []) (E := WE W) F hr hb .nil (passAt tk σ) I .nil ⟨μ, h, [], r, .nil, OutV.sig o⟩)
end
end VI
end
section
namespace VI
open PySem PySem.Spec PyProof.Rows L2
def noSuper : Expr → Bool
  | .Call (.Name id _) [] [] _ => id != ("super" : Str)
  | _ => true
theorem abase {o : Expr} {attr : Str} {env : Env} {whole : Sem Value} (h : noSuper o = true) : attributeBase o attr env whole = whole := by
  unfold noSuper at h
  split at h
  · exact abase_call h
  · rename_i hn
    unfold attributeBase
    split
    · exact absurd rfl (hn _ _ _)
    · rfl
theorem form_ok {n : Nat} {pos : Pos} {env : Env} {es : List Expr} (hs : noStars es = true) (hn : n < 30) : methodCallForm n (backTo pos (starEach es env)) (backToKw pos (keywordEach [] env)) = true := by
  unfold methodCallForm
  have e1 : (backTo pos (starEach es env)).all (fun x => !x.1) = true := by
    have := back_no (pos := pos) (env := env) hs
    rw [List.all_eq_true]
    intro z hz
    rw [List.any_eq_false] at this
    simpa using this z hz
  have e2 : (backToKw pos (keywordEach [] env)) = [] := rfl
  rw [e2, e1]
  simp [hn]
theorem mcall_tree {o : Expr} {m : Str} {apos pos : Pos} {es : List Expr} {env : Env} (hb : noSuper o = true) (hs : noStars es = true) (hn : es.length < 30) (hl : (apos.endLine == pos.line) = true) :
    eval (.Call (.Attribute o m apos) es [] pos) env = (do
      let ov ← eval o env
      standAt apos.atName
      let (f, first) ← holding [ov] (getMethod ov m (plainOf o env))
      callWith pos f first (backTo pos (starEach es env)) (backToKw pos (keywordEach [] env))) :=
  mcall_of (abase hb) fun ov => mcall_line (form_ok hs (by simpa using hn)) hl
section
variable {X : Cx} {T : Tb} {W : WX} {μ μ' : Mu} {H H' : Hp} {h : Bs} {σ : Sg} {ρ : Ev}
/-! ### attributes of instances -/
def fldOf (f : Nat) : List Nat → List D → Option D
  | g :: gs, x :: xs => if g = f then some x else fldOf f gs xs
  | _, _ => none
/-- class, attributes, their values -/
def insOf (h : Bs) : D → Option (Nat × List Nat × List D)
  | .obj c fs vs => some (c, fs, vs)
  | .ref b => (match h.bs[b]? with | some (.obj c fs vs) => some (c, fs, vs) | _ => none)
  | _ => none
theorem Rel.insOf (r : Rel T μ h H) {d : D} {v : V} {c : Nat} {fs : List Nat} {xs : List D} (q : Rep T μ H d v) (e : insOf h d = some (c, fs, xs)) :
    ∃ a C dx vs, v = .ref a ∧ T.cls c = some C ∧ H a = some (.ins C dx ((fs.map T.att).zip vs)) ∧ fs.length = vs.length ∧ Reps T μ H xs vs := by
  cases d with
  | obj c' fs' xs' =>
    simp only [VI.insOf] at e; cases e
    simp only [Rep] at q
    obtain ⟨a, C, dx, vs, e1, e2, e3, _, e5, e6⟩ := q
    exact ⟨a, C, dx, vs, e1, e2, e3, e5, e6⟩
  | ref b =>
    simp only [VI.insOf] at e
    split at e
    · rename_i hb
      cases e
      simp only [Rep] at q
      obtain ⟨a, e1, e2⟩ := q
      obtain ⟨C, dx, vs, e3, e4, e5, e6⟩ := r.at_ _ _ a hb e1
      exact ⟨a, C, dx, vs, e2, e3, e4, e5, e6⟩
    · cases e
  | _ => simp [VI.insOf] at e
theorem fld_lookup (ok : T.Ok) {f : Nat} (hf : f < T.n) : ∀ {fs : List Nat} {xs : List D} {vs : List V} {x : D}, fs.length = vs.length → Reps T μ H xs vs → fldOf f fs xs = some x → ∃ v, ((fs.map T.att).zip vs).lookup (T.att f) = some v ∧ Rep T μ H x v
  | [], xs, vs, x, _, _, e => by simp [fldOf] at e
  | g :: gs, [], vs, x, _, _, e => by simp [fldOf] at e
  | g :: gs, y :: ys, vs, x, hl, q, e => by
    simp only [Reps] at q
    obtain ⟨v, r, rfl, q1, q2⟩ := q
    simp only [fldOf] at e
    simp only [List.map_cons, List.zip_cons_cons]
    rw [List.lookup_cons]
    split at e
    · rename_i hg
      cases e
      subst hg
      exact ⟨v, by simp, q1⟩
    · rename_i hg
      have hne : (T.att f == T.att g) = false := by
        rw [beq_eq_false_iff_ne]
        exact fun z => hg (ok.inj f g hf z.symm)
      rw [hne]
      exact fld_lookup ok hf (by simpa using hl) q2 e
def fldD (T : Tb) (f : Nat) (d : D) (h : Bs) : R D := match insOf h d with
  | some (c, fs, xs) => if T.fok c f then (match fldOf f fs xs with
    | some x => .ok x h
    | none => .no) else .no
  | none => .no
theorem pv_fld {e : Expr} {f : Nat} {s : SV} {pos : Pos} (ok : T.Ok) (hK : X.K = T.K) (hb : noSuper e = true) (he : PE X e (tV T W s)) : PE X (.Attribute e (T.att f) pos) (tV T W (sUn (fldD T f) s)) :=
  PE.imp (pe_fld he (abase hb)) fun σ H Q ⟨μ, ρ, h, r, e, o⟩ => by
    refine ⟨μ, ρ, h, r, e, OutV.mono (OutV.bind o) ?_⟩
    rintro v H1 ⟨μ1, d, h1, s1, r1, rv, o1⟩
    unfold fldD at o1
    split at o1
    · rename_i c fs xs hi
      split at o1
      · rename_i hf
        split at o1
        · rename_i x hx
          obtain ⟨a, C, dx, vs, e1, e2, e3, e4, e5⟩ := r1.insOf rv hi
          obtain ⟨w, l, rw'⟩ := fld_lookup ok (ok.lt c f hf) e4 e5 hx
          obtain ⟨cl, na⟩ := ok.fld c f C hf e2
          exact ⟨a, C, dx, _, w, e1, e3, by rw [hK]; exact cl, by rw [hK]; exact na, l, o1 μ1 H1 _ Stp.refl r1 rw'⟩
        · exact o1.elim
      · exact o1.elim
    · exact o1.elim
/-! ### methods of the text's own classes -/
/-- f by the class of the receiver -/
def mthD (m : Nat) (mt : Nat → Option (List D → Bs → R D)) (d : D) (h : Bs) : Option (List D → Bs → R D) := match insOf h d with
  | some (c, fs, _) => if fs.contains m then none else mt c
  | none => none
def sMeth (m : Nat) (mt : Nat → Option (List D → Bs → R D)) (so : SV) (sa : SA) : SV := fun ρ h => (so ρ h).bind fun d h1 => match mthD m mt d h1 with
  | some f => (sa ρ h1).bind fun ds h2 => f (d :: ds) h2
  | none => .no
theorem lookup_none {f : Nat} (ok : T.Ok) (hf : f < T.n) : ∀ {fs : List Nat} {vs : List V}, fs.contains f = false → ((fs.map T.att).zip vs).lookup (T.att f) = none
  | [], vs, _ => by simp
  | g :: gs, [], _ => by simp
  | g :: gs, v :: vs, hc => by
    simp only [List.map_cons, List.zip_cons_cons]
    rw [List.lookup_cons]
    simp only [List.contains_cons, Bool.or_eq_false_iff] at hc
    have hne : (T.att f == T.att g) = false := by
      rw [beq_eq_false_iff_ne]
      intro z
      have := ok.inj f g hf z.symm
      subst this
      simp at hc
    rw [hne]
    exact lookup_none ok hf hc.2
theorem pv_meth {k : Nat} {m : Nat} {ob : Expr} {e0 : Expr} {es0 : List Expr} {apos pos : Pos} {so : SV} {sa : SA} {mt : Nat → Option (List D → Bs → R D)} (ok : T.Ok) (hK : X.K = T.K) (hm : m < T.n) (hr : Room k X.A) (tk : Takes X W)
    (hM : ∀ c cf, mt c = some cf → ∃ C f fd ps, T.cls c = some C ∧ Cls X.K C ∧ Meth X.K C (T.att m) f ∧ FnOk X.prog X.w X.K X.mg X.base (CX X.prog X.w) k f fd ps (spF T cf) ∧ Binds X.K fd ps [])
    (hb : noSuper ob = true) (hs : noStars (e0 :: es0) = true) (hn : (e0 :: es0).length < 30) (hl : (apos.endLine == pos.line) = true) (he : PE X ob (tV T W so)) (ha : PA X (e0 :: es0) (tA' T W sa)) : PE X (.Call (.Attribute ob (T.att m) apos) (e0 :: es0) [] pos) (tV T W (sMeth m mt so sa)) := by
  refine ⟨fun pins s σ H Q I w => ?_⟩
  obtain ⟨μ, ρ, h, r, e, o⟩ := w
  have w1 : tV T W so σ H (fun v H1 => ∃ μ1 d h1, Stp μ H μ1 H1 ∧ Rel T μ1 h1 H1 ∧ Rep T μ1 H1 d v ∧ OutV T W σ μ1 H1 Q (match mthD m mt d h1 with
    | some f => (sa ρ h1).bind fun ds h2 => f (d :: ds) h2
    | none => .no)) := ⟨μ, ρ, h, r, e, OutV.bind o⟩
  refine PySem.W.methodCall_KW (pl := plainOf ob X.env) (thn (he.run pins s σ H _ I w1) fun u s1 ⟨x, H1, I1, rx, μ1, d, h1, st1, r1, rv, o1⟩ => ?_) (mcall_tree hb hs hn hl)
  unfold mthD at o1
  split at o1
  · rename_i cf hcf
    split at hcf
    · rename_i c fs xs hi
      split at hcf
      · cases hcf
      · rename_i hc
        obtain ⟨a, C, dx, vs, e1, e2, e3, e4, e5⟩ := r1.insOf rv hi
        obtain ⟨C', f, fd, ps, f1, f2, f3, F, hbnd⟩ := hM c cf hcf
        rw [e2] at f1; cases f1
        subst e1
        obtain rfl : u = Value.ref a := rx
        refine getmeth_ok I1 e3 f2 f3 (lookup_none ok hm (by simpa using hc)) ?_
        have fin : ∀ (us : List Value) (s2 : Shared) (vs2 : List V) (H2 : Hp), Inv X pins σ H2 s2 → Vals vs2 us → (∃ μ2 ds h2, Stp μ1 H1 μ2 H2 ∧ Rel T μ2 h2 H2 ∧ Reps T μ2 H2 ds vs2 ∧ OutV T W σ μ2 H2 Q (cf (d :: ds) h2)) →
            wpAny (model X.prog X.w) X.A (call (.ref f) ([Value.ref a] ++ us)) (EP X pins σ Q) X.xe s2 := by
          rintro us s2 vs2 H2 I2 rv2 ⟨μ2, ds, h2, st2, r2, rr2, o2⟩
          exact run_fnSD (us := Value.ref a :: us) (vs := V.ref a :: vs2) (dvs := []) (E := WE W) F hr hbnd .nil (passAt tk σ) I2 (.cons rfl rv2) ⟨μ2, h2, d :: ds, r2, by simpa using Reps.cons (Rep.step st2 _ _ rv) rr2, OutV.sig o2⟩
        simp only [noStars, List.all_cons, Bool.and_eq_true, Bool.not_eq_true'] at hs
        have w2 : tA' T W sa σ H1 (fun vs2 H2 => ∃ μ2 ds h2, Stp μ1 H1 μ2 H2 ∧ Rel T μ2 h2 H2 ∧ Reps T μ2 H2 ds vs2 ∧ OutV T W σ μ2 H2 Q (cf (d :: ds) h2)) := ⟨μ1, ρ, h1, r1, e.step st1, OutV.bindA o1⟩
        refine PySem.W.callWith_K (first := [.ref a]) (h₀ := X.base) I.ok.mod.kin f3.kp (thn (ha.run pos pins s1 σ H1 _ I1 w2) fun us s2 ⟨vs2, H2, I2, rv2, q2⟩ => ⟨I2.kIn, ?_⟩) (star_no hs.1) (back_no (show noStars es0 = true from hs.2))
        exact fin us s2 vs2 H2 I2 rv2 q2
    · cases hcf
  · exact o1.elim
theorem pv_meth0 {k : Nat} {m : Nat} {ob : Expr} {apos pos : Pos} {so : SV} {mt : Nat → Option (List D → Bs → R D)} (ok : T.Ok) (hK : X.K = T.K) (hm : m < T.n) (hr : Room k X.A) (tk : Takes X W)
    (hM : ∀ c cf, mt c = some cf → ∃ C f fd ps, T.cls c = some C ∧ Cls X.K C ∧ Meth X.K C (T.att m) f ∧ FnOk X.prog X.w X.K X.mg X.base (CX X.prog X.w) k f fd ps (spF T cf) ∧ Binds X.K fd ps [])
    (hb : noSuper ob = true) (hl : (apos.endLine == pos.line) = true) (he : PE X ob (tV T W so)) : PE X (.Call (.Attribute ob (T.att m) apos) [] [] pos) (tV T W (sMeth m mt so saNil)) := by
  refine ⟨fun pins s σ H Q I w => ?_⟩
  obtain ⟨μ, ρ, h, r, e, o⟩ := w
  have w1 : tV T W so σ H (fun v H1 => ∃ μ1 d h1, Stp μ H μ1 H1 ∧ Rel T μ1 h1 H1 ∧ Rep T μ1 H1 d v ∧ OutV T W σ μ1 H1 Q (match mthD m mt d h1 with
    | some f => (saNil ρ h1).bind fun ds h2 => f (d :: ds) h2
    | none => .no)) := ⟨μ, ρ, h, r, e, OutV.bind o⟩
  refine PySem.W.methodCall_KW (pl := plainOf ob X.env) (thn (he.run pins s σ H _ I w1) fun u s1 ⟨x, H1, I1, rx, μ1, d, h1, st1, r1, rv, o1⟩ => ?_) (mcall_tree hb rfl (by decide) hl)
  unfold mthD at o1
  split at o1
  · rename_i cf hcf
    split at hcf
    · rename_i c fs xs hi
      split at hcf
      · cases hcf
      · rename_i hc
        obtain ⟨a, C, dx, vs, e1, e2, e3, e4, e5⟩ := r1.insOf rv hi
        obtain ⟨C', f, fd, ps, f1, f2, f3, F, hbnd⟩ := hM c cf hcf
        rw [e2] at f1; cases f1
        subst e1
        obtain rfl : u = Value.ref a := rx
        refine getmeth_ok I1 e3 f2 f3 (lookup_none ok hm (by simpa using hc)) ?_
        exact PySem.W.callWith_K0 (first := [.ref a]) I1.kIn f3.kp (run_fnSD (us := [Value.ref a]) (vs := [V.ref a]) (dvs := []) (E := WE W) F hr hbnd .nil (passAt tk σ) I1 (.cons rfl .nil) ⟨μ1, h1, [d], r1, by simpa using Reps.one rv, OutV.sig o1⟩)
    · cases hcf
  · exact o1.elim
end
end VI
end
section
namespace VI
open PySem PySem.Spec PyProof.Rows L2
section
variable {X : Cx} {T : Tb} {W : WX} {μ μ' : Mu} {H H' : Hp} {h : Bs} {σ : Sg} {ρ : Ev}
/-! ### o.f = e -/
def putN (f : Nat) : List Nat → List Nat
  | [] => [f]
  | g :: gs => if g = f then g :: gs else g :: putN f gs
def putX {α : Type} (f : Nat) (v : α) : List Nat → List α → List α
  | [], _ => [v]
  | g :: gs, x :: xs => if g = f then v :: xs else x :: putX f v gs xs
  | _ :: _, [] => []
theorem putF_zip (ok : T.Ok) {f : Nat} (hf : f < T.n) {y : V} : ∀ {fs : List Nat} {vs : List V}, fs.length = vs.length → putF (T.att f) y ((fs.map T.att).zip vs) = ((putN f fs).map T.att).zip (putX f y fs vs) ∧ (putN f fs).length = (putX f y fs vs).length
  | [], [], _ => ⟨rfl, rfl⟩
  | [], _ :: _, e => by simp at e
  | _ :: _, [], e => by simp at e
  | g :: gs, v :: vs, e => by
    simp only [List.map_cons, List.zip_cons_cons, putF, putN, putX]
    by_cases hg : g = f
    · subst hg
      simp only [if_true]
      exact ⟨rfl, by simpa using e⟩
    · have hne : ¬ T.att g = T.att f := fun z => hg (ok.inj f g hf z)
      obtain ⟨h1, h2⟩ := putF_zip ok hf (y := y) (fs := gs) (vs := vs) (by simpa using e)
      rw [if_neg hne, if_neg hg, if_neg hg, h1]
      exact ⟨rfl, by simp [h2]⟩
theorem Reps.putX {f : Nat} {x : D} {v : V} (r : Rep T μ H x v) : ∀ {fs : List Nat} {xs : List D} {vs : List V}, fs.length = vs.length → Reps T μ H xs vs → Reps T μ H (VI.putX f x fs xs) (VI.putX f v fs vs)
  | [], xs, vs, _, _ => .one r
  | g :: gs, [], vs, e, q => by simp only [Reps] at q; subst q; simp at e
  | g :: gs, y :: ys, vs, e, q => by
    simp only [Reps] at q
    obtain ⟨w, rr, rfl, q1, q2⟩ := q
    simp only [VI.putX]
    split
    · exact .cons r q2
    · exact .cons q1 (Reps.putX r (by simpa using e) q2)
theorem bels_putX {k f : Nat} {d : D} (hd : bel k d) : ∀ {fs : List Nat} {xs : List D}, bels k xs → bels k (putX f d fs xs)
  | [], xs, _ => by simp only [putX, bels]; exact ⟨hd, trivial⟩
  | g :: gs, [], _ => by simp [putX, bels]
  | g :: gs, y :: ys, h => by
    simp only [bels] at h
    simp only [putX]
    split
    · simp only [bels]; exact ⟨hd, h.2⟩
    · simp only [bels]; exact ⟨h.1, bels_putX hd h.2⟩
def setF (T : Tb) (f : Nat) (o v : D) (h : Bs) : R D := match o with
  | .ref b => (match h.bs[b]? with
    | some (.obj c fs xs) => if T.fok c f && okW h b v && decide (fs.length < 1000) then .ok .non { h with bs := h.bs.set b (.obj c (putN f fs) (putX f v fs xs)) } else .no
    | _ => .no)
  | _ => .no
theorem setF_calm {f : Nat} {o v : D} : Calm (setF T f o v h) := by
  intro x h' z; unfold setF at z
  repeat' split at z
  all_goals cases z
def ssFld (T : Tb) (f : Nat) (so sv : SV) : SS := fun ρ h => (sv ρ h).toF ρ fun v h1 => (so ρ h1).toF ρ fun o h2 => (setF T f o v h2).toF ρ fun _ h3 => .nx ρ h3
theorem sw_att {o e : Expr} {x : Str} {p : Pos} {l : Nat} {env : Env} : swapsWith e (some (.Attribute o x p)) l env = pure false := by cases e <;> rfl
theorem psv_fld {o e : Expr} {f : Nat} {so sv : SV} {pos pos' : Pos} (ok : T.Ok) (hK : X.K = T.K) (ho : PE X o (tV T W so)) (he : PE X e (tV T W sv)) : PS X (.Assign [.Attribute o (T.att f) pos'] e pos) (tS' T W (ssFld T f so sv)) :=
  PS.imp (ps_fld ho he sw_att) fun D σ H ⟨μ, ρ, h, r, e, o⟩ => by
    refine ⟨μ, ρ, h, r, e, OutV.mono (OutS.ofV e o) ?_⟩
    rintro v H1 ⟨μ1, d, h1, s1, r1, e1, rv, o1⟩
    refine ⟨μ1, ρ, h1, r1, e1, OutV.mono (OutS.ofV e1 o1) ?_⟩
    rintro v2 H2 ⟨μ2, d2, h2, s2, r2, e2, rv2, o2⟩
    unfold setF at o2
    split at o2
    · rename_i b
      split at o2
      · rename_i c fs xs hb
        split at o2
        · rename_i hc
          simp only [Bool.and_eq_true, decide_eq_true_eq] at hc
          obtain ⟨⟨hf, hw⟩, hl⟩ := hc
          simp only [Rep] at rv2
          obtain ⟨a, f1, f2⟩ := rv2
          obtain ⟨C, dx, vs, f3, f4, f5, f6⟩ := r2.at_ _ _ a hb f1
          obtain ⟨cl, na⟩ := ok.fld c f C hf f3
          obtain ⟨z1, z2⟩ := putF_zip ok (ok.lt c f hf) (y := v) f5
          have rv' : Rep T μ2 H2 d v := Rep.step s2 _ _ rv
          have hlk : ∀ zs, h2.bs[b]? ≠ some (.lst true zs) := fun zs z => by rw [hb] at z; cases z
          have st : Stp μ2 H2 μ2 (upd H2 a (.ins C dx (putF (T.att f) v ((fs.map T.att).zip vs)))) := Stp.put (List.mem_of_getElem? f1) (r2.free f1 hlk)
          refine ⟨a, C, dx, _, f2, f4, by rw [hK]; exact cl, by rw [hK]; exact na, ?_, ?_⟩
          · rw [List.length_zip, List.length_map]; omega
          · refine o2 μ2 _ σ st (r2.put f1 hlk (fun _ z => by cases z) ⟨C, dx, _, f3, by rw [upd_same, z1], z2, Reps.putX (Rep.step st _ _ rv') f5 (Reps.step st _ _ f6)⟩ fun k hk hb' => ?_) (e2.step st)
            exact bels_putX (okW_bel r2 hw k hk hb') (r2.wf k hk b _ hb' hb)
        · exact o2.elim
      · exact o2.elim
    · exact o2.elim
/-! ### freezing -/
mutual
def frzD (g : Nat → Option D) : D → Option D
  | .tup xs => (match frzDs g xs with | some ys => some (.tup ys) | none => none)
  | .tpl xs => (match frzDs g xs with | some ys => some (.tpl ys) | none => none)
  | .lst xs => (match frzDs g xs with | some ys => some (.lst ys) | none => none)
  | .dct ks vs => none
  | .obj c fs vs => (match frzDs g vs with | some ys => some (.obj c fs ys) | none => none)
  | .ref b => g b
  | .non => some .non
  | .bl b => some (.bl b)
  | .int i => some (.int i)
  | .str x => some (.str x)
  | .scr ns => some (.scr ns)
def frzDs (g : Nat → Option D) : List D → Option (List D)
  | [] => some []
  | x :: xs => (match frzD g x with
    | some y => (match frzDs g xs with | some ys => some (y :: ys) | none => none)
    | none => none)
end
/-- the box b, if it is the call's own -/
def frzR (fb : Nat) (bs : List Bx) : Nat → Nat → Option D
  | 0, b => if b < fb then some (.ref b) else none
  | n + 1, b => if b < fb then some (.ref b) else match bs[b]? with
    | some (.lst _ xs) => (match frzDs (frzR fb bs n) xs with | some ys => some (.lst ys) | none => none)
    | some (.obj c fs xs) => (match frzDs (frzR fb bs n) xs with | some ys => some (.obj c fs ys) | none => none)
    | _ => none
def Mu.cut (μ : Mu) (n : Nat) : Mu := { μ with ad := μ.ad.take n, fb := μ.fb.tail }
theorem cut_no {n : Nat} {a : Addr} (n' : μ.no a) : (μ.cut n).no a := ⟨fun z => n'.1 (List.mem_of_mem_take z), n'.2⟩
mutual
theorem frzD_ok {n : Nat} {g : Nat → Option D} (hg : ∀ b d v, g b = some d → Rep T μ H (.ref b) v → Rep T (μ.cut n) H d v) : ∀ (d d' : D) (v : V), frzD g d = some d' → Rep T μ H d v → Rep T (μ.cut n) H d' v
  | .non, d', v, e, q => by simp only [frzD] at e; cases e; simpa only [Rep] using q
  | .bl b, d', v, e, q => by simp only [frzD] at e; cases e; simpa only [Rep] using q
  | .int b, d', v, e, q => by simp only [frzD] at e; cases e; simpa only [Rep] using q
  | .str b, d', v, e, q => by simp only [frzD] at e; cases e; simpa only [Rep] using q
  | .scr b, d', v, e, q => by
    simp only [frzD] at e; cases e
    simp only [Rep] at q ⊢
    obtain ⟨a, e1, e2⟩ := q
    refine ⟨a, e1, ?_⟩
    rcases e2 with ⟨z1, z2⟩ | z
    · exact .inl ⟨z1, cut_no z2⟩
    · exact .inr z
  | .ref b, d', v, e, q => by simp only [frzD] at e; exact hg b d' v e q
  | .dct ks vs, d', v, e, q => by simp [frzD] at e
  | .tup xs, d', v, e, q => by
    simp only [frzD] at e
    cases z : frzDs g xs with
    | none => rw [z] at e; cases e
    | some ys =>
      rw [z] at e; cases e
      simp only [Rep] at q ⊢
      obtain ⟨a, vs, e1, e2, e3, e4⟩ := q
      exact ⟨a, vs, e1, e2, cut_no e3, frzDs_ok hg xs ys vs z e4⟩
  | .tpl xs, d', v, e, q => by
    simp only [frzD] at e
    cases z : frzDs g xs with
    | none => rw [z] at e; cases e
    | some ys =>
      rw [z] at e; cases e
      simp only [Rep] at q ⊢
      obtain ⟨a, o, vs, e1, e2, c, e3, e4⟩ := q
      exact ⟨a, o, vs, e1, e2, c, cut_no e3, frzDs_ok hg xs ys vs z e4⟩
  | .lst xs, d', v, e, q => by
    simp only [frzD] at e
    cases z : frzDs g xs with
    | none => rw [z] at e; cases e
    | some ys =>
      rw [z] at e; cases e
      simp only [Rep] at q ⊢
      obtain ⟨a, vs, e1, e2, e3, e4⟩ := q
      exact ⟨a, vs, e1, e2, cut_no e3, frzDs_ok hg xs ys vs z e4⟩
  | .obj c fs xs, d', v, e, q => by
    simp only [frzD] at e
    cases z : frzDs g xs with
    | none => rw [z] at e; cases e
    | some ys =>
      rw [z] at e; cases e
      simp only [Rep] at q ⊢
      obtain ⟨a, C, dx, vs, e1, e2, e3, e4, e5, e6⟩ := q
      exact ⟨a, C, dx, vs, e1, e2, e3, cut_no e4, e5, frzDs_ok hg xs ys vs z e6⟩
theorem frzDs_ok {n : Nat} {g : Nat → Option D} (hg : ∀ b d v, g b = some d → Rep T μ H (.ref b) v → Rep T (μ.cut n) H d v) : ∀ (d d' : List D) (v : List V), frzDs g d = some d' → Reps T μ H d v → Reps T (μ.cut n) H d' v
  | [], d', v, e, q => by simp only [frzDs] at e; cases e; simpa only [Reps] using q
  | x :: xs, d', v, e, q => by
    simp only [frzDs] at e
    cases z : frzD g x with
    | none => rw [z] at e; cases e
    | some y =>
      rw [z] at e
      cases z2 : frzDs g xs with
      | none => rw [z2] at e; cases e
      | some ys =>
        rw [z2] at e; cases e
        simp only [Reps] at q ⊢
        obtain ⟨w, r, e1, q1, q2⟩ := q
        exact ⟨w, r, e1, frzD_ok hg x y w z q1, frzDs_ok hg xs ys r z2 q2⟩
end
theorem frzR_ok (r : Rel T μ h H) {fb : Nat} : ∀ (n b : Nat) (d : D) (v : V), frzR fb h.bs n b = some d → Rep T μ H (.ref b) v → Rep T (μ.cut fb) H d v := by
  have low : ∀ (b : Nat) (v : V), b < fb → Rep T μ H (.ref b) v → Rep T (μ.cut fb) H (.ref b) v := fun b v hb q => by
    simp only [Rep] at q ⊢
    obtain ⟨a, e1, e2⟩ := q
    exact ⟨a, by show (μ.ad.take fb)[b]? = some a; rw [List.getElem?_take_of_lt hb]; exact e1, e2⟩
  have out : ∀ (b : Nat) (a : Addr), ¬ b < fb → μ.ad[b]? = some a → (μ.cut fb).no a := fun b a hb e => by
    refine ⟨fun z => ?_, fun z => (r.prh a z).2 (List.mem_of_getElem? e)⟩
    obtain ⟨j, hj⟩ := List.getElem?_of_mem (show a ∈ μ.ad.take fb from z)
    have hj' : j < fb := by
      have := (List.getElem?_eq_some_iff.mp hj).1
      rw [List.length_take] at this
      omega
    rw [List.getElem?_take_of_lt hj'] at hj
    obtain ⟨p1, q1⟩ := List.getElem?_eq_some_iff.mp e
    obtain ⟨p2, q2⟩ := List.getElem?_eq_some_iff.mp hj
    have := (List.getElem_inj (h₀ := p1) (h₁ := p2) r.nd).mp (q1.trans q2.symm)
    omega
  intro n
  induction n with
  | zero =>
    intro b d v e q
    simp only [frzR] at e
    split at e
    · rename_i hb; cases e; exact low b v hb q
    · cases e
  | succ n ih =>
    intro b d v e q
    simp only [frzR] at e
    split at e
    · rename_i hb; cases e; exact low b v hb q
    · rename_i hb
      have q' := q
      simp only [Rep] at q'
      obtain ⟨a, e1, e2⟩ := q'
      split at e
      · rename_i lk xs hx
        cases z : frzDs (frzR fb h.bs n) xs with
        | none => rw [z] at e; cases e
        | some ys =>
          rw [z] at e; cases e
          obtain ⟨vs, e3, e4⟩ := r.at_ _ _ a hx e1
          simp only [Rep]
          exact ⟨a, vs, e2, e3, out b a hb e1, frzDs_ok ih xs ys vs z e4⟩
      · rename_i c fs xs hx
        cases z : frzDs (frzR fb h.bs n) xs with
        | none => rw [z] at e; cases e
        | some ys =>
          rw [z] at e; cases e
          obtain ⟨C, dx, vs, e3, e4, e5, e6⟩ := r.at_ _ _ a hx e1
          simp only [Rep]
          exact ⟨a, C, dx, vs, e2, e3, e4, out b a hb e1, e5, frzDs_ok ih xs ys vs z e6⟩
      · cases e
mutual
theorem Rep.cut {n : Nat} : ∀ (d : D) (v : V), bel n d → Rep T μ H d v → Rep T (μ.cut n) H d v
  | .non, v, _, q => by simpa only [Rep] using q
  | .bl b, v, _, q => by simpa only [Rep] using q
  | .int b, v, _, q => by simpa only [Rep] using q
  | .str b, v, _, q => by simpa only [Rep] using q
  | .scr b, v, _, q => by
    simp only [Rep] at q ⊢
    obtain ⟨a, e1, e2⟩ := q
    refine ⟨a, e1, ?_⟩
    rcases e2 with ⟨z1, z2⟩ | z
    · exact .inl ⟨z1, cut_no z2⟩
    · exact .inr z
  | .ref b, v, hb, q => by
    simp only [bel] at hb
    simp only [Rep] at q ⊢
    obtain ⟨a, e1, e2⟩ := q
    exact ⟨a, by show (μ.ad.take n)[b]? = some a; rw [List.getElem?_take_of_lt hb]; exact e1, e2⟩
  | .dct ks vs, v, _, q => by simp only [Rep] at q
  | .tup xs, v, hb, q => by
    simp only [bel] at hb
    simp only [Rep] at q ⊢
    obtain ⟨a, vs, e1, e2, e3, e4⟩ := q
    exact ⟨a, vs, e1, e2, cut_no e3, Reps.cutR xs vs hb e4⟩
  | .tpl xs, v, hb, q => by
    simp only [bel] at hb
    simp only [Rep] at q ⊢
    obtain ⟨a, o, vs, e1, e2, c, e3, e4⟩ := q
    exact ⟨a, o, vs, e1, e2, c, cut_no e3, Reps.cutR xs vs hb e4⟩
  | .lst xs, v, hb, q => by
    simp only [bel] at hb
    simp only [Rep] at q ⊢
    obtain ⟨a, vs, e1, e2, e3, e4⟩ := q
    exact ⟨a, vs, e1, e2, cut_no e3, Reps.cutR xs vs hb e4⟩
  | .obj c fs xs, v, hb, q => by
    simp only [bel] at hb
    simp only [Rep] at q ⊢
    obtain ⟨a, C, dx, vs, e1, e2, e3, e4, e5, e6⟩ := q
    exact ⟨a, C, dx, vs, e1, e2, e3, cut_no e4, e5, Reps.cutR xs vs hb e6⟩
theorem Reps.cutR {n : Nat} : ∀ (d : List D) (v : List V), bels n d → Reps T μ H d v → Reps T (μ.cut n) H d v
  | [], v, _, q => by simpa only [Reps] using q
  | x :: xs, v, hb, q => by
    simp only [bels] at hb
    simp only [Reps] at q ⊢
    obtain ⟨w, r, e1, q1, q2⟩ := q
    exact ⟨w, r, e1, Rep.cut x w hb.1 q1, Reps.cutR xs r hb.2 q2⟩
end
/-- a call begins -/
def inB (h : Bs) : Bs := { h with fbs := h.bs.length :: h.fbs }
def Mu.enter (μ : Mu) (n : Nat) : Mu := { μ with fb := n :: μ.fb }
theorem Rel.enter (r : Rel T μ h H) : Rel T (μ.enter h.bs.length) (inB h) H := by
  have hmv : ∀ {b : Bx} {a : Addr}, RepB T μ H b a → RepB T (μ.enter h.bs.length) H b a := fun q => RepB.mv (μ := μ) (μ' := μ.enter h.bs.length) (fun _ n => n) (fun _ _ e => e) q
  refine ⟨congrArg (List.cons _) r.fb, r.prh, r.lks, r.lkf, r.len, r.nd, fun i b a e1 e2 => hmv (r.at_ i b a e1 e2), fun k hk => ?_, List.pairwise_cons.mpr ⟨fun k hk => r.lo k hk, r.ord⟩, fun k hk i b hi e => ?_⟩
  · rcases List.mem_cons.mp hk with z | z
    · rw [z]; exact Nat.le_refl _
    · exact r.lo k z
  · rcases List.mem_cons.mp hk with z | z
    · have hl : i < μ.ad.length := by rw [r.len]; rw [z] at hi; exact hi
      have q := r.at_ i b _ e (List.getElem?_eq_getElem hl)
      rw [z, ← r.len]
      cases b with
      | lst lk xs => obtain ⟨vs, _, q⟩ := q; exact Rel.bels' q
      | dct lk ks vs => exact q.elim
      | obj c fs xs => obtain ⟨C, dx, vs, _, _, _, q⟩ := q; exact Rel.bels' q
      | tbl t => exact True.intro
    · exact r.wf k z i b hi e
/-- a call ends -/
def outB (h0 h : Bs) : Bs := { fbs := h0.fbs, bs := h.bs.take h0.bs.length }
theorem Rel.leave {h0 : Bs} {μ0 : Mu} {H0 : Hp} (r0 : Rel T μ0 h0 H0) (s : Stp (μ0.enter h0.bs.length) H0 μ H) (r : Rel T μ h H) : Rel T (μ.cut h0.bs.length) (outB h0 h) H ∧ Stp μ0 H0 (μ.cut h0.bs.length) H := by
  have hf : h.fbs = h0.bs.length :: h0.fbs := by rw [r.fb, s.fbe, r0.fb]; rfl
  have hfb : μ.fb = h0.bs.length :: μ0.fb := s.fbe
  have hn : h0.bs.length ≤ h.bs.length := r.lo _ (by rw [hf]; exact List.mem_cons_self)
  have ho := r.ord
  rw [hf] at ho
  have ho1 := (List.pairwise_cons.mp ho).1
  refine ⟨⟨by show h0.fbs = μ.fb.tail; rw [hfb]; exact r0.fb, fun a ha => ⟨(r.prh a ha).1, fun z => (r.prh a ha).2 (List.mem_of_mem_take z)⟩, fun a ha => ?_, fun b xs a e1 e2 => ?_, ?_, r.nd.sublist (List.take_sublist _ _), fun i b a e1 e2 => ?_, fun k hk => ?_, (List.pairwise_cons.mp ho).2, fun k hk i b hi e => ?_⟩, ⟨by show μ.fb.tail = μ0.fb; rw [hfb]; rfl, fun i a e => ?_, s.lks, s.prs, s.prn, s.keep', fun p hp => s.new p (List.mem_of_mem_take hp)⟩⟩
  · obtain ⟨b, xs, e1, e2⟩ := r.lks a ha
    have ha0 : a ∈ μ0.lk := by
      have := s.lks
      show a ∈ (μ0.enter h0.bs.length).lk
      rw [← this]; exact ha
    obtain ⟨b0, xs0, f1, f2⟩ := r0.lks a ha0
    have hb0 : b0 < h0.bs.length := (List.getElem?_eq_some_iff.mp f2).1
    have g1 := s.pre b0 a f1
    have hbb : b = b0 := by
      obtain ⟨p1, q1⟩ := List.getElem?_eq_some_iff.mp e1
      obtain ⟨p2, q2⟩ := List.getElem?_eq_some_iff.mp g1
      exact (List.getElem_inj (h₀ := p1) (h₁ := p2) r.nd).mp (q1.trans q2.symm)
    subst hbb
    exact ⟨b, xs, by show (μ.ad.take _)[b]? = _; rw [List.getElem?_take_of_lt hb0]; exact e1, by show (h.bs.take _)[b]? = _; rw [List.getElem?_take_of_lt hb0]; exact e2⟩
  · have hb : b < h0.bs.length := by
      have := (List.getElem?_eq_some_iff.mp (show (h.bs.take h0.bs.length)[b]? = _ from e1)).1
      rw [List.length_take] at this; omega
    have e1' : (h.bs.take h0.bs.length)[b]? = _ := e1
    have e2' : (μ.ad.take h0.bs.length)[b]? = _ := e2
    rw [List.getElem?_take_of_lt hb] at e1' e2'
    exact r.lkf b xs a e1' e2'
  · show (μ.ad.take _).length = (h.bs.take _).length
    rw [List.length_take, List.length_take, r.len]
  · have hi : i < h0.bs.length := by
      have := (List.getElem?_eq_some_iff.mp (show (h.bs.take h0.bs.length)[i]? = _ from e1)).1
      rw [List.length_take] at this; omega
    have e1' : (h.bs.take h0.bs.length)[i]? = _ := e1
    have e2' : (μ.ad.take h0.bs.length)[i]? = _ := e2
    rw [List.getElem?_take_of_lt hi] at e1' e2'
    have q := r.at_ i b a e1' e2'
    have w := r.wf h0.bs.length (by rw [hf]; exact List.mem_cons_self) i b hi e1'
    cases b with
    | lst lk xs => obtain ⟨vs, e3, q⟩ := q; exact ⟨vs, e3, Reps.cutR _ _ w q⟩
    | dct lk ks vs => exact q.elim
    | obj c fs xs => obtain ⟨C, dx, vs, e3, e4, e5, q⟩ := q; exact ⟨C, dx, vs, e3, e4, e5, Reps.cutR _ _ w q⟩
    | tbl t => obtain ⟨a1, ps, e3, e4, e5⟩ := q; exact ⟨a1, ps, e3, e4, fun pos cv z => by obtain ⟨c, f1, f2, f3⟩ := e5 pos cv z; exact ⟨c, f1, f2, cut_no f3⟩⟩
  · have := ho1 k hk
    show k ≤ (h.bs.take _).length
    rw [List.length_take]
    omega
  · have hk' := ho1 k hk
    have hi' : i < h0.bs.length := by omega
    have e' : (h.bs.take h0.bs.length)[i]? = _ := e
    rw [List.getElem?_take_of_lt hi'] at e'
    exact r.wf k (by rw [hf]; exact List.mem_cons_of_mem _ hk) i b hi e'
  · have hl : i < h0.bs.length := by rw [← r0.len]; exact (List.getElem?_eq_some_iff.mp e).1
    show (μ.ad.take _)[i]? = _
    rw [List.getElem?_take_of_lt hl]
    exact s.pre i a e
end
end VI
end
section
namespace VI
open PySem PySem.Spec PyProof.Rows L2
/-- what a body comes to, seen by the caller -/
def finF (h : Bs) : F → R D
  | .rt d h' => (match frzD (frzR h.bs.length h'.bs 4) d with | some d' => .ok d' (outB h h') | none => .no)
  | .nx _ h' => .ok .non (outB h h')
  | .ex x _ h' => if noRs x.vs then .ex x (outB h h') else .no
  | _ => .no
def slots (ns : Nat) (ds : List D) : Ev := ds.map some ++ List.replicate (ns - ds.length) none
def runFn (np ns : Nat) (body : SS) (ds : List D) (h : Bs) : R D := if ds.length = np then finF h (body (slots ns ds) (inB h)) else .no
section
variable {T : Tb} {W : WX} {μ μ' : Mu} {H H' : Hp} {h : Bs} {σ : Sg} {ρ : Ev}
theorem RepE.start {N : List Str} {ds : List D} {vs : List V} (q : Reps T μ H ds vs) : RepE T μ H (slots N.length ds) (L2.start N vs) := by
  refine ⟨by simp [slots, L2.start, q.length], fun i d e => ?_⟩
  unfold slots at e
  unfold L2.start
  by_cases hi : i < ds.length
  · rw [List.getElem?_append_left (by simpa using hi), List.getElem?_map] at e
    cases z : ds[i]? with
    | none => rw [z] at e; cases e
    | some x =>
      rw [z] at e
      simp at e
      subst e
      obtain ⟨v, e1, r⟩ := q.get z
      refine ⟨v, ?_, r⟩
      rw [List.getElem?_append_left (by rw [List.length_map, ← q.length]; exact hi), List.getElem?_map, e1]
      rfl
  · rw [List.getElem?_append_right (by simpa using hi), List.getElem?_replicate] at e
    split at e <;> cases e
theorem RepX.cut {n : Nat} {x : Ex} {cls : Value} {d : Option Addr} (q : RepX T μ H x cls d) (hn : noRs x.vs = true) : RepX T (μ.cut n) H x cls d := by
  obtain ⟨C, e1, e2, q⟩ := q
  refine ⟨C, e1, e2, ?_⟩
  rcases q with q | ⟨dx, vs, e3, e4, e5, e6, q⟩
  · exact .inl q
  · exact .inr ⟨dx, vs, e3, e4, cut_no e5, e6, Reps.cutR _ _ (noRs.bels _ hn) q⟩
theorem fin_ok {Q : VK} {E : XK} {f : F} (r : Rel T μ h H) (o : OutV T (fun c d _ H => E c d H) [] μ H Q (finF h f)) : OutS T (fun c d _ H => E c d H) (μ.enter h.bs.length) H { nx := fun _ H' => Q .non H', rt := Q } f := by
  cases f with
  | rt d h1 =>
    intro μ1 H1 v s r1 rv
    simp only [finF] at o
    cases z : frzD (frzR h.bs.length h1.bs 4) d with
    | none => rw [z] at o; exact o.elim
    | some d' =>
      rw [z] at o
      obtain ⟨r2, s2⟩ := Rel.leave r s r1
      exact o _ H1 v s2 r2 (frzD_ok (fun b d v => frzR_ok r1 4 b d v) d d' v z rv)
  | nx ρ1 h1 =>
    intro μ1 H1 σ1 s r1 e1
    obtain ⟨r2, s2⟩ := Rel.leave r s r1
    exact o _ H1 .non s2 r2 rep_nil
  | ex x ρ1 h1 =>
    intro μ1 H1 σ1 cls d s r1 e1 q
    simp only [finF] at o
    split at o
    · rename_i hn
      obtain ⟨r2, s2⟩ := Rel.leave r s r1
      exact o _ H1 cls d s2 r2 (q.cut hn)
    · exact o.elim
  | bk ρ1 h1 => exact o.elim
  | ct ρ1 h1 => exact o.elim
  | no => exact o
theorem fn_sound {P : Program} {w : World} {mg : Str → Option Value} {base : Heap} {x qual : Str} {params : Arguments} {body : List Stmt} {scope : Scope} {dvs : List V} {kws : List (Str × V)} {f : Addr} {fd : FuncData} {N ps : List Str} {k : Nat} {ss : SS}
    (F : FunD T.K x qual params body scope dvs kws f fd) (S : FnScope N ps scope)
    (hb : ∀ (cdv : Value) (A : Around) (outer : List Env) (s : Shared) (H : Hp) (E : XK), Room k (A.deeper (envOfC qual scope s.heap.objs.size f cdv)) →
      PSs (cxOf (CX P w) P w T.K mg base N qual scope f cdv A outer s H E) body (tS' T (fun c d _ H => E c d H) ss)) :
    FnOk P w T.K mg base (CX P w) (k + 1) f fd ps (spF T (runFn ps.length N.length ss)) := by
  refine F.ok S (fun vs H Q E h => ?_) (fun cdv A outer s H vs Q E hr h => ?_)
  · obtain ⟨μ, hh, ds, r, q, o⟩ := h
    unfold runFn at o
    split at o
    · rename_i hl
      rw [← q.length]; exact hl
    · exact o.elim
  · refine ⟨_, hb cdv A outer s H E hr, ?_⟩
    obtain ⟨μ, hh, ds, r, q, o⟩ := h
    unfold runFn at o
    split at o
    · exact ⟨μ.enter hh.bs.length, _, inB hh, r.enter, RepE.start (Reps.mv (μ := μ) (μ' := μ.enter hh.bs.length) (fun _ n => n) (fun _ _ e => e) _ _ q), fin_ok r o⟩
    · exact o.elim
end
end VI
end
section
namespace VI
open PySem PySem.Spec PyProof.Rows L2
section
variable {X : Cx} {CX : CXT} {k : Nat} {f C : Addr} {fd : FuncData} {ps : List Str} {sp : Sp} {dvs : List V} {ds : List Value} {E : Sg → XK} {x : Str} {p pos : Pos} {e : Expr} {es : List Expr} {t : TA}
/-- C(..), the wish by the caller's slots -/
def tMakeS (C : Addr) (sp : Sp) (dvs : List V) (E : Sg → XK) (t : TA) : TE := fun σ H Q => t σ H fun vs H1 => ∀ x dx, H1 x = none → H1 dx = none → dx ≠ x →
  sp (.ref x :: (vs ++ dvs)) (upd (upd H1 dx (.own x)) x (.ins C dx [])) (fun v H2 => v = .non ∧ Q (.ref x) H2) (E σ)
theorem run_makeS {pins : List (Addr × Obj)} {σ : Sg} {H : Hp} {s : Shared} {Q : VK} {us : List Value} {vs : List V} (M : Mk X.K C f) (F : FnOk X.prog X.w X.K X.mg X.base CX k f fd ps sp) (hr : Room (k + 1) X.A) (hb : Binds X.K fd ps ds) (hd : Vals dvs ds)
    (hx : PassesAt CX X σ (E σ)) (I : Inv X pins σ H s) (r : Vals vs us)
    (h : ∀ x dx, H x = none → H dx = none → dx ≠ x → sp (.ref x :: (vs ++ dvs)) (upd (upd H dx (.own x)) x (.ins C dx [])) (fun v H2 => v = .non ∧ Q (.ref x) H2) (E σ)) :
    wpAny (model X.prog X.w) X.A (call (.ref C) us) (EP X pins σ Q) X.xe s := by
  have hq := h (s.heap.objs.size + 1) s.heap.objs.size (I.hok.fresh (Nat.le_succ _)) (I.hok.fresh (Nat.le_refl _)) (Nat.ne_of_lt (Nat.lt_succ_self _))
  have I2 := Inv.made (C := C) I
  have r2 : Vals (V.ref (s.heap.objs.size + 1) :: (vs ++ dvs)) (Value.ref (s.heap.objs.size + 1) :: (us ++ ds)) := .cons rfl (r.append hd)
  have hl : (Value.ref (s.heap.objs.size + 1) :: us ++ ds).length = ps.length := by
    have e := r2.length
    rw [F.len _ _ _ _ hq] at e
    exact e.symm
  refine wpAny_call (make_map (f := f) I.kIn M.makes M.init (beq_iff_eq.mp M.fn) (codeAny_mono (F.run _ X.stack _ _ ⟨Value.ref (s.heap.objs.size + 1) :: us, []⟩ (Value.ref (s.heap.objs.size + 1) :: (us ++ ds)) _ _ (E σ) (hr.make C us [])
    (I2.env0.make C us []) (hb _ (Value.ref (s.heap.objs.size + 1) :: us) I2.kIn hl) r2 hq) fun r s' hq' => ?_))
  cases r with
  | error e => exact hx pins _ _ e s' I2 hq'
  | ok fl =>
    cases fl with
    | ret u =>
      obtain ⟨v, H', I3, rv, ev, q3⟩ := I2.after hq'
      subst ev
      exact ⟨rv, ⟨V.ref (s.heap.objs.size + 1), H', I3, rfl, q3⟩⟩
    | next => exact False.elim hq'
    | brk => exact False.elim hq'
    | cont => exact False.elim hq'
theorem pe_makeS (M : Mk X.K C f) (F : FnOk X.prog X.w X.K X.mg X.base CX k f fd ps sp) (hr : Room (k + 1) X.A) (hg : Gl X x) (hm : X.mg x = some (.ref C)) (hb : Binds X.K fd ps ds) (hd : Vals dvs ds) (hx : ∀ σ, PassesAt CX X σ (E σ))
    (ha : PA X (e :: es) t) (hdb : (x == ("__debug__" : Str)) = false) (he : starEach (e :: es) X.env = (false, eval e X.env) :: starEach es X.env) (hpl : (backTo pos (starEach es X.env)).any (·.1) = false) :
    PE X (.Call (.Name x p) (e :: es) [] pos) (tMakeS C sp dvs E t) := by
  refine ⟨fun pins s σ H Q I h => ?_⟩
  refine wpAny_Call_Name_kw (ld_glob I hg hm ?_ hdb)
  refine PySem.W.callWith_K (h₀ := X.base) I.ok.mod.kin M.kp (thn (ha.run pos pins s σ H _ I h) fun us s1 ⟨vs, H1, I1, r, q⟩ => ⟨I1.kIn, ?_⟩) he hpl
  exact run_makeS M F hr hb hd (hx σ) I1 r q
end
/-- an instance of the class c, by its __init__; frozen, or a box -/
def makeD (c : Nat) (fz : Bool) (init : List D → Bs → R D) (ds : List D) (h : Bs) : R D :=
  match init (.ref h.bs.length :: ds) { fbs := h.bs.length :: h.fbs, bs := h.bs ++ [.obj c [] []] } with
  | .ok .non h2 => (match frzR h.bs.length h2.bs 4 h.bs.length with | some d => .ok d (outB h h2) | none => .no)
  | .ex x h2 => if noRs x.vs then .ex x (outB h h2) else .no
  | _ => .no
section
variable {X : Cx} {T : Tb} {W : WX} {μ μ' : Mu} {H H' : Hp} {h : Bs} {σ : Sg} {ρ : Ev}
theorem make_imp {c : Nat} {C : Addr} {fz : Bool} {init : List D → Bs → R D} {sa : SA} (hC : T.cls c = some C) : ∀ σ H Q, tV T W (sCall (makeD c fz init) sa) σ H Q → tMakeS C (spF T init) [] (WE W) (tA' T W sa) σ H Q := fun σ H Q ⟨μ, ρ, h, r, e, o⟩ => by
  refine ⟨μ, ρ, h, r, e, OutA.mono (OutV.bindA o) ?_⟩
  rintro vs H1 ⟨μ1, ds, h1, s1, r1, rv, o1⟩ x dx hx hdx hne
  rw [List.append_nil]
  have r2 : Rel T (μ1.enter h1.bs.length) (inB h1) H1 := r1.enter
  have sd : Stp (μ1.enter h1.bs.length) H1 (μ1.enter h1.bs.length) (upd H1 dx (.own x)) := Stp.laid hdx
  have r3 : Rel T (μ1.enter h1.bs.length) (inB h1) (upd H1 dx (.own x)) := r2.laid hdx
  have hx' : upd H1 dx (.own x) x = none := by rw [upd_ne (Ne.symm hne)]; exact hx
  have sb : Stp (μ1.enter h1.bs.length) (upd H1 dx (.own x)) ((μ1.enter h1.bs.length).push x) (upd (upd H1 dx (.own x)) x (.ins C dx [])) := Stp.box hx'
  have r4 : Rel T ((μ1.enter h1.bs.length).push x) { (inB h1) with bs := (inB h1).bs ++ [.obj c [] []] } (upd (upd H1 dx (.own x)) x (.ins C dx [])) :=
    r3.box hx' (fun _ z => by cases z) ⟨C, dx, [], hC, upd_same, rfl, .nil⟩
  have hxa : ((μ1.enter h1.bs.length).push x).ad[h1.bs.length]? = some x := by
    show (μ1.ad ++ [x])[h1.bs.length]? = some x
    rw [← r1.len]; simp
  have q4 : Reps T ((μ1.enter h1.bs.length).push x) (upd (upd H1 dx (.own x)) x (.ins C dx [])) (.ref h1.bs.length :: ds) (.ref x :: vs) :=
    .cons (by simp only [Rep]; exact ⟨x, hxa, rfl⟩) (Reps.step (sd.trans sb) _ _ (Reps.mv (μ := μ1) (μ' := μ1.enter h1.bs.length) (fun _ n => n) (fun _ _ e => e) _ _ rv))
  refine ⟨_, _, _, r4, q4, ?_⟩
  unfold makeD at o1
  have sAll := sd.trans sb
  cases z : init (.ref h1.bs.length :: ds) { fbs := h1.bs.length :: h1.fbs, bs := h1.bs ++ [.obj c [] []] } with
  | no => rw [z] at o1; exact o1.elim
  | ex y h2 =>
    have z' : init (.ref h1.bs.length :: ds) { (inB h1) with bs := (inB h1).bs ++ [.obj c [] []] } = .ex y h2 := z
    rw [z']
    rw [z] at o1
    simp only at o1
    split at o1
    · rename_i hn
      intro μ5 H5 cls d s5 r5 q5
      obtain ⟨r6, s6⟩ := Rel.leave r1 (sAll.trans s5) r5
      exact o1 _ H5 cls d s6 r6 (q5.cut hn)
    · exact o1.elim
  | ok dv h2 =>
    have z' : init (.ref h1.bs.length :: ds) { (inB h1) with bs := (inB h1).bs ++ [.obj c [] []] } = .ok dv h2 := z
    rw [z']
    rw [z] at o1
    cases dv with
    | non =>
      simp only at o1
      intro μ5 H5 v s5 r5 q5
      simp only [Rep] at q5
      refine ⟨q5, ?_⟩
      cases zf : frzR h1.bs.length h2.bs 4 h1.bs.length with
      | none => rw [zf] at o1; exact o1.elim
      | some d' =>
        rw [zf] at o1
        obtain ⟨r6, s6⟩ := Rel.leave r1 (sAll.trans s5) r5
        exact o1 _ H5 _ s6 r6 (frzR_ok r5 4 _ d' _ zf (by simp only [Rep]; exact ⟨x, s5.pre _ _ hxa, rfl⟩))
    | _ => exact o1.elim
theorem pv_make {k c : Nat} {C f : Addr} {fd : FuncData} {ps : List Str} {fz : Bool} {init : List D → Bs → R D} {x : Str} {p pos : Pos} {e : Expr} {es : List Expr} {sa : SA} (hC : T.cls c = some C) (M : Mk X.K C f)
    (F : FnOk X.prog X.w X.K X.mg X.base (CX X.prog X.w) k f fd ps (spF T init)) (hr : Room (k + 1) X.A) (hg : Gl X x) (hm : X.mg x = some (.ref C)) (hb : Binds X.K fd ps []) (tk : Takes X W)
    (hdb : (x == ("__debug__" : Str)) = false) (hs : noStars (e :: es) = true) (ha : PA X (e :: es) (tA' T W sa)) : PE X (.Call (.Name x p) (e :: es) [] pos) (tV T W (sCall (makeD c fz init) sa)) := by
  simp only [noStars, List.all_cons, Bool.and_eq_true, Bool.not_eq_true'] at hs
  exact PE.imp (pe_makeS M F hr hg hm hb .nil (fun σ => passAt tk σ) ha hdb (star_no hs.1) (back_no (show noStars es = true from hs.2))) (make_imp hC)
end
end VI
end
section
namespace VI
open PySem PySem.Spec PyProof.Rows L2
section
variable {X : Cx} {T : Tb} {W : WX} {μ μ' : Mu} {H H' : Hp} {h : Bs} {σ : Sg} {ρ : Ev}
/-! ### any, all -/
def blsD : List D → Option (List Bool)
  | [] => some []
  | .bl i :: xs => (match blsD xs with | some ns => some (i :: ns) | none => none)
  | _ :: _ => none
theorem blsD_eq : ∀ {xs : List D} {ns : List Bool}, blsD xs = some ns → xs = ns.map .bl
  | [], ns, e => by simp [blsD] at e; subst e; rfl
  | .bl i :: xs, ns, e => by
    simp only [blsD] at e
    cases q : blsD xs with
    | none => rw [q] at e; cases e
    | some ms => rw [q] at e; cases e; rw [blsD_eq q]; rfl
  | .non :: _, _, e | .int _ :: _, _, e | .str _ :: _, _, e | .tup _ :: _, _, e | .tpl _ :: _, _, e | .lst _ :: _, _, e | .dct _ _ :: _, _, e | .obj _ _ _ :: _, _, e | .ref _ :: _, _, e | .scr _ :: _, _, e => by simp [blsD] at e
theorem blsD_map : ∀ ns : List Bool, blsD (ns.map .bl) = some ns
  | [] => rfl
  | n :: ns => by simp [blsD, blsD_map ns]
def anyD (f : List Bool → Bool) (ds : List D) (h : Bs) : R D := match ds with
  | [d] => (match lstOf h d with
    | some xs => (match blsD xs with
      | some bs => .ok (.bl (f bs)) h
      | none => .no)
    | none => .no)
  | _ => .no
theorem anyD_calm {f : List Bool → Bool} {ds : List D} : Calm (anyD f ds h) := by
  intro x h' z; unfold anyD at z
  repeat' split at z
  all_goals cases z
theorem any_pre {f : List Bool → Bool} (hK : X.K = T.K) : ∀ xs H Q, rDn T (anyD f) xs H Q → ∃ (a : Addr) (bs : List Bool), xs = [V.ref a] ∧ SqL X.K H a (bs.map V.bl) ∧ Q (.bl (f bs)) H := fun xs H Q ⟨μ, h, ds, r, rd, o⟩ => by
  unfold anyD at o
  split at o
  · obtain ⟨v, rfl, rv⟩ := rd.is1
    split at o
    · rename_i ys hy
      split at o
      · rename_i bs hb
        obtain ⟨a, vs, rfl, e2, e3⟩ := r.lstOf rv hy
        rw [blsD_eq hb] at e3
        rw [e3.bls] at e2
        exact ⟨a, bs, rfl, by rw [hK]; exact e2, o μ H _ Stp.refl r (rep_bl rfl)⟩
      · exact o.elim
    · exact o.elim
  · exact o.elim
theorem cv_any (hK : X.K = T.K) (hc : X.calm = true) : CallR X (.builtin "any") (rDn T (anyD fun bs => bs.any id)) := CallR.imp (cr_any hc) (any_pre hK)
theorem cv_all (hK : X.K = T.K) (hc : X.calm = true) : CallR X (.builtin "all") (rDn T (anyD fun bs => bs.all id)) := CallR.imp (cr_all hc) (any_pre hK)
/-! ### list, tuple -/
def listD (bx : Bool) (ds : List D) (h : Bs) : R D := match ds with
  | [d] => (match seqOf h d with
    | some xs => newL bx xs h
    | none => .no)
  | _ => .no
theorem listD_calm {bx : Bool} {ds : List D} : Calm (listD bx ds h) := by
  unfold listD
  split
  · split
    · exact newL_calm
    · intro x h' z; cases z
  · intro x h' z; cases z
theorem cv_list {bx : Bool} (hK : X.K = T.K) : CallR X (.type "list") (rDn T (listD bx)) := CallR.imp call_list_of fun xs H Q ⟨μ, h, ds, r, rd, o⟩ => by
  unfold listD at o
  split at o
  · obtain ⟨v, rfl, rv⟩ := rd.is1
    split at o
    · rename_i ys hy
      obtain ⟨a, vs, rfl, e2, e3⟩ := r.seqOf rv hy
      exact ⟨a, vs, rfl, by rw [hK]; exact e2.symm, (newL_ok r e3 o).2⟩
    · exact o.elim
  · exact o.elim
def tupleD (ds : List D) (h : Bs) : R D := match ds with
  | [.tup xs] => .ok (.tup xs) h
  | [.tpl xs] => .ok (.tpl xs) h
  | [d] => (match lstOf h d with
    | some xs => newT xs h
    | none => .no)
  | _ => .no
theorem tupleD_calm {ds : List D} : Calm (tupleD ds h) := by
  unfold tupleD
  split
  · intro x h' z; cases z
  · intro x h' z; cases z
  · split
    · exact newT_calm
    · intro x h' z; cases z
  · intro x h' z; cases z
theorem cv_tuple (hK : X.K = T.K) : CallR X (.type "tuple") (rDn T tupleD) := CallR.imp call_tuple_of fun xs H Q ⟨μ, h, ds, r, rd, o⟩ => by
  unfold tupleD at o
  split at o
  · obtain ⟨v, rfl, rv⟩ := rd.is1
    obtain ⟨a, vs, rfl, e2, e3, e4⟩ := rv.tupOf
    exact ⟨a, vs, rfl, .inr ⟨SqT.of e2, o μ H _ Stp.refl r rv⟩⟩
  · obtain ⟨v, rfl, rv⟩ := rd.is1
    obtain ⟨a, ob, vs, rfl, e2, _, e3, e4⟩ := rv.tplOf
    exact ⟨a, vs, rfl, .inr ⟨SqT.fz e2, o μ H _ Stp.refl r rv⟩⟩
  · obtain ⟨v, rfl, rv⟩ := rd.is1
    split at o
    · rename_i ys hy
      obtain ⟨a, vs, rfl, e2, e3⟩ := r.lstOf rv hy
      exact ⟨a, vs, rfl, .inl ⟨by rw [hK]; exact e2, (newT_ok r e3 o).2⟩⟩
    · exact o.elim
  · exact o.elim
/-! ### sorted, of ints -/
def insI (n : Int) : List Int → List Int
  | [] => [n]
  | m :: ms => if n ≤ m then n :: m :: ms else m :: insI n ms
def sortI : List Int → List Int
  | [] => []
  | n :: ns => insI n (sortI ns)
theorem insI_perm (n : Int) : ∀ ms, (insI n ms).Perm (n :: ms)
  | [] => .refl _
  | m :: ms => by
    simp only [insI]
    split
    · exact .refl _
    · exact ((insI_perm n ms).cons m).trans (.swap _ _ _)
theorem sortI_perm : ∀ ns, (sortI ns).Perm ns
  | [] => .refl _
  | n :: ns => (insI_perm n (sortI ns)).trans ((sortI_perm ns).cons n)
theorem insI_sorted (n : Int) : ∀ ms : List Int, ms.Pairwise (· ≤ ·) → (insI n ms).Pairwise (· ≤ ·)
  | [], _ => by simp [insI]
  | m :: ms, h => by
    simp only [insI]
    have h' := List.pairwise_cons.mp h
    split
    · rename_i hnm
      refine List.pairwise_cons.mpr ⟨fun a ha => ?_, h⟩
      rcases List.mem_cons.mp ha with z | z
      · rw [z]; exact hnm
      · exact Int.le_trans hnm (h'.1 a z)
    · rename_i hnm
      refine List.pairwise_cons.mpr ⟨fun a ha => ?_, insI_sorted n ms h'.2⟩
      rcases List.mem_cons.mp ((insI_perm n ms).mem_iff.mp ha) with z | z
      · rw [z]; omega
      · exact h'.1 a z
theorem sortI_sorted : ∀ ns, (sortI ns).Pairwise (· ≤ ·)
  | [] => .nil
  | n :: ns => insI_sorted n _ (sortI_sorted ns)
def sortedD (bx : Bool) (ds : List D) (h : Bs) : R D := match ds with
  | [d] => (match lstOf h d with
    | some xs => (match intsD xs with
      | some ns => newL bx ((sortI ns).map .int) h
      | none => .no)
    | none => .no)
  | _ => .no
theorem sortedD_calm {bx : Bool} {ds : List D} : Calm (sortedD bx ds h) := by
  unfold sortedD
  repeat' split
  · exact newL_calm
  all_goals (intro x h' z; cases z)
theorem cv_sorted {bx : Bool} (hK : X.K = T.K) : CallR X (.builtin "sorted") (rDn T (sortedD bx)) := CallR.imp cr_sortedI fun xs H Q ⟨μ, h, ds, r, rd, o⟩ => by
  unfold sortedD at o
  split at o
  · obtain ⟨v, rfl, rv⟩ := rd.is1
    split at o
    · rename_i ys hy
      split at o
      · rename_i ns hn
        obtain ⟨a, vs, rfl, e2, e3⟩ := r.lstOf rv hy
        rw [intsD_eq hn] at e3
        rw [e3.intsOf] at e2
        refine ⟨a, ns, rfl, by rw [hK]; exact e2, fun ns' p hp hs hnew => ?_⟩
        have e : ns' = sortI ns := PySem.W.ksm_same (hp.trans (sortI_perm ns).symm) hs (sortI_sorted ns)
        subst e
        exact (newL_ok r (Reps.ints _) o).2 p hnew
      · exact o.elim
    · exact o.elim
  · exact o.elim
/-! ### methods of list boxes -/
def rMt (T : Tb) (f : D → List D → Bs → R D) : V → List V → Hp → VK → Prop := fun x xs H Q => ∃ μ h d ds, Rel T μ h H ∧ Rep T μ H d x ∧ Reps T μ H ds xs ∧ OutV T noW [] μ H Q (f d ds h)
theorem MtR.imp {id : String} {r r' : V → List V → Hp → VK → Prop} (h : MtR X id r) (i : ∀ x xs H Q, r' x xs H Q → r x xs H Q) : MtR X id r' := fun pins s σ H x xs v us Q I rx rxs w => h pins s σ H x xs v us Q I rx rxs (i x xs H Q w)
def appD (d : D) (ds : List D) (h : Bs) : R D := match d, ds with
  | .ref b, [v] => (match h.bs[b]? with
    | some (.lst false xs) => if decide (xs.length < sizeLine) && okW h b v then .ok .non (putL b (xs ++ [v]) h) else .no
    | _ => .no)
  | _, _ => .no
theorem appD_calm {d : D} {ds : List D} : Calm (appD d ds h) := by
  intro x h' z; unfold appD at z
  repeat' split at z
  all_goals cases z
theorem mv_append : MtR X "list.append" (rMt T appD) := MtR.imp mt_append fun x xs H Q ⟨μ, h, d, ds, r, rd, rds, o⟩ => by
  unfold appD at o
  split at o
  · rename_i b v
    obtain ⟨w, rfl, rw'⟩ := rds.is1
    split at o
    · rename_i ys hb
      split at o
      · rename_i hc
        simp only [Bool.and_eq_true, decide_eq_true_eq] at hc
        obtain ⟨a, vs, e1, e2, e3, q⟩ := r.boxAt hb rd
        obtain ⟨r', st⟩ := r.putL hb e1 (q.append (.one rw')) (fun k hk hb' hx => bels_append hx (by simp only [bels]; exact ⟨okW_bel r hc.2 k hk hb', trivial⟩))
        exact ⟨a, vs, w, e2, rfl, e3, by rw [← q.length]; exact hc.1, o μ _ .non st r' rep_nil⟩
      · exact o.elim
    · exact o.elim
  · exact o.elim
def okWs (h : Bs) (b : Nat) (ys : List D) : Bool := match h.fbs with
  | [] => true
  | k :: _ => decide (k ≤ b) || noRs ys
def extD (d : D) (ds : List D) (h : Bs) : R D := match d, ds with
  | .ref b, [e] => (match h.bs[b]?, lstS h e with
    | some (.lst false xs), some ys => if decide (xs.length + ys.length ≤ sizeLine) && okWs h b ys then .ok .non (putL b (xs ++ ys) h) else .no
    | _, _ => .no)
  | _, _ => .no
theorem extD_calm {d : D} {ds : List D} : Calm (extD d ds h) := by
  intro x h' z; unfold extD at z
  split at z
  · split at z
    · split at z <;> cases z
    · cases z
  · cases z
theorem okWs_bel (r : Rel T μ h H) {b : Nat} {ys : List D} (e : okWs h b ys = true) : ∀ k ∈ h.fbs, b < k → bels k ys := by
  intro k hk hb
  unfold okWs at e
  have o := r.ord
  cases q : h.fbs with
  | nil => rw [q] at hk; cases hk
  | cons k0 ks =>
    rw [q] at hk e o
    simp only [Bool.or_eq_true, decide_eq_true_eq] at e
    rcases e with e | e
    · exfalso
      rcases List.mem_cons.mp hk with z | z
      · subst z; omega
      · have : k0 ≥ k := (List.pairwise_cons.mp o).1 k z
        omega
    · exact noRs.bels ys e
theorem mv_extend : MtR X "list.extend" (rMt T extD) := MtR.imp mt_extend fun x xs H Q ⟨μ, h, d, ds, r, rd, rds, o⟩ => by
  unfold extD at o
  split at o
  · rename_i b v
    obtain ⟨w, rfl, rw'⟩ := rds.is1
    split at o
    · rename_i ys zs hb hz
      split at o
      · rename_i hc
        simp only [Bool.and_eq_true, decide_eq_true_eq] at hc
        obtain ⟨a, vs, e1, e2, e3, q⟩ := r.boxAt hb rd
        obtain ⟨a2, ws, f1, f2, f3⟩ := r.lstS rw' hz
        obtain ⟨r', st⟩ := r.putL hb e1 (q.append f3) (fun k hk hb' hx => bels_append hx (okWs_bel r hc.2 k hk hb'))
        subst f1
        exact ⟨a, a2, vs, ws, e2, rfl, e3, f2, by rw [← q.length, ← f3.length]; exact hc.1, o μ _ .non st r' rep_nil⟩
      · exact o.elim
    · exact o.elim
  · exact o.elim
def popD (d : D) (ds : List D) (h : Bs) : R D := match d, ds with
  | .ref b, [] => (match h.bs[b]? with
    | some (.lst false xs) => (match xs[xs.length - 1]? with
      | some y => .ok y (putL b xs.dropLast h)
      | none => .no)
    | _ => .no)
  | .ref b, [.int i] => (match h.bs[b]? with
    | some (.lst false xs) => if -(2 ^ 63) ≤ i ∧ i < 2 ^ 63 then (match seqIndex? i xs.length with
      | some k => (match xs[k]? with
        | some y => .ok y (putL b (xs.eraseIdx k) h)
        | none => .no)
      | none => .no) else .no
    | _ => .no)
  | _, _ => .no
theorem popD_calm {d : D} {ds : List D} : Calm (popD d ds h) := by
  intro x h' z; unfold popD at z
  repeat' split at z
  all_goals cases z
theorem Reps.eraseIdx : ∀ {xs : List D} {vs : List V} (i : Nat), Reps T μ H xs vs → Reps T μ H (xs.eraseIdx i) (vs.eraseIdx i)
  | [], vs, i, q => by simp only [Reps] at q; subst q; simp [Reps]
  | x :: xs, vs, 0, q => by
    simp only [Reps] at q
    obtain ⟨v, r, rfl, q1, q2⟩ := q
    exact q2
  | x :: xs, vs, i + 1, q => by
    simp only [Reps] at q
    obtain ⟨v, r, rfl, q1, q2⟩ := q
    exact .cons q1 (Reps.eraseIdx i q2)
theorem Reps.dropLast {xs : List D} {vs : List V} (q : Reps T μ H xs vs) : Reps T μ H xs.dropLast vs.dropLast := by
  rw [List.dropLast_eq_take, List.dropLast_eq_take, ← q.length]
  exact q.take _
theorem mv_pop : MtR X "list.pop" (rMt T popD) := by
  intro pins s σ H x xs v us Q I rx rxs ⟨μ, h, d, ds, r, rd, rds, o⟩
  unfold popD at o
  split at o
  · rename_i b
    simp only [Reps] at rds
    subst rds
    split at o
    · rename_i ys hb
      split at o
      · rename_i y hy
        obtain ⟨a, vs, e1, e2, e3, q⟩ := r.boxAt hb rd
        obtain ⟨w, f1, f2⟩ := q.get hy
        obtain ⟨r', st⟩ := r.putL hb e1 q.dropLast (fun k hk hb' hx => bels_sub (List.dropLast_sublist _) hx)
        exact mt_pop pins s σ H x [] v us Q I rx rxs ⟨a, vs, w, e2, rfl, e3, by rw [← q.length]; exact f1, o μ _ w st r' (Rep.step st _ _ f2)⟩
      · exact o.elim
    · exact o.elim
  · rename_i b i
    obtain ⟨w, rfl, rw'⟩ := rds.is1
    simp only [Rep] at rw'
    subst rw'
    split at o
    · rename_i ys hb
      split at o
      · rename_i hi
        split at o
        · rename_i k hk
          split at o
          · rename_i y hy
            obtain ⟨a, vs, e1, e2, e3, q⟩ := r.boxAt hb rd
            obtain ⟨w, f1, f2⟩ := q.get hy
            obtain ⟨r', st⟩ := r.putL hb e1 (q.eraseIdx k) (fun k' hk hb' hx => bels_sub (List.eraseIdx_sublist _ _) hx)
            exact mt_popAt pins s σ H x _ v us Q I rx rxs ⟨a, vs, i, k, w, e2, rfl, e3, hi.1, hi.2, by rw [← q.length]; exact hk, f1, o μ _ w st r' (Rep.step st _ _ f2)⟩
          · exact o.elim
        · exact o.elim
      · exact o.elim
    · exact o.elim
  · exact o.elim
end
end VI
end
section
namespace VI
open PySem PySem.Spec PyProof.Rows L2
section
variable {X : Cx} {T : Tb} {W : WX} {μ μ' : Mu} {H H' : Hp} {h : Bs} {σ : Sg} {ρ : Ev}
/-! ### methods of lists -/
def sBm (f : D → List D → Bs → R D) (so : SV) (sa : SA) : SV := fun ρ h => (so ρ h).bind fun d h1 => if (lstOf h1 d).isSome then (sa ρ h1).bind fun ds h2 => f d ds h2 else .no
theorem tyL (hK : X.K = T.K) (r : Rel T μ h H) {d : D} {v : V} (q : Rep T μ H d v) (e : (lstOf h d).isSome = true) : tyV X.K "list" v H := by
  obtain ⟨xs, e⟩ := Option.isSome_iff_exists.mp e
  obtain ⟨a, vs, rfl, e2, _⟩ := r.lstOf q e
  exact .inl ⟨rfl, vs, by rw [hK]; exact e2⟩
variable {name : Str} {id : String} {f : D → List D → Bs → R D} {ob e : Expr} {es : List Expr} {apos cpos : Pos} {so : SV} {sa : SA}
theorem pv_bm (cf : ∀ d ds h, Calm (f d ds h)) (hK : X.K = T.K) (pa : PlainAttrs "list") (slot : Slot "list" name id) (hty : typeOf (.builtin id) = pure (.type "method_descriptor")) (hm : MtR X id (rMt T f))
    (hb : noSuper ob = true) (hs : noStars (e :: es) = true) (hn : (e :: es).length < 30) (hl : (apos.endLine == cpos.line) = true) (ho : PE X ob (tV T W so)) (ha : PA X (e :: es) (tA' T W sa)) :
    PE X (.Call (.Attribute ob name apos) (e :: es) [] cpos) (tV T W (sBm f so sa)) := by
  have hs' := hs
  simp only [noStars, List.all_cons, Bool.and_eq_true, Bool.not_eq_true'] at hs'
  refine PE.imp (pe_bm pa slot hty hm ho ha (abase hb) ?_ hl (star_no hs'.1) (back_no (show noStars es = true from hs'.2))) fun σ H Q ⟨μ, ρ, h, r, e, o⟩ => ?_
  · have := form_ok (pos := cpos) (env := X.env) (n := (e :: es).length) hs hn
    unfold methodCallForm at this
    have e0 : backToKw cpos (keywordEach [] X.env) = [] := rfl
    rw [e0] at this ⊢
    simpa using this
  · refine ⟨μ, ρ, h, r, e, OutV.mono (OutV.bind o) ?_⟩
    rintro v H1 ⟨μ1, d, h1, s1, r1, rv, o1⟩
    split at o1
    · rename_i hd
      refine ⟨tyL hK r1 rv hd, μ1, ρ, h1, r1, e.step s1, OutA.mono (OutV.bindA o1) ?_⟩
      rintro vs H2 ⟨μ2, ds, h2, s2, r2, rds, o2⟩
      exact ⟨μ2, h2, d, ds, r2, Rep.step s2 _ _ rv, rds, o2.calm (cf _ _ _)⟩
    · exact o1.elim
theorem pv_bm0 (cf : ∀ d ds h, Calm (f d ds h)) (hK : X.K = T.K) (pa : PlainAttrs "list") (slot : Slot "list" name id) (hty : typeOf (.builtin id) = pure (.type "method_descriptor")) (hm : MtR X id (rMt T f))
    (hb : noSuper ob = true) (hl : (apos.endLine == cpos.line) = true) (ho : PE X ob (tV T W so)) :
    PE X (.Call (.Attribute ob name apos) [] [] cpos) (tV T W (sBm f so saNil)) :=
  PE.imp (pe_bm0 pa slot hty hm ho (abase hb) hl) fun σ H Q ⟨μ, ρ, h, r, e, o⟩ => by
    refine ⟨μ, ρ, h, r, e, OutV.mono (OutV.bind o) ?_⟩
    rintro v H1 ⟨μ1, d, h1, s1, r1, rv, o1⟩
    split at o1
    · rename_i hd
      exact ⟨tyL hK r1 rv hd, μ1, h1, d, [], r1, rv, .nil, OutV.calm (W := W) (σ := σ) o1 (cf _ _ _)⟩
    · exact o1.elim
/-! ### x op= e -/
def ssAug (i : Nat) (f : D → D → Bs → R D) (s : SV) : SS := fun ρ h => match ρ[i]? with
  | some (some x) => (s ρ h).toF ρ fun y h1 => (f x y h1).toF ρ fun z h2 => .nx (ρ.set i (some z)) h2
  | _ => .no
theorem psv_aug {i : Nat} {x : Str} {op : Operator} {pos pos' : Pos} {g : D → D → Bs → R D} {s : SV} (cf : ∀ d e h, Calm (g d e h)) (ho : OpR X (inplaceOp op) (rD2 T g)) (hN : X.N.Nodup) (hi : X.N[i]? = some x) (hx : Loc X.env.scope x)
    (hf : X.fn x = true ∨ X.env.scope.names.lookup x = some .local) (he : PE X e (tV T W s)) : PS X (.AugAssign (.Name x pos') op e pos) (tS' T W (ssAug i g s)) :=
  PS.imp (ps_aug hN hi hx he (fun pins s σ H x y v u Q I r1 r2 w => ho pins s σ H x y v u Q I r1 r2 w) hf) fun D σ H ⟨μ, ρ, h, r, e, o⟩ => by
    unfold ssAug at o
    cases q : ρ[i]? with
    | none => rw [q] at o; exact o.elim
    | some z =>
      cases z with
      | none => rw [q] at o; exact o.elim
      | some d =>
        rw [q] at o
        simp only at o
        obtain ⟨v, e1, rv⟩ := e.2 i d q
        refine ⟨v, e1, μ, ρ, h, r, e, OutV.mono (OutS.ofV e o) ?_⟩
        rintro w H1 ⟨μ1, d1, h1, s1, r1, e1, rv1, o1⟩
        refine ⟨μ1, h1, d, d1, r1, Rep.step s1 _ _ rv, rv1, ?_⟩
        cases q2 : g d d1 h1 with
        | no => rw [q2] at o1; exact o1
        | ex x h3 => exact absurd q2 (cf d d1 h1 x h3)
        | ok z h3 => rw [q2] at o1; exact fun μ3 H3 v3 s3 r3 rv3 => o1 μ3 H3 _ s3 r3 ((e1.step s3).set rv3)
def intD2 (C : Int → Int → Bool) (g : Int → Int → Int) (d e : D) (h : Bs) : R D := match d, e with
  | .int i, .int j => if C i j then .ok (.int (g i j)) h else .no
  | _, _ => .no
theorem intD2_calm {C : Int → Int → Bool} {g : Int → Int → Int} {d e : D} : Calm (intD2 C g d e h) := by
  intro x h' z; unfold intD2 at z
  repeat' split at z
  all_goals cases z
theorem ov_int2 {C : Int → Int → Bool} {P : Int → Int → Prop} {g : Int → Int → Int} {F : Value → Value → Sem Value} (hC : ∀ i j, C i j = true → P i j) (hop : OpR X F (rI P fun i j => .int (g i j))) : OpR X F (rD2 T (intD2 C g)) :=
  OpR.imp hop fun x y H Q ⟨μ, h, d, e, r, rd, re, o⟩ => by
    unfold intD2 at o
    split at o
    · split at o
      · rename_i hc
        simp only [Rep] at rd re
        exact ⟨_, _, rd, re, hC _ _ hc, o μ H _ Stp.refl r (rep_int rfl)⟩
      · exact o.elim
    · exact o.elim
theorem ov_int0 {g : Int → Int → Int} {F : Value → Value → Sem Value} (hop : OpR X F (rI0 fun i j => .int (g i j))) : OpR X F (rD2 T (intD2 (fun _ _ => true) g)) :=
  OpR.imp hop fun x y H Q ⟨μ, h, d, e, r, rd, re, o⟩ => by
    unfold intD2 at o
    split at o
    · split at o
      · simp only [Rep] at rd re
        exact ⟨_, _, rd, re, o μ H _ Stp.refl r (rep_int rfl)⟩
      · exact o.elim
    · exact o.elim
/-- o[i] op= e, of a list box -/
theorem get_list : PGet X (rIxL X.K) := by
  intro pins s σ H o i ov iv Q I r1 r2 h
  obtain ⟨p, xs, k, z, rfl, rfl, hq, he, q⟩ := h
  cases r1
  obtain ⟨t, rfl⟩ := r2
  obtain ⟨its, r, pl, hz⟩ := I.list hq
  obtain ⟨j, h1, h2, h3, h4, h5⟩ := atI_get he
  obtain ⟨w, ew, rw'⟩ := r.get h2
  have hl := r.length
  have hn := line63
  have fin : EP X pins σ Q w s := ⟨z, H, I, rw', q⟩
  by_cases h0 : 0 ≤ k
  · have hj : k.toNat = j := by
      rw [seqIndex_of h0 h5] at h1
      exact Option.some.inj h1
    exact wpAny_getItem_list pl.isList h0 (by omega) (by rw [hj]; simpa using ew) fin
  · have hj : (k + (its.toArray.size : Int)).toNat = j := by
      rw [seqIndex_neg (by omega) h4] at h1
      rw [List.size_toArray, ← hl]
      exact Option.some.inj h1
    exact wpAny_getItem_list_neg pl.isList (by omega) (by rw [List.size_toArray]; omega) (by omega) (by rw [hj]; simpa using ew) fin
def getD (d e : D) (h : Bs) : R D := match e with
  | .int i => (match lstOf h d with
    | some xs => (match atI xs i with
      | some x => .ok x h
      | none => .no)
    | none => .no)
  | _ => .no
theorem getD_calm {d e : D} : Calm (getD d e h) := by
  intro x h' z; unfold getD at z
  repeat' split at z
  all_goals cases z
theorem ov_get (hK : X.K = T.K) : PGet X (rD2 T getD) := fun pins s σ H o i ov iv Q I r1 r2 ⟨μ, h, d, e, r, rd, re, out⟩ => get_list pins s σ H o i ov iv Q I r1 r2 (by
  unfold getD at out
  split at out
  · rename_i k
    simp only [Rep] at re
    split at out
    · rename_i xs hx
      split at out
      · rename_i z hz
        obtain ⟨a, vs, e1, e2, e3⟩ := r.lstOf rd hx
        obtain ⟨w, e4, rw'⟩ := e3.atI hz
        exact ⟨a, vs, k, w, e1, re, by rw [hK]; exact e2, e4, out μ H _ Stp.refl r rw'⟩
      · exact out.elim
    · exact out.elim
  · exact out.elim)
def ssAugS (so si s : SV) (g : D → D → Bs → R D) : SS := fun ρ h => (so ρ h).toF ρ fun o h1 => (si ρ h1).toF ρ fun i h2 => (getD o i h2).toF ρ fun x h3 => (s ρ h3).toF ρ fun y h4 => (g x y h4).toF ρ fun z h5 => (setD o i z h5).toF ρ fun _ h6 => .nx ρ h6
theorem psv_augS {a b : Expr} {op : Operator} {pos tpos : Pos} {g : D → D → Bs → R D} {s sa' sb' : SV} (cf : ∀ d e h, Calm (g d e h)) (hK : X.K = T.K) (ho : OpR X (inplaceOp op) (rD2 T g)) (hs : noSlice b = true)
    (ha : PE X a (tV T W sa')) (hb : PE X b (tV T W sb')) (he : PE X e (tV T W s)) : PS X (.AugAssign (.Subscript a b tpos) op e pos) (tS' T W (ssAugS sa' sb' s g)) :=
  PS.imp (ps_augS ha hb (ov_get hK) he (fun pins s σ H x y v u Q I r1 r2 w => ho pins s σ H x y v u Q I r1 r2 w) ov_set (by cases b <;> first | (exact fun _ _ _ => rfl) | (exact Bool.noConfusion hs))) fun D σ H ⟨μ, ρ, h, r, e, o⟩ => by
    refine ⟨μ, ρ, h, r, e, OutV.mono (OutS.ofV e o) ?_⟩
    rintro v1 H1 ⟨μ1, d1, h1, s1, r1, e1, rv1, o1⟩
    refine ⟨μ1, ρ, h1, r1, e1, OutV.mono (OutS.ofV e1 o1) ?_⟩
    rintro v2 H2 ⟨μ2, d2, h2, s2, r2, e2, rv2, o2⟩
    refine ⟨μ2, h2, d1, d2, r2, Rep.step s2 _ _ rv1, rv2, ?_⟩
    cases q : getD d1 d2 h2 with
    | no => rw [q] at o2; exact o2
    | ex x h3 => exact absurd q (getD_calm x h3)
    | ok x3 h3 =>
      rw [q] at o2
      intro μ3 H3 v3 s3 r3 rv3
      have o3 := OutS.step o2 s3
      refine ⟨μ3, ρ, h3, r3, e2.step s3, OutV.mono (OutS.ofV (e2.step s3) o3) ?_⟩
      rintro v4 H4 ⟨μ4, d4, h4, s4, r4, e4, rv4, o4⟩
      refine ⟨μ4, h4, x3, d4, r4, Rep.step s4 _ _ rv3, rv4, ?_⟩
      cases q2 : g x3 d4 h4 with
      | no => rw [q2] at o4; exact o4
      | ex x h5 => exact absurd q2 (cf _ _ _ x h5)
      | ok z5 h5 =>
        rw [q2] at o4
        intro μ5 H5 v5 s5 r5 rv5
        have o5 : OutS T W μ5 H5 D ((setD d1 d2 z5 h5).toF ρ fun x h6 => F.nx ρ h6) := OutS.step o4 s5
        have st : Stp μ2 H2 μ5 H5 := (s3.trans s4).trans s5
        refine ⟨μ5, h5, d1, d2, z5, r5, Rep.step st _ _ (Rep.step s2 _ _ rv1), Rep.step st _ _ rv2, rv5, ?_⟩
        cases q3 : setD d1 d2 z5 h5 with
        | no => rw [q3] at o5; exact o5
        | ex x h6 => exact absurd q3 (setD_calm x h6)
        | ok z6 h6 => rw [q3] at o5; exact fun μ6 H6 v6 s6 r6 _ => o5 μ6 H6 σ s6 r6 ((e4.step s5).step s6)
/-! ### a, b = x, y -/
theorem psv_par {i j : Nat} {x y : Str} {a b : Expr} {px py pt pos : Pos} {kt k2 pt2} {sA : SA} (hc : X.calm = true) (hN : X.N.Nodup) (hi : X.N[i]? = some x) (hj : X.N[j]? = some y) (hij : i ≠ j)
    (hx : X.env.scope.names.lookup x = some .local) (hy : X.env.scope.names.lookup y = some .local) (ha : PA X [a, b] (tA' T W sA))
    (hw : swappedStores [.Tuple [.Name x px, .Name y py] kt pt] (.Tuple [a, b] k2 pt2) X.env = pure (some [x, y])) :
    PS X (.Assign [.Tuple [.Name x px, .Name y py] kt pt] (.Tuple [a, b] k2 pt2) pos) (tS' T W (ssAsg (sTup sA) (sgTup 2 (sgCons (sgName i) (sgCons (sgName j) sgNil))))) :=
  PS.imp (ps_par hc hN hi hj hij hx hy ha hw rfl) fun D σ H ⟨μ, ρ, h, r, e, o⟩ => by
    refine ⟨μ, ρ, h, r, e, ?_⟩
    unfold ssAsg sTup at o
    cases q : sA ρ h with
    | no => rw [q] at o; exact o
    | ex x h1 => rw [q] at o; exact fun μ1 H1 c d s r1 rx => o μ1 H1 σ c d s r1 (e.step s) rx
    | ok ds h1 =>
      rw [q] at o
      simp only [R.bind, newT] at o
      split at o
      · simp only [R.toF, sgTup] at o
        split at o
        · rename_i hl
          match ds, hl, o with
          | [d1, d2], _, o =>
            intro μ1 H1 vs s1 r1 rv
            obtain ⟨v, w, rfl, rv1, rv2⟩ := rv.is2
            exact ⟨v, w, rfl, o μ1 H1 _ s1 r1 (((e.step s1).set rv1).set rv2)⟩
        · exact o.elim
      · exact o.elim
end
end VI
end
section
namespace VI
open PySem PySem.Spec PyProof.Rows L2
section
variable {X : Cx} {T : Tb} {W : WX} {μ μ' : Mu} {H H' : Hp} {h : Bs} {σ : Sg} {ρ : Ev}
/-! ### isinstance -/
def tyc (T : Tb) (h : Bs) : D → Option Nat
  | .non => some 0
  | .bl _ => some 1
  | .int _ => some 2
  | .str _ => some 3
  | .tup _ => some 4
  | .tpl _ => some 4
  | .lst _ => some 5
  | .scr _ => some 5
  | .obj c _ _ => if T.isc c then some (7 + c) else none
  | .ref b => (match h.bs[b]? with
    | some (.lst _ _) => some 5
    | some (.obj c _ _) => if T.isc c then some (7 + c) else none
    | _ => none)
  | .dct _ _ => none
theorem tyc_ok (ok : T.Ok) (r : Rel T μ h H) {d : D} {v : V} {t : Nat} (q : Rep T μ H d v) (e : tyc T h d = some t) : ∃ tv, T.tyV t tv ∧ TyX T.K H v tv := by
  cases d with
  | non => simp only [tyc] at e; cases e; simp only [Rep] at q; subst q; exact ⟨_, rfl, .base .non⟩
  | bl b => simp only [tyc] at e; cases e; simp only [Rep] at q; subst q; exact ⟨_, rfl, .base (.bl b)⟩
  | int b => simp only [tyc] at e; cases e; simp only [Rep] at q; subst q; exact ⟨_, rfl, .base (.int b)⟩
  | str b => simp only [tyc] at e; cases e; simp only [Rep] at q; subst q; exact ⟨_, rfl, .base (.str b)⟩
  | tup xs =>
    simp only [tyc] at e; cases e
    obtain ⟨a, vs, rfl, e2, _⟩ := q.tupOf
    exact ⟨_, rfl, .base (.tup e2)⟩
  | tpl xs =>
    simp only [tyc] at e; cases e
    obtain ⟨a, ob, vs, rfl, e2, _⟩ := q.tplOf
    exact ⟨_, rfl, .fTuple e2⟩
  | lst xs =>
    simp only [tyc] at e; cases e
    simp only [Rep] at q
    obtain ⟨a, vs, rfl, e2, _⟩ := q
    exact ⟨_, rfl, .base (.lst e2)⟩
  | scr ns =>
    simp only [tyc] at e; cases e
    simp only [Rep] at q
    obtain ⟨a, rfl, e2⟩ := q
    refine ⟨_, rfl, ?_⟩
    rcases e2 with ⟨z | ⟨o, z⟩, _⟩ | ⟨o, its, n, z1, z2, _⟩
    · exact .base (.lst z)
    · exact .base (.frz z)
    · exact .kList z1 z2
  | dct ks vs => simp [tyc] at e
  | obj c fs xs =>
    simp only [tyc] at e
    split at e
    · rename_i hc
      cases e
      simp only [Rep] at q
      obtain ⟨a, C, dx, vs, rfl, e2, e3, _⟩ := q
      refine ⟨.ref C, ?_, .base (ok.ins c C e2 hc H a dx _ e3)⟩
      unfold Tb.tyV
      rw [if_neg (by omega)]
      exact ⟨C, by rw [show 7 + c - 7 = c by omega]; exact e2, rfl⟩
    · cases e
  | ref b =>
    simp only [tyc] at e
    simp only [Rep] at q
    obtain ⟨a, e1, rfl⟩ := q
    split at e
    · rename_i hb
      cases e
      obtain ⟨vs, e3, _⟩ := r.at_ _ _ a hb e1
      exact ⟨_, rfl, .base (.lst e3)⟩
    · rename_i c fs xs hb
      split at e
      · rename_i hc
        cases e
        obtain ⟨C, dx, vs, e2, e3, _⟩ := r.at_ _ _ a hb e1
        refine ⟨.ref C, ?_, .base (ok.ins c C e2 hc H a dx _ e3)⟩
        unfold Tb.tyV
        rw [if_neg (by omega)]
        exact ⟨C, by rw [show 7 + c - 7 = c by omega]; exact e2, rfl⟩
      · cases e
    · cases e
def isiD (T : Tb) (u : Nat) (d : D) (h : Bs) : R D := match tyc T h d with
  | some t => (match T.kit t u with
    | some b => .ok (.bl b) h
    | none => .no)
  | none => .no
/-- a class's name: what it stands for -/
def ClsN (X : Cx) (T : Tb) (x : Str) (u : Nat) : Prop := ∃ (v : V) (uv : Value), T.tyV u uv ∧ ClsV v uv ∧ ∀ pos, PE X (.Name x pos) (tC v)
theorem pv_isi {e : Expr} {x : Str} {u : Nat} {p q pos : Pos} {s : SV} (ok : T.Ok) (hK : X.K = T.K) (hg : Gl X "isinstance") (hm : X.mg "isinstance" = none) (hv : bootBuiltins "isinstance" = some (.builtin "isinstance"))
    (hs : PySem.W.isStarred e = false) (hx : ClsN X T x u) (he : PE X e (tV T W s)) : PE X (.Call (.Name "isinstance" p) [e, .Name x q] [] pos) (tV T W (sUn (isiD T u) s)) := by
  obtain ⟨v, uv, h1, h2, h3⟩ := hx
  refine PE.imp (pe_callB call_isi hg hm hv (pa_cons he (pa_cons (h3 q) pa_nil rfl) (star_no hs)) (by decide) (by decide) (star_no hs) rfl) fun σ H Q ⟨μ, ρ, h, r, e, o⟩ => ?_
  refine ⟨μ, ρ, h, r, e, OutV.mono (OutV.bind o) ?_⟩
  rintro w H1 ⟨μ1, d, h1', s1, r1, rv, o1⟩
  unfold isiD at o1
  split at o1
  · rename_i t ht
    split at o1
    · rename_i b hb
      obtain ⟨tv, k1, k2⟩ := tyc_ok ok r1 rv ht
      exact ⟨w, v, tv, uv, b, rfl, h2, by rw [hK]; exact k2, by rw [hK]; exact ok.kit t u b tv uv hb k1 h1, o1 μ1 H1 _ Stp.refl r1 (rep_bl rfl)⟩
    · exact o1.elim
  · exact o1.elim
/-- isinstance(x, (A, B)) -/
def isiD2 (T : Tb) (u u2 : Nat) (d : D) (h : Bs) : R D := match tyc T h d with
  | some t => (match T.kit t u with
    | some true => .ok (.bl true) h
    | some false => (match T.kit t u2 with
      | some b => .ok (.bl b) h
      | none => .no)
    | none => .no)
  | none => .no
theorem pv_isi2 {e : Expr} {x y : Str} {u u2 k : Nat} {p q q2 q3 pos : Pos} {s : SV} (ok : T.Ok) (hK : X.K = T.K) (hg : Gl X "isinstance") (hm : X.mg "isinstance" = none) (hv : bootBuiltins "isinstance" = some (.builtin "isinstance"))
    (hs : PySem.W.isStarred e = false) (hx : ClsN X T x u) (hy : ClsN X T y u2) (he : PE X e (tV T W s)) : PE X (.Call (.Name "isinstance" p) [e, .Tuple [.Name x q, .Name y q2] k q3] [] pos) (tV T W (sUn (isiD2 T u u2) s)) := by
  obtain ⟨v, uv, h1, h2, h3⟩ := hx
  obtain ⟨v2, uv2, g1, g2, g3⟩ := hy
  refine PE.imp (pe_callB call_isiT hg hm hv (pa_cons he (pa_cons (pe_tup (pa_cons (h3 q) (pa_cons (g3 q2) pa_nil rfl) rfl)) pa_nil rfl) (star_no hs)) (by decide) (by decide) (star_no hs) rfl) fun σ H Q ⟨μ, ρ, h, r, e, o⟩ => ?_
  refine ⟨μ, ρ, h, r, e, OutV.mono (OutV.bind o) ?_⟩
  rintro w H1 ⟨μ1, d, h1', s1, r1, rv, o1⟩
  refine ⟨by show 2 ≤ sizeLine; decide, fun tp htp => ?_⟩
  unfold isiD2 at o1
  split at o1
  · rename_i t ht
    have st : Stp μ1 H1 μ1 (upd H1 tp (.tup [v, v2])) := Stp.laid htp
    have r2 := r1.laid (o := .tup [v, v2]) htp
    obtain ⟨tv, k1, k2⟩ := tyc_ok ok r2 (Rep.step st _ _ rv) ht
    split at o1
    · rename_i hb
      exact ⟨w, tp, [v, v2], tv, [uv, uv2], true, rfl, upd_same, .cons h2 (.cons g2 .nil), by rw [hK]; exact k2, kitAny_cons (by rw [hK]; exact ok.kit t u true tv uv hb k1 h1) (fun z => by cases z) (fun _ => rfl), o1 μ1 _ _ st r2 (rep_bl rfl)⟩
    · rename_i hb
      split at o1
      · rename_i b hb2
        refine ⟨w, tp, [v, v2], tv, [uv, uv2], b, rfl, upd_same, .cons h2 (.cons g2 .nil), by rw [hK]; exact k2, kitAny_cons (by rw [hK]; exact ok.kit t u false tv uv hb k1 h1) (fun _ => ?_) (fun z => by cases z), o1 μ1 _ _ st r2 (rep_bl rfl)⟩
        cases b with
        | true => exact kitAny_cons (by rw [hK]; exact ok.kit t u2 true tv uv2 hb2 k1 g1) (fun z => by cases z) (fun _ => rfl)
        | false => exact kitAny_cons (by rw [hK]; exact ok.kit t u2 false tv uv2 hb2 k1 g1) (fun _ => kitAny_nil) (fun z => by cases z)
      · exact o1.elim
    · exact o1.elim
  · exact o1.elim
end
end VI
end
section
namespace VI
open PySem PySem.Spec PyProof.Rows L2
section
variable {X : Cx} {T : Tb} {W : WX} {μ μ' : Mu} {H H' : Hp} {h : Bs} {σ : Sg} {ρ : Ev}
/-! ### a op b op' c -/
def sChn (f g : D → D → Bs → R D) (sa sb sc : SV) : SV := fun ρ h => (sa ρ h).bind fun x h1 => (sb ρ h1).bind fun y h2 => (f x y h2).bind fun z h3 => match z with
  | .bl true => (sc ρ h3).bind fun w h4 => g y w h4
  | .bl false => .ok (.bl false) h3
  | _ => .no
variable {a b c : Expr} {sa sb sc : SV} {pos : Pos}
theorem chn_imp {f g : D → D → Bs → R D} (cf : ∀ d e h, Calm (f d e h)) (cg : ∀ d e h, Calm (g d e h)) : ∀ σ H Q, tV T W (sChn f g sa sb sc) σ H Q → tChain (rD2 T f) (rD2 T g) (tV T W sa) (tV T W sb) (tV T W sc) σ H Q := fun σ H Q ⟨μ, ρ, h, r, e, o⟩ => by
  refine ⟨μ, ρ, h, r, e, OutV.mono (OutV.bind o) ?_⟩
  rintro v H1 ⟨μ1, d, h1, s1, r1, rv, o1⟩
  refine ⟨μ1, ρ, h1, r1, e.step s1, OutV.mono (OutV.bind o1) ?_⟩
  rintro u H2 ⟨μ2, d2, h2, s2, r2, ru, o2⟩
  refine ⟨μ2, h2, d, d2, r2, Rep.step s2 _ _ rv, ru, ?_⟩
  cases q : f d d2 h2 with
  | no => rw [q] at o2; exact o2
  | ex x h3 => exact absurd q (cf _ _ _ x h3)
  | ok z h3 =>
    rw [q] at o2
    intro μ3 H3 v3 s3 r3 rv3
    have o3 := OutV.step o2 s3
    cases z with
    | bl k =>
      simp only [Rep] at rv3
      refine ⟨k, rv3, ?_⟩
      cases k with
      | false => exact o3 μ3 H3 _ Stp.refl r3 (rep_bl rfl)
      | true =>
        have o3' : OutV T W σ μ3 H3 Q ((sc ρ h3).bind fun w h4 => g d2 w h4) := o3
        refine ⟨μ3, ρ, h3, r3, ((e.step s1).step s2).step s3, OutV.mono (OutV.bind o3') ?_⟩
        rintro w H4 ⟨μ4, d4, h4, s4, r4, rw', o4⟩
        exact ⟨μ4, h4, d2, d4, r4, Rep.step s4 _ _ (Rep.step s3 _ _ ru), rw', o4.calm (cg _ _ _)⟩
    | _ => exact o3.elim
theorem pv_chn {op op' : CmpOp} {f g : D → D → Bs → R D} (cf : ∀ d e h, Calm (f d e h)) (cg : ∀ d e h, Calm (g d e h)) (ho : OpR X (compareOp op) (rD2 T f)) (ho' : OpR X (compareOp op') (rD2 T g)) (hm : lastMarks [op, op'] [b, c] = false)
    (ha : PE X a (tV T W sa)) (hb : PE X b (tV T W sb)) (hc : PE X c (tV T W sc)) : PE X (.Compare a [op, op'] [b, c] pos) (tV T W (sChn f g sa sb sc)) := PE.imp (pe_chain ho ho' ha hb hc hm) (chn_imp cf cg)
theorem pvt_chn {op op' : CmpOp} {f g : D → D → Bs → R D} (cf : ∀ d e h, Calm (f d e h)) (cg : ∀ d e h, Calm (g d e h)) (ho : OpR X (compareOp op) (rD2 T f)) (ho' : OpR X (compareOp op') (rD2 T g)) (hm : lastMarks [op, op'] [b, c] = false)
    (ha : PE X a (tV T W sa)) (hb : PE X b (tV T W sb)) (hc : PE X c (tV T W sc)) : PT X (.Compare a [op, op'] [b, c] pos) (tB' T W (sTru (sChn f g sa sb sc))) :=
  PT.imp (pt_chain ho ho' ha hb hc hm) fun σ H Q w => chn_imp cf cg σ H _ (tru_imp σ H Q w)
/-! ### zip, enumerate -/
theorem wk_pair {J : It} {n : Nat} {G : Hp → Prop} {xs ys : Nat → Option V} {items : List D} {μ1 : Mu} (wk : Walk J n G (YPair xs ys)) (hl : items.length = n) (hs : Stays μ1 H G)
    (hi : ∀ (i : Nat) (v w : V), i < n → xs i = some v → ys i = some w → ∃ d e, items[i]? = some (.tup [d, e]) ∧ Rep T μ1 H d v ∧ Rep T μ1 H e w) : Wk T J items μ1 H := by
  refine ⟨fun E i μ' H' hE hi' s => wk.goes i H' (by rw [← hl]; exact hi') (hs E μ' H' hE s), fun E μ' H' hE s => by rw [hl]; exact wk.stops H' (hs E μ' H' hE s), fun E i μ' H' h x H'' hE hi' s r y => ?_⟩
  obtain ⟨t, v, w, e1, e2, e3, e4, e5⟩ := wk.yields i H' x H'' (by rw [← hl]; exact hi') (hs E μ' H' hE s) y
  subst e1 e3
  obtain ⟨d, e, f1, f2, f3⟩ := hi i v w (by rw [← hl]; exact hi') e4 e5
  have st : Stp μ' H' μ' (upd H' t (.tup [v, w])) := Stp.laid e2
  refine ⟨_, f1, st, r.laid e2, ?_⟩
  simp only [Rep]
  exact ⟨t, [v, w], rfl, upd_same, r.not e2, .cons (Rep.step st _ _ (Rep.stepx s hE _ _ f2)) (.one (Rep.step st _ _ (Rep.stepx s hE _ _ f3)))⟩
def enumL : Nat → List D → List D
  | _, [] => []
  | i, x :: xs => .tup [.int i, x] :: enumL (i + 1) xs
theorem enumL_length : ∀ (i : Nat) (xs : List D), (enumL i xs).length = xs.length
  | _, [] => rfl
  | i, x :: xs => by simp [enumL, enumL_length (i + 1) xs]
theorem enumL_get : ∀ (i : Nat) (xs : List D) (j : Nat) (x : D), xs[j]? = some x → (enumL i xs)[j]? = some (.tup [.int ((i + j : Nat) : Int), x])
  | i, y :: xs, 0, x, e => by simp at e; subst e; simp [enumL]
  | i, y :: xs, j + 1, x, e => by
    simp only [enumL]
    have := enumL_get (i + 1) xs j x (by simpa using e)
    rw [List.getElem?_cons_succ, this]
    congr 4
    omega
  | _, [], _, _, e => by simp at e
def itEnum (ds : List D) (h : Bs) : R Iu := match ds with
  | [d] => if isTupD d then .no else (match itSeq d h with
    | .ok u h' => .ok (enumL 0 u.1, u.2) h'
    | _ => .no)
  | _ => .no
theorem piv_enum {e : Expr} {p pos tpos : Pos} {elts : List Expr} {kk : Nat} {sa : SA} (hK : X.K = T.K) (hg : Gl X "enumerate") (hm : X.mg "enumerate" = none) (hs : PySem.W.isStarred e = false) (ha : PA X [e] (tA' T W sa)) :
    PI X (.Tuple elts kk tpos) (.Call (.Name "enumerate" p) [e] [] pos) (tI' T W (siArg itEnum sa)) :=
  PI.imp (pi_enum hg hm ha (by rw [star_no hs]; rfl)) fun σ H Q ⟨μ, ρ, h, r, e, o⟩ => by
    refine ⟨μ, ρ, h, r, e, OutA.mono (OutI.bindA o) ?_⟩
    rintro v H1 ⟨μ1, ds, h1, s1, r1, rv, o1⟩
    unfold itEnum at o1
    split at o1
    · rename_i d
      obtain ⟨w, rfl, rw'⟩ := rv.is1
      split at o1
      · exact o1.elim
      · rename_i ht
        split at o1
        · rename_i u h' q
          obtain ⟨xs, l⟩ := u
          obtain ⟨rfl, nl, a, vs, e1, e4, e5⟩ := seq_stays r1 rw' q
          rcases e5 with ⟨_, e5, e6⟩ | ⟨z, _⟩
          · subst e1
            refine ⟨a, vs, rfl, by rw [hK]; exact e5, ?_⟩
            rw [hK]
            refine o1 μ1 H1 _ Stp.refl r1 nl (wk_pair (walk_enum (K := T.K) (a := a) (xs := vs)) (by rw [enumL_length, e4.length]) e6 fun i v w hi z1 z2 => ?_)
            cases z1
            have hx : xs[i]? = some (xs[i]'(by rw [e4.length]; exact hi)) := List.getElem?_eq_getElem _
            obtain ⟨w', f1, f2⟩ := e4.get hx
            rw [z2] at f1; cases f1
            refine ⟨_, _, by rw [enumL_get 0 xs i _ hx], rep_int (by simp), Rep.ad lockMu_ad lockMu_pr _ _ f2⟩
          · rw [z] at ht; exact absurd rfl ht
        · exact o1.elim
    · exact o1.elim
def zipL : List D → List D → List D
  | x :: xs, y :: ys => .tup [x, y] :: zipL xs ys
  | _, _ => []
theorem zipL_length : ∀ (xs ys : List D), (zipL xs ys).length = min xs.length ys.length
  | [], _ => by simp [zipL]
  | _ :: _, [] => by simp [zipL]
  | x :: xs, y :: ys => by simp [zipL, zipL_length xs ys]
theorem zipL_get : ∀ (xs ys : List D) (j : Nat) (x y : D), xs[j]? = some x → ys[j]? = some y → (zipL xs ys)[j]? = some (.tup [x, y])
  | x' :: xs, y' :: ys, 0, x, y, e, f => by simp at e f; subst e f; simp [zipL]
  | x' :: xs, y' :: ys, j + 1, x, y, e, f => by
    simp only [zipL]
    rw [List.getElem?_cons_succ]
    exact zipL_get xs ys j x y (by simpa using e) (by simpa using f)
  | [], _, _, _, _, e, _ => by simp at e
  | _ :: _, [], _, _, _, _, f => by simp at f
def itZip (ds : List D) (h : Bs) : R Iu := match ds with
  | [d, e] => if isTupD d == isTupD e then (match itSeq d h, itSeq e h with
    | .ok (xs, none) _, .ok (ys, none) _ => .ok (zipL xs ys, none) h
    | _, _ => .no) else .no
  | _ => .no
theorem walk_zipT' {K : PySem.W.Frag} {a b : Addr} {xs ys : List V} {n : Nat} (hn : n = min xs.length ys.length) : Walk (RZ.ItzT K a b) n (fun H => SqT K H a xs ∧ SqT K H b ys) (YPair (fun i => xs[i]?) (fun i => ys[i]?)) := by
  subst hn
  refine ⟨fun i _ hi q => ?_, fun _ q => ⟨xs, ys, q.1, q.2, by omega⟩, fun i H v H' _ q y => ?_⟩
  · have h1 : i < xs.length := by omega
    have h2 : i < ys.length := by omega
    exact ⟨xs, ys, xs[i], ys[i], q.1, q.2, by simp [h1], by simp [h2]⟩
  · obtain ⟨t, x, z, h1, h2, h3, h4, h5⟩ := y
    exact ⟨t, x, z, h1, h2, h3, h4 xs q.1, h5 ys q.2⟩
theorem zip_items {xs ys : List D} {vs ws : List V} {μ1 : Mu} (q1 : Reps T μ1 H xs vs) (q2 : Reps T μ1 H ys ws) : ∀ (i : Nat) (v w : V), i < min vs.length ws.length → vs[i]? = some v → ws[i]? = some w →
    ∃ d e, (zipL xs ys)[i]? = some (.tup [d, e]) ∧ Rep T μ1 H d v ∧ Rep T μ1 H e w := fun i v w hi z1 z2 => by
  have h1 : i < xs.length := by rw [q1.length]; omega
  have h2 : i < ys.length := by rw [q2.length]; omega
  have hx : xs[i]? = some xs[i] := List.getElem?_eq_getElem h1
  have hy : ys[i]? = some ys[i] := List.getElem?_eq_getElem h2
  obtain ⟨v', f1, f2⟩ := q1.get hx
  obtain ⟨w', g1, g2⟩ := q2.get hy
  rw [z1] at f1; cases f1
  rw [z2] at g1; cases g1
  exact ⟨_, _, zipL_get xs ys i _ _ hx hy, f2, g2⟩
theorem piv_zip {e e2 : Expr} {p pos tpos : Pos} {elts : List Expr} {kk : Nat} {sa : SA} (hK : X.K = T.K) (hg : Gl X "zip") (hm : X.mg "zip" = none) (hs : PySem.W.isStarred e = false) (hs2 : PySem.W.isStarred e2 = false) (ha : PA X [e, e2] (tA' T W sa)) :
    PI X (.Tuple elts kk tpos) (.Call (.Name "zip" p) [e, e2] [] pos) (tI' T W (siArg itZip sa)) :=
  PI.imp (RZ.pi_zipA hg hm ha (star_no hs) (back_no (by simp [noStars, hs2]))) fun σ H Q ⟨μ, ρ, h, r, e, o⟩ => by
    refine ⟨μ, ρ, h, r, e, OutA.mono (OutI.bindA o) ?_⟩
    rintro v H1 ⟨μ1, ds, h1, s1, r1, rv, o1⟩
    unfold itZip at o1
    split at o1
    · rename_i d d2
      obtain ⟨w, w2, rfl, rw', rw2⟩ := rv.is2
      split at o1
      · rename_i ht
        split at o1
        · rename_i xs hx' ys hy' q q2
          obtain ⟨rfl, _, a, vs, e1, e4, e5⟩ := seq_stays r1 rw' q
          obtain ⟨rfl, _, b, ws, f1, f4, f5⟩ := seq_stays r1 rw2 q2
          subst e1 f1
          have ht' : isTupD d = isTupD d2 := by simpa using ht
          refine ⟨a, b, vs, ws, rfl, ?_⟩
          rcases e5 with ⟨t1, e5, e6⟩ | ⟨t1, e5, e6⟩
          · rcases f5 with ⟨t2, f5, f6⟩ | ⟨t2, f5, f6⟩
            · refine .inl ⟨by rw [hK]; exact e5, by rw [hK]; exact f5, ?_⟩
              rw [hK]
              exact o1.nolk r1 (wk_pair (walk_zip (K := T.K) (a := a) (b := b) rfl) (by rw [zipL_length, e4.length, f4.length]) (fun E μ' H' hE s => ⟨e6 E μ' H' hE s, f6 E μ' H' hE s⟩) (zip_items e4 f4))
            · rw [t1, t2] at ht'; cases ht'
          · rcases f5 with ⟨t2, f5, f6⟩ | ⟨t2, f5, f6⟩
            · rw [t1, t2] at ht'; cases ht'
            · refine .inr ⟨by rw [hK]; exact e5, by rw [hK]; exact f5, ?_⟩
              rw [hK]
              exact o1.nolk r1 (wk_pair (walk_zipT' (K := T.K) (a := a) (b := b) rfl) (by rw [zipL_length, e4.length, f4.length]) (fun E μ' H' hE s => ⟨e6 E μ' H' hE s, f6 E μ' H' hE s⟩) (zip_items e4 f4))
        · exact o1.elim
      · exact o1.elim
    · exact o1.elim
end
end VI
end
section
namespace VI
open PySem PySem.Spec PyProof.Rows L2
/-- the run -/
structure Cfg where
  T : Tb
  P : Program
  w : World
  mg : Str → Option Value
  base : Heap
/-- the text's names: builtins that are not shadowed, whole numbers -/
structure Tx where
  fr : List Str
  co : List (Str × Int)
  /-- classes, attributes -/
  cl : List Str
  att : List Str
structure Cfg.Ok (Z : Cfg) (t : Tx) : Prop where
  ok : Z.T.Ok
  fr : ∀ x, t.fr.contains x = true → Z.mg x = none
  co : ∀ x i, t.co.lookup x = some i → ∃ k, Z.mg x = some (.int i k)
  cl : ∀ i x, t.cl[i]? = some x → ∃ C, Z.T.cls i = some C ∧ Z.mg x = some (.ref C) ∧ PySem.W.keepIn Z.T.K (.ref C) = true
  att : ∀ i x, t.att[i]? = some x → Z.T.att i = x ∧ i < Z.T.n
def fnC (raw : Option Scope) (x : Str) : Bool := match raw with
  | none => true
  | some s => s.names.lookup x == some .cell
structure XO (Z : Cfg) (t : Tx) (k : Nat) (N₀ : List Str) (sc₀ : Scope) (raw : Option Scope) (X : Cx) (W : WX) : Prop where
  z : Z.Ok t
  prog : X.prog = Z.P
  w : X.w = Z.w
  K : X.K = Z.T.K
  mg : X.mg = Z.mg
  base : X.base = Z.base
  N : X.N = N₀
  nd : N₀.Nodup
  sc : X.env.scope = sc₀
  kd : sc₀.kind = .function
  fn : ∀ x, fnC raw x = true → X.fn x = true
  calm : X.calm = true
  room : Room k X.A
  takes : Takes X W
  pass : PassesOwn (model X.prog X.w) X.A X.env X.xe
/-- a def of the text -/
def FnG (Z : Cfg) (x : Str) (k : Nat) (cf : List D → Bs → R D) : Prop := ∃ f fd ps, FnOk Z.P Z.w Z.T.K Z.mg Z.base (CX Z.P Z.w) k f fd ps (spF Z.T cf) ∧ Z.mg x = some (.ref f) ∧ PySem.W.keepIn Z.T.K (.ref f) = true ∧ Binds Z.T.K fd ps []

def visC (N : List Str) (sc : Scope) (i : Nat) (x : Str) : Bool := decide (N[i]? = some x) && (match sc.names.lookup x with | some .local => true | some .cell => true | some .free => true | _ => false) && !(x == ("__debug__" : Str)) && !(x == ("__classdict__" : Str))
def locC (N : List Str) (sc : Scope) (raw : Option Scope) (i : Nat) (x : Str) : Bool := decide (N[i]? = some x) && (match sc.names.lookup x with | some .local => true | some .cell => fnC raw x | _ => false)
def glC (sc : Scope) (x : Str) : Bool := (match sc.names.lookup x with | some .globalImplicit => true | _ => false) && !(x == ("__debug__" : Str)) && !(x == ("__name__" : Str))
section
variable {Z : Cfg} {t : Tx} {k : Nat} {N : List Str} {sc : Scope} {raw : Option Scope} {X : Cx} {W : WX} {pos p : Pos} {a b c : Expr} {sa sb s3 : SV} {x : Str}
theorem XO.gl (h : XO Z t k N sc raw X W) (g : glC sc x = true) : Gl X x ∧ (x == ("__debug__" : Str)) = false ∧ x ≠ "__name__" := by
  unfold glC at g
  simp only [Bool.and_eq_true, Bool.not_eq_true', beq_eq_false_iff_ne] at g
  obtain ⟨⟨g1, g2⟩, g3⟩ := g
  refine ⟨?_, by simpa using g2, g3⟩
  unfold Gl Env.kindOf
  rw [h.sc]
  split at g1
  · assumption
  · cases g1
theorem XO.vis (h : XO Z t k N sc raw X W) {i : Nat} (g : visC N sc i x = true) : X.N[i]? = some x ∧ Vis X.env.scope x ∧ (x == ("__debug__" : Str)) = false ∧ (x == ("__classdict__" : Str)) = false := by
  unfold visC at g
  simp only [Bool.and_eq_true, Bool.not_eq_true', decide_eq_true_eq] at g
  obtain ⟨⟨⟨g1, g2⟩, g3⟩, g4⟩ := g
  refine ⟨by rw [h.N]; exact g1, ?_, g3, g4⟩
  unfold Vis
  rw [h.sc]
  split at g2
  · exact .inl (by assumption)
  · exact .inr (.inl (by assumption))
  · exact .inr (.inr (by assumption))
  · cases g2
theorem XO.loc (h : XO Z t k N sc raw X W) {i : Nat} (g : locC N sc raw i x = true) : X.N[i]? = some x ∧ Loc X.env.scope x ∧ (X.fn x = true ∨ X.env.scope.names.lookup x = some .local) := by
  unfold locC at g
  simp only [Bool.and_eq_true, decide_eq_true_eq] at g
  obtain ⟨g1, g2⟩ := g
  rw [h.N]
  unfold L2.Loc
  rw [h.sc]
  split at g2
  · rename_i e
    exact ⟨g1, .inl e, .inr e⟩
  · rename_i e
    exact ⟨g1, .inr e, .inl (h.fn x g2)⟩
  · cases g2
theorem XO.fr (h : XO Z t k N sc raw X W) (g : t.fr.contains x = true) : X.mg x = none := by rw [h.mg]; exact h.z.fr x g
theorem XO.units (h : XO Z t k N sc raw X W) : X.A.units + 65 < cLine := by have := h.room.un; omega
theorem XO.nd' (h : XO Z t k N sc raw X W) : X.N.Nodup := by rw [h.N]; exact h.nd
theorem XO.blk (h : XO Z t k N sc raw X W) {scope : Scope} (hk : scope.kind = .function) (s : Shared) (H : Hp) (C : Addr) (cl : List (Str × Addr)) (fp : List Addr) : XO Z t k N (relS scope sc) (some scope) (X.blk s H scope (compEnvC scope cl C X.env) fp) noW where
  z := h.z
  prog := h.prog
  w := h.w
  K := h.K
  mg := h.mg
  base := h.base
  N := h.N
  nd := h.nd
  sc := by rw [← h.sc]; rfl
  kd := hk
  fn := fun x e => e
  calm := h.calm
  room := h.room
  takes := fun u s' ⟨a, B, sI, pins, σ, H, cls, d, e, I, nb, up, sky, na, os, ag, w⟩ => w.elim
  pass := PassesOwn.never

/-! ### expressions -/
theorem v_var (h : XO Z t k N sc raw X W) {i : Nat} (g : visC N sc i x = true) : PE X (.Name x pos) (tV Z.T W (sVar i)) := by
  obtain ⟨a, b, c, d⟩ := h.vis g
  exact pv_var a b c d
theorem v_co (h : XO Z t k N sc raw X W) {i : Int} (g : glC sc x = true) (e : t.co.lookup x = some i) : PE X (.Name x pos) (tV Z.T W (sK (.int i))) := by
  obtain ⟨a, b, c⟩ := h.gl g
  obtain ⟨j, hj⟩ := h.z.co x i e
  exact pv_glob a (by rw [h.mg]; exact hj) b
theorem v_call (h : XO Z t k N sc raw X W) {j : Nat} {cf : List D → Bs → R D} {e : Expr} {es : List Expr} {s : SA} (F : FnG Z x j cf) (hj : Nat.ble j k = true) (g : glC sc x = true) (hs : noStars (e :: es) = true) (ha : PA X (e :: es) (tA' Z.T W s)) :
    PE X (.Call (.Name x p) (e :: es) [] pos) (tV Z.T W (sCall cf s)) := by
  obtain ⟨a, b, c⟩ := h.gl g
  obtain ⟨f, fd, ps, F1, F2, F3, F4⟩ := F
  exact pv_call (k := j) (f := f) (fd := fd) (ps := ps) (by rw [h.prog, h.w, h.K, h.mg, h.base]; exact F1) (h.room.mono (Nat.le_of_ble_eq_true hj)) a (by rw [h.mg]; exact F2) (by rw [h.K]; exact F3) (by rw [h.K]; exact F4) h.takes b hs ha
theorem v_call0 (h : XO Z t k N sc raw X W) {j : Nat} {cf : List D → Bs → R D} (F : FnG Z x j cf) (hj : Nat.ble j k = true) (g : glC sc x = true) :
    PE X (.Call (.Name x p) [] [] pos) (tV Z.T W (sCall cf saNil)) := by
  obtain ⟨a, b, c⟩ := h.gl g
  obtain ⟨f, fd, ps, F1, F2, F3, F4⟩ := F
  exact pv_call0 (k := j) (f := f) (fd := fd) (ps := ps) (by rw [h.prog, h.w, h.K, h.mg, h.base]; exact F1) (h.room.mono (Nat.le_of_ble_eq_true hj)) a (by rw [h.mg]; exact F2) (by rw [h.K]; exact F3) (by rw [h.K]; exact F4) h.takes b
/-- a builtin function -/
structure BF (x : Str) (id : String) (f : List D → Bs → R D) : Prop where
  cf : ∀ ds h, Calm (f ds h)
  boot : bootBuiltins x = some (.builtin id)
  run : ∀ {Z : Cfg} {t : Tx} {k : Nat} {N : List Str} {sc : Scope} {raw : Option Scope} {X : Cx} {W : WX}, XO Z t k N sc raw X W → CallR X (.builtin id) (rDn Z.T f)
structure BT (x : Str) (id : String) (f : List D → Bs → R D) : Prop where
  cf : ∀ ds h, Calm (f ds h)
  boot : bootBuiltins x = some (.type id)
  run : ∀ {Z : Cfg} {t : Tx} {k : Nat} {N : List Str} {sc : Scope} {raw : Option Scope} {X : Cx} {W : WX}, XO Z t k N sc raw X W → CallR X (.type id) (rDn Z.T f)
theorem v_bf {id : String} {f : List D → Bs → R D} (B : BF x id f) (h : XO Z t k N sc raw X W) {e : Expr} {es : List Expr} {s : SA} (g : (glC sc x && t.fr.contains x && noStars (e :: es)) = true) (ha : PA X (e :: es) (tA' Z.T W s)) :
    PE X (.Call (.Name x p) (e :: es) [] pos) (tV Z.T W (sCall f s)) := by
  simp only [Bool.and_eq_true] at g
  obtain ⟨⟨g1, g2⟩, g3⟩ := g
  obtain ⟨a, b, c⟩ := h.gl g1
  exact pv_callB B.cf (B.run h) a (h.fr g2) B.boot c b g3 ha
theorem v_bt {id : String} {f : List D → Bs → R D} (B : BT x id f) (h : XO Z t k N sc raw X W) {e : Expr} {es : List Expr} {s : SA} (g : (glC sc x && t.fr.contains x && noStars (e :: es)) = true) (ha : PA X (e :: es) (tA' Z.T W s)) :
    PE X (.Call (.Name x p) (e :: es) [] pos) (tV Z.T W (sCall f s)) := by
  simp only [Bool.and_eq_true] at g
  obtain ⟨⟨g1, g2⟩, g3⟩ := g
  obtain ⟨a, b, c⟩ := h.gl g1
  exact pv_callTy B.cf (B.run h) a (h.fr g2) B.boot c b g3 ha
theorem B_len : BF "len" "len" lenD := ⟨fun _ _ => lenD_calm, by decide +kernel, fun h => cv_len h.K⟩
theorem B_abs : BF "abs" "abs" absD := ⟨fun _ _ => absD_calm, by decide +kernel, fun h => cv_abs⟩
theorem B_int : BT "int" "int" intD := ⟨fun _ _ => intD_calm, by decide +kernel, fun h => cv_int⟩
abbrev minD := mmD (fun i j => if j < i then j else i) minFold
abbrev maxD := mmD (fun i j => if j > i then j else i) maxFold
theorem B_min : BF "min" "min" minD := ⟨fun _ _ => mmD_calm, by decide +kernel, fun h => cv_min h.K h.calm (by have := h.units; omega)⟩
theorem B_max : BF "max" "max" maxD := ⟨fun _ _ => mmD_calm, by decide +kernel, fun h => cv_max h.K h.calm (by have := h.units; omega)⟩
theorem B_sum : BF "sum" "sum" sumD := ⟨fun _ _ => sumD_calm, by decide +kernel, fun h => cv_sum h.K h.calm⟩
abbrev anyD' := anyD fun bs => bs.any id
abbrev allD' := anyD fun bs => bs.all id
theorem B_any : BF "any" "any" anyD' := ⟨fun _ _ => anyD_calm, by decide +kernel, fun h => cv_any h.K h.calm⟩
theorem B_all : BF "all" "all" allD' := ⟨fun _ _ => anyD_calm, by decide +kernel, fun h => cv_all h.K h.calm⟩
theorem B_list {bx : Bool} : BT "list" "list" (listD bx) := ⟨fun _ _ => listD_calm, by decide +kernel, fun h => cv_list h.K⟩
theorem B_tuple : BT "tuple" "tuple" tupleD := ⟨fun _ _ => tupleD_calm, by decide +kernel, fun h => cv_tuple h.K⟩
theorem B_sorted {bx : Bool} : BF "sorted" "sorted" (sortedD bx) := ⟨fun _ _ => sortedD_calm, by decide +kernel, fun h => cv_sorted h.K⟩

/-! ### operators -/
theorem v_add {bx : Bool} (h : XO Z t k N sc raw X W) (ha : PE X a (tV Z.T W sa)) (hb : PE X b (tV Z.T W sb)) : PE X (.BinOp a .Add b pos) (tV Z.T W (sOp (addD bx) sa sb)) := pv_op (fun _ _ _ => addD_calm) (ov_add h.K) ha hb
theorem v_mul {bx : Bool} (h : XO Z t k N sc raw X W) (ha : PE X a (tV Z.T W sa)) (hb : PE X b (tV Z.T W sb)) : PE X (.BinOp a .Mult b pos) (tV Z.T W (sOp (mulD bx) sa sb)) := pv_op (fun _ _ _ => mulD_calm) (ov_mul h.K) ha hb
theorem v_sub (h : XO Z t k N sc raw X W) (ha : PE X a (tV Z.T W sa)) (hb : PE X b (tV Z.T W sb)) : PE X (.BinOp a .Sub b pos) (tV Z.T W (sOp subD sa sb)) := pv_op (fun _ _ _ => subD_calm) ov_sub ha hb
theorem v_fdiv (h : XO Z t k N sc raw X W) (ha : PE X a (tV Z.T W sa)) (hb : PE X b (tV Z.T W sb)) : PE X (.BinOp a .FloorDiv b pos) (tV Z.T W (sOp fdivD sa sb)) := pv_op (fun _ _ _ => fdivD_calm) ov_fdiv ha hb
theorem v_mod (h : XO Z t k N sc raw X W) (ha : PE X a (tV Z.T W sa)) (hb : PE X b (tV Z.T W sb)) : PE X (.BinOp a .Mod b pos) (tV Z.T W (sOp modD sa sb)) := pv_op (fun _ _ _ => modD_calm) ov_mod ha hb
theorem v_ix (h : XO Z t k N sc raw X W) (hs : noSlice b = true) (ha : PE X a (tV Z.T W sa)) (hb : PE X b (tV Z.T W sb)) : PE X (.Subscript a b pos) (tV Z.T W (sOp ixD sa sb)) := pv_ix h.K hs ha hb
theorem v_sl {bx : Bool} {e : Expr} {lo hi : Option Expr} {p2 pos : Pos} {s : SV} {l u : SO} (h : XO Z t k N sc raw X W) (he : PE X e (tV Z.T W s)) (hl : PO X lo (tO' Z.T W l)) (hu : PO X hi (tO' Z.T W u)) : PE X (.Subscript e (.Slice lo hi none p2) pos) (tV Z.T W (sSl bx s l u)) := pv_sl h.K he hl hu
/-- a comparison of two values -/
structure CF (op : CmpOp) (f : D → D → Bs → R D) : Prop where
  cf : ∀ d e h, Calm (f d e h)
  run : ∀ {Z : Cfg} {t : Tx} {k : Nat} {N : List Str} {sc : Scope} {raw : Option Scope} {X : Cx} {W : WX}, XO Z t k N sc raw X W → OpR X (compareOp op) (rD2 Z.T f)
abbrev ltD' := ltD fun i j => decide (i < j)
abbrev leD' := ltD fun i j => decide (i ≤ j)
abbrev gtD' := ltD fun i j => decide (j < i)
abbrev geD' := ltD fun i j => decide (j ≤ i)
theorem C_eq : CF .Eq (eqD false) := ⟨fun _ _ _ => eqD_calm, fun h => ov_eq h.K (by have := h.units; omega)⟩
theorem C_ne : CF .NotEq (eqD true) := ⟨fun _ _ _ => eqD_calm, fun h => ov_ne h.K (by have := h.units; omega)⟩
theorem C_lt : CF .Lt ltD' := ⟨fun _ _ _ => ltD_calm, fun h => ov_cmp op_lt⟩
theorem C_le : CF .LtE leD' := ⟨fun _ _ _ => ltD_calm, fun h => ov_cmp op_le⟩
theorem C_gt : CF .Gt gtD' := ⟨fun _ _ _ => ltD_calm, fun h => ov_cmp op_gt⟩
theorem C_ge : CF .GtE geD' := ⟨fun _ _ _ => ltD_calm, fun h => ov_cmp op_ge⟩
theorem C_in : CF .In (inD false) := ⟨fun _ _ _ => inD_calm, fun h => ov_in h.K h.units⟩
theorem C_notIn : CF .NotIn (inD true) := ⟨fun _ _ _ => inD_calm, fun h => ov_notIn h.K h.units⟩
theorem v_cmp {op : CmpOp} {f : D → D → Bs → R D} (C : CF op f) (h : XO Z t k N sc raw X W) (hb' : behindInMarks op b = false) (ha : PE X a (tV Z.T W sa)) (hb : PE X b (tV Z.T W sb)) : PE X (.Compare a [op] [b] pos) (tV Z.T W (sOp f sa sb)) := pv_cmp (pc_v C.cf (C.run h) ha hb) hb'
theorem t_cmp {op : CmpOp} {f : D → D → Bs → R D} (C : CF op f) (h : XO Z t k N sc raw X W) (hb' : behindInMarks op b = false) (ha : PE X a (tV Z.T W sa)) (hb : PE X b (tV Z.T W sb)) : PT X (.Compare a [op] [b] pos) (tB' Z.T W (sTru (sOp f sa sb))) := pvt_cmp (pc_v C.cf (C.run h) ha hb) hb'
theorem v_chn {op op' : CmpOp} {f g : D → D → Bs → R D} (C : CF op f) (C' : CF op' g) (h : XO Z t k N sc raw X W) (hm : lastMarks [op, op'] [b, c] = false) (ha : PE X a (tV Z.T W sa)) (hb : PE X b (tV Z.T W sb)) (hc : PE X c (tV Z.T W s3)) : PE X (.Compare a [op, op'] [b, c] pos) (tV Z.T W (sChn f g sa sb s3)) :=
  pv_chn C.cf C'.cf (C.run h) (C'.run h) hm ha hb hc
theorem t_chn {op op' : CmpOp} {f g : D → D → Bs → R D} (C : CF op f) (C' : CF op' g) (h : XO Z t k N sc raw X W) (hm : lastMarks [op, op'] [b, c] = false) (ha : PE X a (tV Z.T W sa)) (hb : PE X b (tV Z.T W sb)) (hc : PE X c (tV Z.T W s3)) : PT X (.Compare a [op, op'] [b, c] pos) (tB' Z.T W (sTru (sChn f g sa sb s3))) :=
  pvt_chn C.cf C'.cf (C.run h) (C'.run h) hm ha hb hc
theorem v_isN {j pos'} (ha : PE X a (tV Z.T W sa)) : PE X (.Compare a [.Is] [.Constant .none j pos'] pos) (tV Z.T W (sUn (isN false) sa)) := pv_cmp (pcv_isN ha) rfl
theorem t_isN {j pos'} (ha : PE X a (tV Z.T W sa)) : PT X (.Compare a [.Is] [.Constant .none j pos'] pos) (tB' Z.T W (sTru (sUn (isN false) sa))) := pvt_cmp (pcv_isN ha) rfl
theorem v_notN {j pos'} (ha : PE X a (tV Z.T W sa)) : PE X (.Compare a [.IsNot] [.Constant .none j pos'] pos) (tV Z.T W (sUn (isN true) sa)) := pv_cmp (pcv_notN ha) rfl
theorem t_notN {j pos'} (ha : PE X a (tV Z.T W sa)) : PT X (.Compare a [.IsNot] [.Constant .none j pos'] pos) (tB' Z.T W (sTru (sUn (isN true) sa))) := pvt_cmp (pcv_notN ha) rfl
theorem t_and {rest : List Expr} (ha : PW X (.BoolOp .And (a :: b :: rest) pos) (tB' Z.T W (sTru sa))) : PT X (.BoolOp .And (a :: b :: rest) pos) (tB' Z.T W (sTru sa)) := ha.pt
/-! ### isinstance -/
theorem clsN_ty (h : XO Z t k N sc raw X W) {u : Nat} {id : String} (hu : u < 7) (e : tyS u = id) (hb : bootBuiltins x = some (.type id)) (g : (glC sc x && t.fr.contains x) = true) : ClsN X Z.T x u := by
  simp only [Bool.and_eq_true] at g
  obtain ⟨a, b, c⟩ := h.gl g.1
  refine ⟨.ty id, .type id, by unfold Tb.tyV; rw [if_pos hu, e], ?_, fun pos => pe_bltn a (h.fr g.2) hb ?_ c b⟩
  · exact .ty id
  · rfl
end
end VI
end
section
namespace VI
open PySem PySem.Spec PyProof.Rows L2
/-- swappedStores by the scope alone: none = it stops -/
def swC (ts vs : List Expr) (sc : Scope) : Option (Option (List Str)) :=
  if !(ts.length == 2 || ts.length == 3) || vs.length != ts.length || (match sc.kind with | .function => false | _ => true) then some none else
  if vs.any (fun | .Starred .. => true | _ => false) then some none else
  let line := (ts.head?.map (·.pos.line)).getD 0
  let names := ts.filterMap fun
    | .Name id pos => if sc.names.lookup id == some .local && pos.line == line then some id else none
    | _ => none
  if names.length != ts.length || names.eraseDups.length != names.length then some none else
  if vs.all (foldedForSure 8) then some none else
  if vs.all (constantsAlone 8) then none else
  some (some names)
def tupOf : Expr → Option (List Expr)
  | .Tuple ts _ _ => some ts
  | _ => none
section
variable {Z : Cfg} {t : Tx} {k : Nat} {N : List Str} {sc : Scope} {raw : Option Scope} {X : Cx} {W : WX} {pos p : Pos} {a b c : Expr} {sa sb s3 : SV} {x : Str}
theorem sw_of {ts vs : List Expr} {k1 k2 : Nat} {p1 p2 : Pos} {env : Env} {r : Option (List Str)} (hs : env.scope = sc) (hk : sc.kind = .function) (h : swC ts vs sc = some r) : swappedStores [.Tuple ts k1 p1] (.Tuple vs k2 p2) env = pure r := by
  have hb : env.blockKind = .function := by unfold Env.blockKind; rw [hs, hk]; rfl
  unfold swC at h
  unfold swappedStores
  simp only [hb, hk, Env.kindOf, hs] at h ⊢
  have hff : (ScopeKind.function != ScopeKind.function) = false := rfl
  rw [hff]
  split at h
  · rename_i c; refine (if_pos c).trans ?_; cases h; rfl
  rename_i c; refine (if_neg c).trans ?_; clear c
  split at h
  · rename_i c; refine (if_pos c).trans ?_; cases h; rfl
  rename_i c; refine (if_neg c).trans ?_; clear c
  split at h
  · rename_i c; refine (if_pos c).trans ?_; cases h; rfl
  rename_i c; refine (if_neg c).trans ?_; clear c
  split at h
  · rename_i c; refine (if_pos c).trans ?_; cases h; rfl
  rename_i c; refine (if_neg c).trans ?_; clear c
  split at h
  · cases h
  rename_i c; refine (if_neg c).trans ?_; clear c
  cases h
  rfl
theorem sw_none {tg v : Expr} {env : Env} (h : (match tg with | .Tuple .. => false | .List .. => false | _ => true) = true ∨ (match v with | .Tuple .. => false | _ => true) = true) : swappedStores [tg] v env = pure none := by
  cases tg <;> cases v <;> first | rfl | (rcases h with h | h <;> cases h)

/-! ### statements -/
theorem s_set {i : Nat} {py : Pos} (h : XO Z t k N sc raw X W) (g : locC N sc raw i x = true) (hc : isComp a = false) (ha : PE X a (tV Z.T W sa)) : PS X (.Assign [.Name x py] a pos) (tS' Z.T W (ssAsg sa (sgName i))) := by
  obtain ⟨g1, g2, g3⟩ := h.loc g
  exact psv_set h.nd' g1 g2 g3 hc ha
theorem g_name {i : Nat} {own : List Nat} (h : XO Z t k N sc raw X W) (g : locC N sc raw i x = true) (ho : own.contains i = true) : PG X (.Name x pos) (tG' Z.T own (sgName i)) := by
  obtain ⟨g1, g2, g3⟩ := h.loc g
  exact pgv_name h.nd' g1 g2 g3 (by simpa using ho)
theorem g_tup {own : List Nat} {es : List Expr} {j : Nat} {s : SGs} (h : XO Z t k N sc raw X W) (hs : noStarTs es = true) (hg : PGs X es (tGs' Z.T own s)) : PG X (.Tuple es j pos) (tG' Z.T own (sgTup es.length s)) := pgv_tup h.calm hs hg
/-- to a tuple of targets, a tuple: the stores in their order -/
theorem s_asgT {own : List Nat} {ts vs : List Expr} {k1 k2 : Nat} {p1 p2 : Pos} {g : SG} (h : XO Z t k N sc raw X W) (hw : swC ts vs sc = some none) (ha : PE X (.Tuple vs k2 p2) (tV Z.T W sa)) (hg : PG X (.Tuple ts k1 p1) (tG' Z.T own g)) : PS X (.Assign [.Tuple ts k1 p1] (.Tuple vs k2 p2) pos) (tS' Z.T W (ssAsg sa g)) :=
  psv_asg rfl (sw_of h.sc h.kd hw) rfl ha hg
def noTup : Expr → Bool
  | .Tuple .. => false
  | _ => true
theorem s_asg {own : List Nat} {tg : Expr} {g : SG} (h : XO Z t k N sc raw X W) (hc : (!isComp a && noStarT tg && noTup a) = true) (ha : PE X a (tV Z.T W sa)) (hg : PG X tg (tG' Z.T own g)) : PS X (.Assign [tg] a pos) (tS' Z.T W (ssAsg sa g)) := by
  simp only [Bool.and_eq_true, Bool.not_eq_true'] at hc
  refine psv_asg hc.1.1 (sw_none (.inr ?_)) hc.1.2 ha hg
  have e := hc.2
  cases a <;> first | rfl | cases e
theorem s_par {i j : Nat} {y : Str} {px py pt pos : Pos} {kt k2 pt2} {s : SA} (h : XO Z t k N sc raw X W) (gx : locC N sc raw i x = true) (gy : locC N sc raw j y = true) (hl : (decide (i ≠ j) && decide (sc.names.lookup x = some .local) && decide (sc.names.lookup y = some .local)) = true)
    (hw : swC [.Name x px, .Name y py] [a, b] sc = some (some [x, y])) (ha : PA X [a, b] (tA' Z.T W s)) :
    PS X (.Assign [.Tuple [.Name x px, .Name y py] kt pt] (.Tuple [a, b] k2 pt2) pos) (tS' Z.T W (ssAsg (sTup s) (sgTup 2 (sgCons (sgName i) (sgCons (sgName j) sgNil))))) := by
  simp only [Bool.and_eq_true, decide_eq_true_eq] at hl
  exact psv_par h.calm h.nd' (h.loc gx).1 (h.loc gy).1 hl.1.1 (by rw [h.sc]; exact hl.1.2) (by rw [h.sc]; exact hl.2) ha (sw_of h.sc h.kd hw)
def noSet : Expr → Bool
  | .Set .. => false
  | _ => true
theorem fsi {e : Expr} {env : Env} (h : noSet e = true) (x : Value) : foldedSetIterable e env x = pure x := by
  cases e <;> first | rfl | cases h
theorem s_for {own : List Nat} {tg iter : Expr} {body : List Stmt} {it : SI} {g : SG} {s : SS} (h : XO Z t k N sc raw X W) (hs : noSet iter = true) (hi : PI X tg iter (tI' Z.T W it)) (hg : PG X tg (tG' Z.T own g)) (hb : PSs X body (tS' Z.T W s)) : PS X (.For tg iter body [] pos) (tS' Z.T W (ssFor it g s)) :=
  psv_for h.pass h.calm hi hg hb (fsi hs)
theorem s_while {body : List Stmt} {s : SS} {n : Nat} (h : XO Z t k N sc raw X W) (hc : PT X c (tB' Z.T W (sTru s3))) (hb : PSs X body (tS' Z.T W s)) : PS X (.While c body [] pos) (tS' Z.T W (whileS s3 s n)) := psv_while h.pass hc hb
theorem i_seq {tg e : Expr} {s : SV} (h : XO Z t k N sc raw X W) (he : PE X e (tV Z.T W s)) : PI X tg e (tI' Z.T W (siSeq s)) := piv_seq h.K he
theorem i_rng1 {tg : Expr} {s : SA} (h : XO Z t k N sc raw X W) (g : (glC sc "range" && t.fr.contains "range" && noStars [a]) = true) (ha : PA X [a] (tA' Z.T W s)) : PI X tg (.Call (.Name "range" p) [a] [] pos) (tI' Z.T W (siArg itRng1 s)) := by
  simp only [Bool.and_eq_true, noStars, List.all_cons, List.all_nil, Bool.not_eq_true', Bool.and_true] at g
  exact piv_range1 (h.gl g.1.1).1 (h.fr g.1.2) g.2 ha
theorem i_rng2 {tg : Expr} {s : SA} (h : XO Z t k N sc raw X W) (g : (glC sc "range" && t.fr.contains "range" && noStars [a, b]) = true) (ha : PA X [a, b] (tA' Z.T W s)) : PI X tg (.Call (.Name "range" p) [a, b] [] pos) (tI' Z.T W (siArg itRng2 s)) := by
  simp only [Bool.and_eq_true, noStars, List.all_cons, List.all_nil, Bool.not_eq_true', Bool.and_true] at g
  exact piv_range2 (h.gl g.1.1).1 (h.fr g.1.2) g.2.1 g.2.2 ha
theorem i_enum {tpos : Pos} {elts : List Expr} {kk : Nat} {s : SA} (h : XO Z t k N sc raw X W) (g : (glC sc "enumerate" && t.fr.contains "enumerate" && noStars [a]) = true) (ha : PA X [a] (tA' Z.T W s)) : PI X (.Tuple elts kk tpos) (.Call (.Name "enumerate" p) [a] [] pos) (tI' Z.T W (siArg itEnum s)) := by
  simp only [Bool.and_eq_true, noStars, List.all_cons, List.all_nil, Bool.not_eq_true', Bool.and_true] at g
  exact piv_enum h.K (h.gl g.1.1).1 (h.fr g.1.2) g.2 ha
theorem i_zip {tpos : Pos} {elts : List Expr} {kk : Nat} {s : SA} (h : XO Z t k N sc raw X W) (g : (glC sc "zip" && t.fr.contains "zip" && noStars [a, b]) = true) (ha : PA X [a, b] (tA' Z.T W s)) : PI X (.Tuple elts kk tpos) (.Call (.Name "zip" p) [a, b] [] pos) (tI' Z.T W (siArg itZip s)) := by
  simp only [Bool.and_eq_true, noStars, List.all_cons, List.all_nil, Bool.not_eq_true', Bool.and_true] at g
  exact piv_zip h.K (h.gl g.1.1).1 (h.fr g.1.2) g.2.1 g.2.2 ha
/-! ### comprehensions -/
theorem v_lc {bx : Bool} {own : List (Str × Nat)} {tg iter elt : Expr} {ifs : List Expr} {scope : Scope} {it : SI} {g : SG} {tt : SB} {el : SV} (h : XO Z t k N sc raw X W) (g1 : (blkC N sc scope own && noSet iter) = true) (hi : PI X tg iter (tI' Z.T W it))
    (hb : ∀ X' : Cx, XO Z t k N (relS scope sc) (some scope) X' noW → PG X' tg (tG' Z.T (own.map (·.2)) g) ∧ PTs X' ifs (tB' Z.T noW tt) ∧ PE X' elt (tV Z.T noW el)) :
    PE X (.ListComp elt [⟨tg, iter, ifs, 0⟩] scope pos) (tV Z.T W (sLc bx (own.map (·.2)) it g tt el)) := by
  simp only [Bool.and_eq_true] at g1
  have ok : BlkOk X.N X.env.scope scope own := by rw [h.N, h.sc]; exact blkOk_by g1.1
  have q := fun s H C cl fp => hb _ (h.blk ok.kind s H C cl fp)
  exact pv_lc h.calm h.nd' hi ok (fun s H C cl fp => (q s H C cl fp).1) (fun s H C cl fp => (q s H C cl fp).2.1) (fun s H C cl fp => (q s H C cl fp).2.2) (fsi g1.2)
def swl (scope : Scope) (y : Str) (py pos : Pos) : Bool := (py.line == pos.line) && !(scope.names.any fun (n, k) => n == y && (k == .local || k == .cell))
theorem s_setLc {bx : Bool} {i : Nat} {y : Str} {py spos : Pos} {own : List (Str × Nat)} {tg iter elt : Expr} {ifs : List Expr} {scope : Scope} {it : SI} {g : SG} {tt : SB} {el : SV} (h : XO Z t k N sc raw X W)
    (g0 : (decide (N[i]? = some y) && decide (sc.names.lookup y = some .local) && swl scope y py pos) = true) (g1 : (blkC N sc scope own && noSet iter) = true) (hi : PI X tg iter (tI' Z.T W it))
    (hb : ∀ X' : Cx, XO Z t k N (relS scope sc) (some scope) X' noW → PG X' tg (tG' Z.T (own.map (·.2)) g) ∧ PTs X' ifs (tB' Z.T noW tt) ∧ PE X' elt (tV Z.T noW el)) :
    PS X (.Assign [.Name y py] (.ListComp elt [⟨tg, iter, ifs, 0⟩] scope pos) spos) (tS' Z.T W (ssAsg (sLc bx (own.map (·.2)) it g tt el) (sgName i))) := by
  simp only [Bool.and_eq_true, decide_eq_true_eq, swl, Bool.not_eq_true'] at g1 g0
  have ok : BlkOk X.N X.env.scope scope own := by rw [h.N, h.sc]; exact blkOk_by g1.1
  have q := fun s H C cl fp => hb _ (h.blk ok.kind s H C cl fp)
  exact psv_setLc h.calm h.nd' (by rw [h.N]; exact g0.1.1) (by rw [h.sc]; exact g0.1.2) (sw_true (by rw [h.sc]; exact h.kd) (by rw [h.sc]; exact g0.1.2) g0.2.1 g0.2.2) hi ok (fun s H C cl fp => (q s H C cl fp).1) (fun s H C cl fp => (q s H C cl fp).2.1) (fun s H C cl fp => (q s H C cl fp).2.2) (fsi g1.2)
/-- the name is not a plain local: as it stands -/
theorem s_setLcN {i : Nat} {y : Str} {py spos : Pos} {gs : List Comprehension} {elt : Expr} {scope : Scope} {s : SV} (h : XO Z t k N sc raw X W) (g : locC N sc raw i y = true) (hl : (decide (sc.names.lookup y ≠ some .local) || !swl scope y py pos) = true)
    (ha : PE X (.ListComp elt gs scope pos) (tV Z.T W s)) : PS X (.Assign [.Name y py] (.ListComp elt gs scope pos) spos) (tS' Z.T W (ssAsg s (sgName i))) := by
  obtain ⟨g1, g2, g3⟩ := h.loc g
  refine PS.imp (ps_set h.nd' g1 g2 ha ?_ g3) asgN_imp
  unfold swapsWith
  have hb : X.env.blockKind = .function := by unfold Env.blockKind; rw [h.sc, h.kd]; rfl
  simp only [hb, Env.kindOf, h.sc, Expr.pos]
  have e : (ScopeKind.function == ScopeKind.function && List.lookup y sc.names == some NameKind.local && py.line == pos.line && !(scope.names.any fun (n, k) => n == y && (k == .local || k == .cell))) = false := by
    simp only [Bool.or_eq_true, decide_eq_true_eq, Bool.not_eq_true', swl] at hl
    rcases hl with hl | hl
    · have e2 : (List.lookup y sc.names == some NameKind.local) = false := by
        cases z : (List.lookup y sc.names == some NameKind.local) with
        | false => rfl
        | true => exact absurd (LawfulBEq.eq_of_beq z) hl
      rw [e2]; simp
    · rw [Bool.and_assoc, hl]; simp
  exact congrArg pure e
/-! ### methods of lists -/
structure LM (name : Str) (id : String) (f : D → List D → Bs → R D) : Prop where
  cf : ∀ d ds h, Calm (f d ds h)
  slot : Slot "list" name id
  ty : typeOf (.builtin id) = pure (.type "method_descriptor")
  run : ∀ {X : Cx} {T : Tb}, MtR X id (rMt T f)
theorem v_bm {name : Str} {id : String} {f : D → List D → Bs → R D} {e : Expr} {es : List Expr} {apos cpos : Pos} {so : SV} {s : SA} (M : LM name id f) (h : XO Z t k N sc raw X W) (g : (noSuper a && noStars (e :: es) && Nat.blt (e :: es).length 30 && (apos.endLine == cpos.line)) = true) (ho : PE X a (tV Z.T W so)) (ha : PA X (e :: es) (tA' Z.T W s)) :
    PE X (.Call (.Attribute a name apos) (e :: es) [] cpos) (tV Z.T W (sBm f so s)) := by
  simp only [Bool.and_eq_true] at g
  exact pv_bm M.cf h.K PySem.F.plainAttrs_list M.slot M.ty M.run g.1.1.1 g.1.1.2 (by have e := g.1.2; simp [Nat.blt] at e; simp; omega) g.2 ho ha
theorem v_bm0 {name : Str} {id : String} {f : D → List D → Bs → R D} {apos cpos : Pos} {so : SV} (M : LM name id f) (h : XO Z t k N sc raw X W) (g : (noSuper a && (apos.endLine == cpos.line)) = true) (ho : PE X a (tV Z.T W so)) :
    PE X (.Call (.Attribute a name apos) [] [] cpos) (tV Z.T W (sBm f so saNil)) := by
  simp only [Bool.and_eq_true] at g
  exact pv_bm0 M.cf h.K PySem.F.plainAttrs_list M.slot M.ty M.run g.1 g.2 ho
theorem M_append : LM "append" "list.append" appD := ⟨fun _ _ _ => appD_calm, PySem.F.slot_list_append, PySem.F.type_list_append, mv_append⟩
theorem M_extend : LM "extend" "list.extend" extD := ⟨fun _ _ _ => extD_calm, PySem.F.slot_list_extend, PySem.F.type_list_extend, mv_extend⟩
theorem M_pop : LM "pop" "list.pop" popD := ⟨fun _ _ _ => popD_calm, PySem.F.slot_list_pop, PySem.F.type_list_pop, mv_pop⟩
/-! ### isinstance -/
theorem v_isi {e : Expr} {u : Nat} {q : Pos} {s : SV} (h : XO Z t k N sc raw X W) (g : (glC sc "isinstance" && t.fr.contains "isinstance" && noStars [e]) = true) (hx : ClsN X Z.T x u) (he : PE X e (tV Z.T W s)) : PE X (.Call (.Name "isinstance" p) [e, .Name x q] [] pos) (tV Z.T W (sUn (isiD Z.T u) s)) := by
  simp only [Bool.and_eq_true, noStars, List.all_cons, List.all_nil, Bool.not_eq_true', Bool.and_true] at g
  exact pv_isi h.z.ok h.K (h.gl g.1.1).1 (h.fr g.1.2) (by decide +kernel) g.2 hx he
theorem v_isi2 {e : Expr} {y : Str} {u u2 kk : Nat} {q q2 q3 : Pos} {s : SV} (h : XO Z t k N sc raw X W) (g : (glC sc "isinstance" && t.fr.contains "isinstance" && noStars [e]) = true) (hx : ClsN X Z.T x u) (hy : ClsN X Z.T y u2) (he : PE X e (tV Z.T W s)) :
    PE X (.Call (.Name "isinstance" p) [e, .Tuple [.Name x q, .Name y q2] kk q3] [] pos) (tV Z.T W (sUn (isiD2 Z.T u u2) s)) := by
  simp only [Bool.and_eq_true, noStars, List.all_cons, List.all_nil, Bool.not_eq_true', Bool.and_true] at g
  exact pv_isi2 h.z.ok h.K (h.gl g.1.1).1 (h.fr g.1.2) (by decide +kernel) g.2 hx hy he
theorem N_int (h : XO Z t k N sc raw X W) (g : (glC sc "int" && t.fr.contains "int") = true) : ClsN X Z.T "int" 2 := clsN_ty h (by decide) rfl (by decide +kernel) g
theorem N_bool (h : XO Z t k N sc raw X W) (g : (glC sc "bool" && t.fr.contains "bool") = true) : ClsN X Z.T "bool" 1 := clsN_ty h (by decide) rfl (by decide +kernel) g
theorem N_str (h : XO Z t k N sc raw X W) (g : (glC sc "str" && t.fr.contains "str") = true) : ClsN X Z.T "str" 3 := clsN_ty h (by decide) rfl (by decide +kernel) g
theorem N_tuple (h : XO Z t k N sc raw X W) (g : (glC sc "tuple" && t.fr.contains "tuple") = true) : ClsN X Z.T "tuple" 4 := clsN_ty h (by decide) rfl (by decide +kernel) g
theorem N_list (h : XO Z t k N sc raw X W) (g : (glC sc "list" && t.fr.contains "list") = true) : ClsN X Z.T "list" 5 := clsN_ty h (by decide) rfl (by decide +kernel) g
/-! ### a def -/
def DefAt (Z : Cfg) (x : Str) (st : Stmt) : Prop := ∃ f fd, FunD Z.T.K x x (defArgs st) (defBody st) (defScope st) [] [] f fd ∧ Z.mg x = some (.ref f)
theorem fn_of {x : Str} {st : Stmt} {N ps : List Str} {s : SS} (z : Z.Ok t) (Df : DefAt Z x st) (S : FnScope N ps (defScope st))
    (hb : ∀ (kV doc pm : Value) (an : Option Addr) (cdv ct : Value) (us : List Value), us.length = ps.length → bindArgs (PySem.W.fnOf x x (defArgs st) (defBody st) (defScope st) .none kV doc pm an cdv ct) ⟨us, []⟩ = pure (ps.zip us))
    (B : ∀ (X : Cx) (W : WX), XO Z t k N (defScope st) none X W → PSs X (defBody st) (tS' Z.T W s)) : FnG Z x (k + 1) (runFn ps.length N.length s) := by
  obtain ⟨f, fd, F, hm⟩ := Df
  refine ⟨f, fd, ps, fn_sound F S fun cdv A outer s H E hr => B _ _ ⟨z, rfl, rfl, rfl, rfl, rfl, rfl, S.nd, rfl, S.kind, fun _ _ => rfl, rfl, hr, takes_of rfl rfl rfl rfl, passes_of rfl⟩, hm, F.kp, F.bindsN hb⟩
theorem FnG.mono {x : Str} {j k : Nat} {cf : List D → Bs → R D} (F : FnG Z x j cf) : FnG Z x j cf := F
end
end VI
end
section
namespace VI
open PySem PySem.Spec PyProof.Rows L2
/-! ### len(set(..)) of whole numbers -/
def dedI : List Int → List Int
  | [] => []
  | n :: ns => if n ∈ ns then dedI ns else n :: dedI ns
theorem dedI_mem (k : Int) : ∀ ns, k ∈ dedI ns ↔ k ∈ ns
  | [] => by simp [dedI]
  | n :: ns => by
    simp only [dedI]
    split
    · rename_i h
      rw [dedI_mem k ns]
      simp only [List.mem_cons]
      constructor
      · exact .inr
      · rintro (rfl | h2)
        · exact h
        · exact h2
    · simp only [List.mem_cons, dedI_mem k ns]
theorem dedI_nodup : ∀ ns, (dedI ns).Nodup
  | [] => .nil
  | n :: ns => by
    simp only [dedI]
    split
    · exact dedI_nodup ns
    · rename_i h
      exact List.nodup_cons.mpr ⟨fun e => h ((dedI_mem n ns).mp e), dedI_nodup ns⟩
theorem ded_len {ns l : List Int} (hn : l.Nodup) (hm : ∀ k, k ∈ l ↔ k ∈ ns) : l.length = (dedI ns).length :=
  ((List.perm_ext_iff_of_nodup hn (dedI_nodup ns)).mpr fun a => (hm a).trans (dedI_mem a ns).symm).length_eq
theorem fm_nodup (val : Nat → Int) : ∀ i, (firstMet val i).Nodup
  | 0 => by rw [firstMet_zero]; exact .nil
  | i + 1 => by
    rw [firstMet_succ]
    unfold step_dedup
    split
    · exact fm_nodup val i
    · rename_i h
      refine List.nodup_append.mpr ⟨fm_nodup val i, by simp, ?_⟩
      intro a ha b hb e
      simp only [List.mem_singleton] at hb
      subst hb e
      apply h
      simpa using ha
theorem getD_range (ns : List Int) : (List.range ns.length).map (fun i => ns.getD i 0) = ns := by
  apply List.ext_getElem
  · simp
  · intro i h1 h2
    simp [List.getD, List.getElem?_eq_getElem h2]
theorem fm_len (ns : List Int) : (firstMet (fun i => ns.getD i 0) ns.length).length = (dedI ns).length := by
  refine ded_len (fm_nodup _ _) fun k => ?_
  have e := firstMet_any (fun i => ns.getD i 0) ns.length k
  rw [getD_range] at e
  constructor
  · intro h
    have : ns.any (· == k) = true := by rw [← e]; exact List.any_eq_true.mpr ⟨k, h, by simp⟩
    simpa using this
  · intro h
    have : (firstMet (fun i => ns.getD i 0) ns.length).any (· == k) = true := by rw [e]; exact List.any_eq_true.mpr ⟨k, h, by simp⟩
    simpa using this
def lenSetD (d : D) (h : Bs) : R D := match seqOf h d with
  | some xs => (match intsD xs with
    | some ns => if ns.length ≤ 1000 then .ok (.int (dedI ns).length) h else .no
    | none => .no)
  | none => .no
section
variable {Z : Cfg} {t : Tx} {k : Nat} {N : List Str} {sc : Scope} {raw : Option Scope} {X : Cx} {W : WX} {pos p q p2 : Pos} {a b c : Expr} {sa sb s3 : SV} {x : Str}
theorem na_one {env : Env} (hs : noStars [a] = true) : starEach [a] env = (false, eval a env) :: starEach [] env := star_no (by simpa [noStars] using hs)
theorem dedI_le : ∀ ns : List Int, (dedI ns).length ≤ ns.length
  | [] => Nat.le_refl _
  | n :: ns => by
    have := dedI_le ns
    simp only [dedI]
    split <;> simp <;> omega
def tLs (K : PySem.W.Frag) (ta : TE) : TE := fun σ H Q => ta σ H fun x H1 => ∃ (l : Addr) (ns : List Int), x = .ref l ∧ (SqT K H1 l (ns.map V.int) ∨ SqL K H1 l (ns.map V.int)) ∧ ns.length ≤ 1000 ∧ Q (.int ((dedI ns).length : Nat)) H1
theorem pe_ls {ta : TE} (hg : Gl X "len") (hm : X.mg "len" = none) (hg2 : Gl X "set") (hm2 : X.mg "set" = none) (ha : PE X a ta) (hc : X.calm = true)
    (na : starEach [a] X.env = (false, eval a X.env) :: starEach [] X.env) : PE X (.Call (.Name "len" p) [.Call (.Name "set" p2) [a] [] q] [] pos) (tLs X.K ta) := by
  refine ⟨fun pins s σ H Q I h => ?_⟩
  refine Call_ (ld_blt I hg hm boot_len ?_)
  refine PyProof.Rows.callWith_builtin1 (PyProof.Rows.args_cons ?_ rfl) rfl rfl
  refine Call_ (ld_blt I hg2 hm2 PyProof.Rows.boot_set ?_)
  refine PyProof.Rows.callWith_type1 (PyProof.Rows.args_cons (thn (ha.run pins s σ H _ I h) fun v s1 ⟨x, H1, I1, r1, q1⟩ => PyProof.Rows.args_nil ?_) na) na rfl
  obtain ⟨l, ns, rfl, hq, hl, q1⟩ := q1
  cases r1
  rcases hq with hq | hq
  · obtain ⟨its, rv, pt, hz⟩ := I1.tuple hq
    have hi : IntsAre its.toArray.toList ns := by simpa using RZ.intsAre_vals rv
    refine call_set_tupI ns (I1.ok.hd hc) (show s1.heap.IsTuple l its.toArray from pt) hi (by unfold scanBound; omega) fun h' tk c R1 hcn k => ?_
    refine PyProof.Rows.args_nil ?_
    obtain ⟨o, es, ep, t, ho, hex, hdt, g, nd, hm2, hb, hf, hn, hr, hl2⟩ := R1
    have I2 : Inv X pins σ H1 { s1 with heap := h', toks := tk } := I1.kept k
    have e : es.size = (dedI ns).length := by
      rw [← ded_len nd fun k => by rw [← hm2 k]; simp, List.length_map, Array.length_toList]
    exact call_len_set ho hex hdt hf (by have := dedI_le ns; omega) ⟨.int (dedI ns).length, H1, I2.tok _, ⟨_, by rw [e]⟩, q1⟩
  · obtain ⟨its, r, pl, hz⟩ := I1.list hq
    have hlen : its.toArray.size = ns.length := by rw [List.size_toArray, ← r.length, List.length_map]
    refine call_set_list (I1.ok.hd hc) pl.isList (by simpa using RZ.intsAre_vals r) (by rw [hlen]; unfold scanBound; omega) fun h' tk hS hk => ?_
    refine PyProof.Rows.args_nil ?_
    rw [hlen, fm_len] at hS
    obtain ⟨o, es, ep, t, ho, hex, hd, _, _, _, hf, hn⟩ := hS
    have I2 : Inv X pins σ H1 { s1 with heap := h', toks := tk } := I1.kept fun b o e => hk b o (Heap.lt_size e) e
    exact call_len_set ho hex hd hf (by have := dedI_le ns; rw [hn]; omega) ⟨.int (dedI ns).length, H1, I2.tok _, ⟨_, by rw [hn]⟩, q1⟩
theorem v_ls (h : XO Z t k N sc raw X W) (g : (glC sc "len" && t.fr.contains "len" && glC sc "set" && t.fr.contains "set" && noStars [a]) = true) (ha : PE X a (tV Z.T W sa)) : PE X (.Call (.Name "len" p) [.Call (.Name "set" p2) [a] [] q] [] pos) (tV Z.T W (sUn lenSetD sa)) := by
  simp only [Bool.and_eq_true] at g
  refine PE.imp (pe_ls (h.gl g.1.1.1.1).1 (h.fr g.1.1.1.2) (h.gl g.1.1.2).1 (h.fr g.1.2) ha h.calm (na_one g.2)) fun σ H Q ⟨μ, ρ, hh, r, e, o⟩ => ⟨μ, ρ, hh, r, e, OutV.mono (OutV.bind o) ?_⟩
  rintro v H1 ⟨μ1, d, h1, s1, r1, rv, o1⟩
  unfold lenSetD at o1
  split at o1
  · split at o1
    · split at o1
      · rename_i xs hx _ ns hn hl
        obtain ⟨a, rfl, hq⟩ := r1.ints rv hx hn
        exact ⟨a, ns, rfl, by rw [h.K]; exact hq, hl, o1 μ1 H1 _ Stp.refl r1 (rep_int rfl)⟩
      · exact o1.elim
    · exact o1.elim
  · exact o1.elim
/-! ### list(range(..)) -/
def rgL (bx : Bool) (d : D) (h : Bs) : R D := match d with
  | .int n => if -(2 ^ 62) ≤ n ∧ n < 2 ^ 62 ∧ n.toNat ≤ 2 ^ 24 then newL bx (rngItems 0 n.toNat) h else .no
  | _ => .no
def rgT (d : D) (h : Bs) : R D := match d with
  | .int n => if -(2 ^ 62) ≤ n ∧ n < 2 ^ 62 ∧ n.toNat ≤ 2 ^ 24 then newT (rngItems 0 n.toNat) h else .no
  | _ => .no
theorem rng_reps {T : Tb} {μ : Mu} {H : Hp} (lo : Int) (b : Int) : Reps T μ H (rngItems lo (b - lo).toNat) (rgV lo b) := by
  unfold rngItems rgV
  have e : (List.range (b - lo).toNat).map (fun (i : Nat) => D.int (lo + (i : Int))) = ((List.range (b - lo).toNat).map fun (i : Nat) => lo + (i : Int)).map .int := by rw [List.map_map]; rfl
  have e2 : (List.range (b - lo).toNat).map (fun (i : Nat) => V.int (lo + (i : Int))) = ((List.range (b - lo).toNat).map fun (i : Nat) => lo + (i : Int)).map .int := by rw [List.map_map]; rfl
  rw [e, e2]
  exact Reps.ints _
theorem v_rgL {bx : Bool} (h : XO Z t k N sc raw X W) (g : (glC sc "list" && t.fr.contains "list" && glC sc "range" && t.fr.contains "range" && noStars [a]) = true) (ha : PE X a (tV Z.T W sa)) : PE X (.Call (.Name "list" p) [.Call (.Name "range" p2) [a] [] q] [] pos) (tV Z.T W (sUn (rgL bx) sa)) := by
  simp only [Bool.and_eq_true] at g
  refine PE.imp (pe_listRg h.calm (h.gl g.1.1.1.1).1 (h.fr g.1.1.1.2) (prg_1 (h.gl g.1.1.2).1 (h.fr g.1.2) ha (na_one g.2))) fun σ H Q ⟨μ, ρ, hh, r, e, o⟩ => ⟨μ, ρ, hh, r, e, OutV.mono (OutV.bind o) ?_⟩
  rintro v H1 ⟨μ1, d, h1, s1, r1, rv, o1⟩
  unfold rgL at o1
  split at o1
  · split at o1
    · rename_i n hn
      simp only [Rep] at rv
      subst rv
      have e3 : (n - 0).toNat = n.toNat := by omega
      have q := newL_ok r1 (vs := rgV 0 n) (by have := rng_reps (T := Z.T) (μ := μ1) (H := H1) 0 n; rw [e3] at this; exact this) o1
      exact ⟨n, rfl, ⟨by decide, by decide, hn.1, hn.2.1, by rw [e3]; exact hn.2.2⟩, q.2⟩
    · exact o1.elim
  · exact o1.elim
end
end VI
end
section
namespace VI
open PySem PySem.Spec PyProof.Rows L2
/-- isinstance among the builtin types -/
def kit0 (t u : Nat) : Option Bool := if t < 7 ∧ u < 7 then some (t == u || (t == 1 && u == 2)) else none
theorem kit0_ok (K : PySem.W.Frag) : ∀ t < 7, ∀ u < 7, PySem.W.kitOne K (.type (tyS t)) (.type (tyS u)) = some (t == u || (t == 1 && u == 2)) := by
  intro t ht u hu
  have h1 : t = 0 ∨ t = 1 ∨ t = 2 ∨ t = 3 ∨ t = 4 ∨ t = 5 ∨ t = 6 := by omega
  have h2 : u = 0 ∨ u = 1 ∨ u = 2 ∨ u = 3 ∨ u = 4 ∨ u = 5 ∨ u = 6 := by omega
  rcases h1 with rfl | rfl | rfl | rfl | rfl | rfl | rfl <;> rcases h2 with rfl | rfl | rfl | rfl | rfl | rfl | rfl <;> first | rfl | kernel_rfl
def tb0 (K : PySem.W.Frag) : Tb := ⟨K, fun _ => none, fun _ => "", 0, kit0, fun _ => false, fun _ _ => false, fun _ => (0, "")⟩
theorem tb0_ok (K : PySem.W.Frag) : (tb0 K).Ok where
  kit := fun t u b tv uv e h1 h2 => by
    have e' : kit0 t u = some b := e
    unfold kit0 at e'
    split at e'
    · rename_i h
      cases e'
      unfold Tb.tyV at h1 h2
      rw [if_pos h.1] at h1
      rw [if_pos h.2] at h2
      subst h1 h2
      exact kit0_ok K t h.1 u h.2
    · cases e'
  ins := fun _ _ e => by cases e
  ne := fun _ _ e => by cases e
  inj := fun _ _ h => absurd h (Nat.not_lt_zero _)
  lt := fun _ _ h => by cases h
  fld := fun _ _ _ h => by cases h
theorem walk_w {l : PySem.W.OpenLaw} {n k : Nat} {q : Program} {loose : List Str} {XP : (Str → Option Value) → Heap → Prop} {YP : World → Heap → Prop} {d : DefRec} {x : Str}
    (hn : l.most = some n) (hn2 : n ≤ sizeLine) (hdf : d.params.defaults = []) (hr : Room k callerA)
    (F : ∀ (w : World) (mg : Str → Option Value) (fa : Addr) (h : Heap), YP w h → h.Ns mainGlobals mg → mg d.name = some (.ref fa) →
      ∃ (K : PySem.W.Frag) (fd : FuncData) (sp : Sp), K.In h ∧ (∀ (s : Shared) (u : Value), BindsTo s fd ⟨[u], []⟩ [(x, u)]) ∧
        (∀ (H : Hp) (a : Addr) (ns : List Int), ns.length ≤ n → SqL K H a (ns.map V.int) → sp [.ref a] H (fun v _ => v = .bl true) fun _ _ _ => False) ∧
        ∀ base : Heap, K.In base → base.Ns mainGlobals mg → FnOk l.prog w K mg base (CX l.prog w) k fa fd [x] sp) :
    PySem.W.WalkO q loose XP YP l.row.toRowW d [] (fun f vs => PySem.call f vs) := by
  refine Att.attach_call hn hdf fun w s₀ s₁ mg mb fa o pm cd doc a vs ns G Y ho hd hcd hmg hobj hints hlen hg => ?_
  obtain ⟨K, fd, sp, KX, hb, hsp, hF⟩ := F w mg fa _ Y G.T.g hmg
  exact law_call KX G.T.g G.T.b G.T.builtins G.T.nolimit hg hobj hints (Nat.le_trans hlen hn2) hr hF hb (fun H hO hS => hsp H a ns hlen hS) fun H e s' ⟨_, _, _, _, _, _, _, _, _, _, _, _, z⟩ => z
abbrev bs0 : Bs := ⟨[], []⟩
theorem start_ok {T : Tb} {H : Hp} {a : Addr} {ns : List Int} {cf : List D → Bs → R D} {h' : Bs} (hS : SqL T.K H a (ns.map V.int)) (e : cf [.scr ns] bs0 = .ok (.bl true) h') : spF T cf [.ref a] H (fun v _ => v = .bl true) fun _ _ _ => False := by
  refine ⟨⟨[], [], [], []⟩, bs0, [.scr ns], ⟨rfl, fun _ h => by simp at h, fun _ h => by simp at h, fun _ _ _ h => by simp at h, rfl, .nil, fun _ _ _ h => by simp at h, fun _ h => by simp at h, .nil, fun _ h => by simp at h⟩, .one ?_, ?_⟩
  · simp only [Rep]
    refine ⟨a, rfl, ?_⟩
    rcases hS with h | h
    · exact .inl ⟨h, by simp [Mu.no]⟩
    · exact .inr h
  · rw [e]
    intro μ' H' v _ _ q
    simpa only [Rep] using q
end VI
end
section
namespace VI
open PySem PySem.Spec PyProof.Rows L2
/-! ### evaluation -/
mutual
/-- no box, no dict in it -/
def noD : D → Bool
  | .tup xs => noDs xs
  | .tpl xs => noDs xs
  | .lst xs => noDs xs
  | .dct _ _ => false
  | .obj _ _ vs => noDs vs
  | .ref _ => false
  | _ => true
def noDs : List D → Bool
  | [] => true
  | x :: xs => noD x && noDs xs
end
section
variable {α β : Type} {T : Tb} {h h' : Bs} {ρ : Ev}
@[simp] theorem bind_ok {a : α} {f : α → Bs → R β} : (R.ok a h).bind f = f a h := rfl
@[simp] theorem bind_ex {x : Ex} {f : α → Bs → R β} : (R.ex x h : R α).bind f = .ex x h := rfl
@[simp] theorem toF_ok {a : α} {k : α → Bs → F} : (R.ok a h).toF ρ k = k a h := rfl
@[simp] theorem toF_ex {x : Ex} {k : α → Bs → F} : (R.ex x h : R α).toF ρ k = .ex x ρ h := rfl
@[simp] theorem toF'_ok : (R.ok ρ h).toF' = .nx ρ h := rfl
@[simp] theorem Fbind_nx {g : Ev → Bs → F} : (F.nx ρ h).bind g = g ρ h := rfl
@[simp] theorem Fbind_rt {d : D} {g : Ev → Bs → F} : (F.rt d h).bind g = .rt d h := rfl
@[simp] theorem lockO_none : lockO none h = h := rfl
@[simp] theorem unlO_none : unlO none h = h := rfl
@[simp] theorem unlR_ok {l : Option Nat} {a : α} : unlR l (.ok a h) = .ok a (unlO l h) := rfl
@[simp] theorem unlF_nx {l : Option Nat} : unlF l (.nx ρ h) = .nx ρ (unlO l h) := rfl
@[simp] theorem unlF_rt {l : Option Nat} {d : D} : unlF l (.rt d h) = .rt d (unlO l h) := rfl
@[simp] theorem inB_bs : (inB h).bs = h.bs := rfl
@[simp] theorem inB_fbs : (inB h).fbs = h.bs.length :: h.fbs := rfl
@[simp] theorem outB_inB : outB h (inB h) = h := by
  unfold outB inB
  simp
mutual
theorem frzD_id (g : Nat → Option D) : ∀ d : D, noD d = true → frzD g d = some d
  | .non, _ => rfl
  | .bl _, _ => rfl
  | .int _, _ => rfl
  | .str _, _ => rfl
  | .scr _, _ => rfl
  | .tup xs, e => by simp only [noD] at e; simp only [frzD, frzDs_id g xs e]
  | .lst xs, e => by simp only [noD] at e; simp only [frzD, frzDs_id g xs e]
  | .tpl xs, e => by simp only [noD] at e; simp only [frzD, frzDs_id g xs e]
  | .obj c fs xs, e => by simp only [noD] at e; simp only [frzD, frzDs_id g xs e]
  | .ref _, e => by simp [noD] at e
  | .dct _ _, e => by simp [noD] at e
theorem frzDs_id (g : Nat → Option D) : ∀ d : List D, noDs d = true → frzDs g d = some d
  | [], _ => rfl
  | x :: xs, e => by simp only [noDs, Bool.and_eq_true] at e; simp only [frzDs, frzD_id g x e.1, frzDs_id g xs e.2]
end
theorem noDs_ints : ∀ ns : List Int, noDs (ns.map .int) = true
  | [] => rfl
  | n :: ns => by simp [noDs, noD, noDs_ints ns]
theorem noDs_all : ∀ {xs : List D}, noDs xs = true ↔ ∀ x ∈ xs, noD x = true
  | [] => by simp [noDs]
  | x :: xs => by simp [noDs, noDs_all (xs := xs)]
/-- a body that changes no box and gives a value without boxes -/
theorem run_rt {np ns : Nat} {s : SS} {ds : List D} {d : D} (hl : ds.length = np) (hs : s (slots ns ds) (inB h) = .rt d (inB h)) (hd : noD d = true) : runFn np ns s ds h = .ok d h := by
  unfold runFn
  rw [if_pos hl, hs]
  simp only [finF, frzD_id _ d hd, outB_inB]
/-! ### comprehensions that change no box -/
theorem lcS_pure {g : SG} {tt : SB} {el : SV} {p : D → Bool} {f : D → D} : ∀ (ds : List D), (∀ d ∈ ds, ∃ ρ1, g d ρ h = .ok ρ1 h ∧ tt ρ1 h = .ok (p d) h ∧ (p d = true → el ρ1 h = .ok (f d) h)) → lcS g tt el ρ ds h = .ok ((ds.filter p).map f) h
  | [], _ => rfl
  | d :: ds, H => by
    obtain ⟨ρ1, e1, e2, e3⟩ := H d List.mem_cons_self
    have ih := lcS_pure ds fun x hx => H x (List.mem_cons_of_mem _ hx)
    simp only [lcS, e1, e2]
    cases q : p d with
    | true => simp only [e3 q, ih]; simp [q]
    | false => simp only [ih]; simp [q]
theorem newL_f {xs : List D} (e : xs.length ≤ sizeLine) : newL false xs h = .ok (.lst xs) h := by unfold newL; rw [if_pos e]; rfl
theorem newL_t {xs : List D} (e : xs.length ≤ sizeLine) : newL true xs h = .ok (.ref h.bs.length) { h with bs := h.bs ++ [.lst false xs] } := by unfold newL; rw [if_pos e]; rfl
theorem newT_f {xs : List D} (e : xs.length ≤ sizeLine) : newT xs h = .ok (.tup xs) h := by unfold newT; rw [if_pos e]
end
/-! ### the law's own numbers -/
namespace Std
def number : SS := (ssCons (ssAsg (sIte (sOp (eqD true) (sVar 0) (sLst false saNil)) (sSl false (sVar 0) soNone (soSome (sK (.int 63)))) (sLst false (saCons (sK (.int 5)) saNil))) (sgName 2))
  (ssCons (ssAsg (sOp (addD false) (sOp ixD (sVar 2) (sOp modD (sCall intD (saCons (sVar 1) saNil)) (sCall lenD (saCons (sVar 2) saNil)))) (sOp (mulD false) (sK (.int 13)) (sOp fdivD (sVar 1) (sCall lenD (saCons (sVar 2) saNil))))) (sgName 3))
  (ssCons (ssAsg (sTup (saCons (sOp modD (sCall intD (saCons (sVar 3) saNil)) (sK (.int 1000003))) (saCons (sOp modD (sCall intD (saCons (sOp fdivD (sVar 3) (sK (.int 1000003))) saNil)) (sK (.int 999983))) saNil))) (sgTup 2 (sgCons (sgName 4) (sgCons (sgName 5) sgNil))))
  (ssCons (ssAsg (sOp modD (sCall intD (saCons (sCall sumD (saCons (sVar 2) saNil)) saNil)) (sK (.int 65521))) (sgName 6))
  (ssCons (ssAsg (sOp modD (sCall intD (saCons (sOp (addD false) (sOp (addD false) (sOp (mulD false) (sOp (addD false) (sVar 4) (sOp (mulD false) (sK (.int 977)) (sVar 1))) (sK (.int 48271))) (sOp (mulD false) (sK (.int 31)) (sVar 5))) (sVar 6)) saNil)) (sK (.int 2147483647))) (sgName 7))
  (ssCons (ssRet (sOp (addD false) (sOp (mulD false) (sOp modD (sCall intD (saCons (sOp (mulD false) (sVar 7) (sOp (addD false) (sOp (addD false) (sVar 7) (sOp (mulD false) (sK (.int 31)) (sVar 1))) (sK (.int 7)))) saNil)) (sK (.int 2147483629))) (sK (.int 65537))) (sVar 5)))
  ssNil))))))
def fNumber : List D → Bs → R D := runFn 2 8 number
theorem mulI {i j : Int} {h : Bs} (e : i.natAbs.log2 + j.natAbs.log2 < 1000000) : mulD false (.int i) (.int j) h = .ok (.int (i * j)) h := by simp only [mulD, if_pos e]
theorem modI {i j : Int} {h : Bs} (e : 0 < j) : modD (.int i) (.int j) h = .ok (.int (i % j)) h := by simp only [modD, if_pos e]
theorem fdivI {i j : Int} {h : Bs} (e : 0 < j ∧ j.natAbs.log2 < 9000) : fdivD (.int i) (.int j) h = .ok (.int (i / j)) h := by simp only [fdivD, if_pos e]
theorem log2_lt {i : Int} {k : Nat} (h1 : -(2 ^ k) < i) (h2 : i < 2 ^ k) : i.natAbs.log2 ≤ k := by
  by_cases h : i.natAbs = 0
  · rw [h]; simp
  · have e : i.natAbs < 2 ^ k := by
      have : (i.natAbs : Int) < ((2 ^ k : Nat) : Int) := by push_cast; omega
      exact_mod_cast this
    exact Nat.le_of_lt ((Nat.log2_lt h).mpr e)
/-- the cells -/
def cells (ns : List Int) : List Int := if ns = [] then [5] else ns
theorem cells_ne (ns : List Int) : cells ns ≠ [] := by unfold cells; split <;> simp_all
theorem cells_len {ns : List Int} (h : ns.length ≤ 63) : 0 < (cells ns).length ∧ (cells ns).length ≤ 63 := by
  unfold cells
  split
  · simp
  · rename_i e
    exact ⟨List.length_pos_iff.mpr e, h⟩
theorem atI_nat {α : Type} {xs : List α} {i : Int} (h1 : 0 ≤ i) (h2 : i < xs.length) : L2.atI xs i = some (xs[i.toNat]'(by omega)) := by
  unfold L2.atI L2.ixN
  rw [if_pos h1, if_pos h2]
  exact List.getElem?_eq_getElem _
theorem atI_mod {α : Type} (xs : List α) (h : 0 < xs.length) (i : Int) : ∃ x, L2.atI xs (i % (xs.length : Int)) = some x ∧ x ∈ xs := by
  have h1 : 0 ≤ i % (xs.length : Int) := Int.emod_nonneg _ (by omega)
  have h2 : i % (xs.length : Int) < xs.length := Int.emod_lt_of_pos _ (by omega)
  exact ⟨_, atI_nat h1 h2, List.getElem_mem _⟩
theorem cut_hi {xs : List D} {n : Nat} : cutD xs none (some (n : Int)) = xs.take n := by
  unfold cutD
  rw [HT.sIx_none, HT.sIx_nat]
  simp
theorem number_ok {ns : List Int} (hl : ns.length ≤ 63) {i : Int} (h0 : 0 ≤ i) (h1 : i < 2 ^ 64) (h : Bs) : ∃ z, fNumber [.scr ns, .int i] h = .ok (.int z) h := by
  have hc : ∀ h : Bs, (sIte (sOp (eqD true) (sVar 0) (sLst false saNil)) (sSl false (sVar 0) soNone (soSome (sK (.int 63)))) (sLst false (saCons (sK (.int 5)) saNil))) (slots 8 [.scr ns, .int i]) h = .ok (if ns = [] then .lst [.int 5] else .lst (ns.map .int)) h := by
    intro h
    cases ns with
    | nil => rfl
    | cons n ms =>
      have e1 : (sOp (eqD true) (sVar 0) (sLst false saNil)) (slots 8 [.scr (n :: ms), .int i]) h = .ok (.bl true) h := rfl
      simp only [sIte, sTru, e1, bind_ok, truth]
      have e2 : cutD ((n :: ms).map D.int) none (some 63) = (n :: ms).map D.int := by
        have := cut_hi (xs := (n :: ms).map D.int) (n := 63)
        rw [show ((63 : Nat) : Int) = 63 from rfl] at this
        rw [this, List.take_of_length_le (by simpa using hl)]
      show newL false (cutD ((n :: ms).map D.int) none (some 63)) h = _
      rw [e2, newL_f (by simp at hl ⊢; unfold sizeLine; omega)]
      rfl
  have hd : (if ns = [] then D.lst [.int 5] else .lst (ns.map .int)) = .lst ((cells ns).map .int) := by unfold cells; split <;> simp_all
  obtain ⟨q1, q2⟩ := cells_len hl
  obtain ⟨cs, hcs⟩ : ∃ cs, cs = cells ns := ⟨_, rfl⟩
  rw [hd, ← hcs] at hc
  rw [← hcs] at q1 q2
  obtain ⟨c, hix⟩ : ∃ c, L2.atI (cs.map D.int) (i % (cs.length : Int)) = some (.int c) := by
    obtain ⟨x, e, m⟩ := atI_mod (cs.map D.int) (by simpa using q1) i
    obtain ⟨c, _, rfl⟩ := List.mem_map.mp m
    exact ⟨c, by simpa using e⟩
  have hsl : slots 8 [.scr ns, .int i] = [some (.scr ns), some (.int i), none, none, none, none, none, none] := rfl
  have hlog : ∀ a : Int, 0 ≤ a → a < 2 ^ 100 → a.natAbs.log2 ≤ 100 := fun a h1 h2 => log2_lt (by omega) h2
  have g1 : 0 ≤ i / (cs.length : Int) ∧ i / (cs.length : Int) ≤ i := ⟨Int.ediv_nonneg h0 (by omega), Int.ediv_le_self _ h0⟩
  have hlc : ((cs.length : Int)).natAbs.log2 < 9000 := Nat.lt_of_le_of_lt (hlog _ (by omega) (by omega)) (by decide)
  obtain ⟨cell, hcell⟩ : ∃ cell, cell = c + 13 * (i / (cs.length : Int)) := ⟨_, rfl⟩
  obtain ⟨low, hlow⟩ : ∃ z, z = cell % 1000003 := ⟨_, rfl⟩
  obtain ⟨high, hhigh⟩ : ∃ z, z = cell / 1000003 % 999983 := ⟨_, rfl⟩
  obtain ⟨tot, htot⟩ : ∃ z, z = cs.sum % 65521 := ⟨_, rfl⟩
  have b1 : 0 ≤ low ∧ low < 1000003 := by subst hlow; exact ⟨Int.emod_nonneg _ (by decide), Int.emod_lt_of_pos _ (by decide)⟩
  have b2 : 0 ≤ high ∧ high < 999983 := by subst hhigh; exact ⟨Int.emod_nonneg _ (by decide), Int.emod_lt_of_pos _ (by decide)⟩
  have b3 : 0 ≤ tot ∧ tot < 65521 := by subst htot; exact ⟨Int.emod_nonneg _ (by decide), Int.emod_lt_of_pos _ (by decide)⟩
  obtain ⟨bl, hbl⟩ : ∃ z, z = ((low + 977 * i) * 48271 + 31 * high + tot) % 2147483647 := ⟨_, rfl⟩
  have b4 : 0 ≤ bl ∧ bl < 2147483647 := by subst hbl; exact ⟨Int.emod_nonneg _ (by decide), Int.emod_lt_of_pos _ (by decide)⟩
  have m1 : ∀ h, mulD false (.int 13) (.int (i / (cs.length : Int))) h = .ok (.int (13 * (i / (cs.length : Int)))) h := fun h => mulI (by have := hlog (i / cs.length) g1.1 (by omega); have := hlog 13 (by decide) (by decide); omega)
  have m2 : ∀ h, mulD false (.int 977) (.int i) h = .ok (.int (977 * i)) h := fun h => mulI (by have := hlog i h0 (by omega); have := hlog 977 (by decide) (by decide); omega)
  have m3 : ∀ h, mulD false (.int (low + 977 * i)) (.int 48271) h = .ok (.int ((low + 977 * i) * 48271)) h := fun h => mulI (by have := hlog (low + 977 * i) (by omega) (by omega); have := hlog 48271 (by decide) (by decide); omega)
  have m4 : ∀ h, mulD false (.int 31) (.int high) h = .ok (.int (31 * high)) h := fun h => mulI (by have := hlog high (by omega) (by omega); have := hlog 31 (by decide) (by decide); omega)
  have m5 : ∀ h, mulD false (.int 31) (.int i) h = .ok (.int (31 * i)) h := fun h => mulI (by have := hlog i h0 (by omega); have := hlog 31 (by decide) (by decide); omega)
  have m6 : ∀ h, mulD false (.int bl) (.int (bl + 31 * i + 7)) h = .ok (.int (bl * (bl + 31 * i + 7))) h := fun h => mulI (by have := hlog bl (by omega) (by omega); have := hlog (bl + 31 * i + 7) (by omega) (by omega); omega)
  have m7 : ∀ h, mulD false (.int (bl * (bl + 31 * i + 7) % 2147483629)) (.int 65537) h = .ok (.int (bl * (bl + 31 * i + 7) % 2147483629 * 65537)) h := fun h => mulI (by
    have e1 : 0 ≤ bl * (bl + 31 * i + 7) % 2147483629 := Int.emod_nonneg _ (by decide)
    have e2 : bl * (bl + 31 * i + 7) % 2147483629 < 2147483629 := Int.emod_lt_of_pos _ (by decide)
    have := hlog _ e1 (by omega); have := hlog 65537 (by decide) (by decide); omega)
  refine ⟨bl * (bl + 31 * i + 7) % 2147483629 * 65537 + high, ?_⟩
  refine run_rt (d := .int _) rfl ?_ rfl
  rw [hsl] at hc ⊢
  unfold number
  simp only [ssCons, ssAsg, hc, toF_ok, Fbind_nx, sgName, toF'_ok, List.set_cons_succ, List.set_cons_zero, sOp, sVar, List.getElem?_cons_succ, List.getElem?_cons_zero, bind_ok, sCall, saCons, saNil, sK, intD, lenD, seqOf, lstOf, List.length_map, modI (j := (cs.length : Int)) (by omega), ixD, hix,
    fdivI (j := (cs.length : Int)) ⟨by omega, hlc⟩, m1, addD]
  rw [← hcell]
  simp only [sTup, sOp, sVar, List.getElem?_cons_succ, List.getElem?_cons_zero, bind_ok, sCall, saCons, saNil, sK, intD, modI (j := 1000003) (by decide), fdivI (j := 1000003) (by decide), modI (j := 999983) (by decide)]
  rw [← hlow, ← hhigh, newT_f (by show 2 ≤ sizeLine; decide)]
  have hsum : intsD (cs.map .int) = some cs := intsD_map cs
  simp only [toF_ok, sgTup, List.length_cons, List.length_nil, if_true, sgCons, sgName, sgNil, bind_ok, toF'_ok, Fbind_nx, List.set_cons_succ, List.set_cons_zero, sOp, sVar, List.getElem?_cons_succ, List.getElem?_cons_zero, sCall, saCons, saNil, sK, sumD, seqOf, lstOf, hsum, intD, modI (j := 65521) (by decide), ssAsg, ssCons]
  rw [← htot]
  simp only [toF_ok, sgName, toF'_ok, Fbind_nx, bind_ok, List.set_cons_succ, List.set_cons_zero, List.getElem?_cons_succ, List.getElem?_cons_zero, m2, m3, m4, addD, intD, modI (j := 2147483647) (by decide)]
  rw [← hbl]
  simp only [ssCons, ssNil, ssAsg, toF_ok, sgName, toF'_ok, Fbind_nx, bind_ok, List.set_cons_succ, List.set_cons_zero, List.getElem?_cons_succ, List.getElem?_cons_zero, ssRet, sOp, sVar, sCall, saCons, saNil, sK, m5, m6, addD, intD, modI (j := 2147483629) (by decide), m7, Fbind_rt]
def take : SS := (ssCons (ssAsg (sOp (addD false) (sOp ixD (sVar 0) (sK (.int 1))) (sK (.int 1))) (sgSub (sVar 0) (sK (.int 1))))
  (ssCons (ssRet (sOp modD (sCall intD (saCons (sCall fNumber (saCons (sOp ixD (sVar 0) (sK (.int 0))) (saCons (sCall intD (saCons (sOp ixD (sVar 0) (sK (.int 1))) saNil)) saNil))) saNil)) (sVar 1)))
  ssNil))
def fTake : List D → Bs → R D := runFn 2 2 take
/-- the draws' box -/
def drB (b : Nat) (ns : List Int) (c : Int) (h : Bs) : Bs := { h with bs := h.bs.set b (.lst false [.scr ns, .int c]) }
def DrAt (b : Nat) (ns : List Int) (c : Int) (h : Bs) : Prop := h.bs[b]? = some (.lst false [.scr ns, .int c])
theorem DrAt.lt {b : Nat} {ns : List Int} {c : Int} {h : Bs} (d : DrAt b ns c h) : b < h.bs.length := by
  by_cases e : b < h.bs.length
  · exact e
  · unfold DrAt at d; rw [List.getElem?_eq_none (by omega)] at d; cases d
theorem DrAt.to {b : Nat} {ns : List Int} {c c' : Int} {h : Bs} (d : DrAt b ns c h) : DrAt b ns c' (drB b ns c' h) := by
  unfold DrAt drB
  exact List.getElem?_set_self d.lt
theorem drB_drB {b : Nat} {ns : List Int} {c c' : Int} {h : Bs} : drB b ns c' (drB b ns c h) = drB b ns c' h := by
  unfold drB; simp
theorem drB_len {b : Nat} {ns : List Int} {c : Int} {h : Bs} : (drB b ns c h).bs.length = h.bs.length := by unfold drB; simp
theorem drB_fbs {b : Nat} {ns : List Int} {c : Int} {h : Bs} : (drB b ns c h).fbs = h.fbs := rfl
theorem drB_in {b : Nat} {ns : List Int} {c : Int} {h : Bs} : drB b ns c (inB h) = inB (drB b ns c h) := by unfold drB inB; simp
theorem out_dr {b : Nat} {ns : List Int} {c : Int} {h : Bs} : outB h (inB (drB b ns c h)) = drB b ns c h := by
  unfold outB inB drB
  simp
  rw [List.take_of_length_le (by simp)]
theorem take_ok {ns : List Int} (hl : ns.length ≤ 63) {b : Nat} {c m : Int} {h : Bs} (d : DrAt b ns c h) (h0 : 0 ≤ c) (h1 : c < 2 ^ 63) (hm : 0 < m) : ∃ r, 0 ≤ r ∧ r < m ∧ fTake [.ref b, .int m] h = .ok (.int r) (drB b ns (c + 1) h) := by
  obtain ⟨z, hz⟩ := number_ok hl (i := c + 1) (by omega) (by omega) (inB (drB b ns (c + 1) h))
  refine ⟨z % m, Int.emod_nonneg _ (by omega), Int.emod_lt_of_pos _ hm, ?_⟩
  have d' : (inB h).bs[b]? = some (.lst false [.scr ns, .int c]) := d
  have d2 : (inB (drB b ns (c + 1) h)).bs[b]? = some (.lst false [.scr ns, .int (c + 1)]) := d.to
  have hsl : slots 2 [.ref b, .int m] = [some (.ref b), some (.int m)] := rfl
  have e1 : setD (.ref b) (.int 1) (.int (c + 1)) (inB h) = .ok .non (inB (drB b ns (c + 1) h)) := by
    have e2 : okW (inB h) b (.int (c + 1)) = true := by simp [okW, noR]
    have e3 : ixN [D.scr ns, .int c].length 1 = some 1 := rfl
    simp only [setD, d', e3, e2, if_true]
    rw [← drB_in]
    rfl
  unfold fTake runFn
  rw [if_pos (by rfl), hsl]
  have a0 : L2.atI [D.scr ns, .int c] 1 = some (.int c) := rfl
  have a1 : L2.atI [D.scr ns, .int (c + 1)] 0 = some (.scr ns) := rfl
  have a2 : L2.atI [D.scr ns, .int (c + 1)] 1 = some (.int (c + 1)) := rfl
  unfold take
  simp only [ssCons, ssAsg, sOp, sVar, sK, List.getElem?_cons_succ, List.getElem?_cons_zero, bind_ok, ixD, seqOf, lstOf, d', a0, addD, toF_ok, sgSub, e1, toF'_ok, Fbind_nx, ssRet, sCall, saCons, saNil, d2, a1, a2, intD, hz, modI hm, Fbind_rt, finF, frzD, out_dr]
end Std
end VI
end
section
namespace VI
open PySem PySem.Spec PyProof.Rows L2
namespace Std
def orderB : SS := (ssCons (ssExpr (sBm appD (sVar 3) (saCons (sBm popD (sVar 2) (saCons (sCall fTake (saCons (sVar 0) (saCons (sCall lenD (saCons (sVar 2) saNil)) saNil))) saNil)) saNil)))
  ssNil)
def order : SS := (ssCons (ssAsg (sTup (saCons (sUn (rgL true) (sVar 1)) (saCons (sLst true saNil) saNil))) (sgTup 2 (sgCons (sgName 2) (sgCons (sgName 3) sgNil))))
  (ssCons (ssFor (siArg itRng1 (saCons (sVar 1) saNil)) (sgName 4)
  orderB)
  (ssCons (ssRet (sVar 3))
  ssNil)))
def fOrder : List D → Bs → R D := runFn 2 5 order
/-- the boxes while an order is drawn -/
def stO (b : Nat) (ns : List Int) (c : Int) (h : Bs) (left done : List Int) : Bs := ⟨h.bs.length :: h.fbs, (h.bs.set b (.lst false [.scr ns, .int c])) ++ [.lst false (left.map .int), .lst false (done.map .int)]⟩
section
variable {b : Nat} {ns : List Int} {c : Int} {h : Bs} {left done : List Int}
theorem newL_t' {xs : List D} (e : xs.length ≤ sizeLine) : newL true xs h = .ok (.ref h.bs.length) ⟨h.fbs, h.bs ++ [.lst false xs]⟩ := newL_t e
theorem erase_map : ∀ (l : List Int) (i : Nat), (l.map D.int).eraseIdx i = (l.eraseIdx i).map .int
  | [], i => by simp
  | x :: xs, 0 => by simp
  | x :: xs, i + 1 => by simp only [List.map_cons, List.eraseIdx_cons_succ, erase_map xs i]
theorem stO_l : (stO b ns c h left done).bs[h.bs.length]? = some (.lst false (left.map .int)) := by
  unfold stO
  rw [List.getElem?_append_right (by simp)]
  simp
theorem stO_d : (stO b ns c h left done).bs[h.bs.length + 1]? = some (.lst false (done.map .int)) := by
  unfold stO
  rw [List.getElem?_append_right (by simp)]
  simp
theorem stO_dr (hb : b < h.bs.length) : DrAt b ns c (stO b ns c h left done) := by
  unfold DrAt stO
  rw [List.getElem?_append_left (by simpa using hb)]
  exact List.getElem?_set_self hb
theorem stO_take (hb : b < h.bs.length) {c' : Int} : drB b ns c' (stO b ns c h left done) = stO b ns c' h left done := by
  unfold drB stO
  simp only [List.set_append_left _ _ (show b < (h.bs.set b _).length by simpa using hb)]
  simp
theorem stO_putl {xs : List Int} : putL h.bs.length (xs.map .int) (stO b ns c h left done) = stO b ns c h xs done := by
  unfold putL stO
  simp
theorem stO_putd {xs : List Int} : putL (h.bs.length + 1) (xs.map .int) (stO b ns c h left done) = stO b ns c h left xs := by
  unfold putL stO
  rw [List.set_append_right _ _ (by simp)]
  simp
theorem seqIx {i : Int} {n : Nat} (h0 : 0 ≤ i) (h1 : i < n) : seqIndex? i n = some i.toNat := (ixN_seq (show ixN n i = some i.toNat by unfold ixN; rw [if_pos h0, if_pos h1])).1
theorem pop_ok {i : Int} (h0 : 0 ≤ i) (h1 : i < left.length) (h2 : left.length < 2 ^ 62) : popD (.ref h.bs.length) [.int i] (stO b ns c h left done) = .ok (.int (left[i.toNat]'(by omega))) (stO b ns c h (left.eraseIdx i.toNat) done) := by
  have e1 := stO_l (b := b) (ns := ns) (c := c) (h := h) (left := left) (done := done)
  have e2 : -(2 ^ 63) ≤ i ∧ i < 2 ^ 63 := by constructor <;> omega
  have e3 : (left.map D.int)[i.toNat]? = some (.int (left[i.toNat]'(by omega))) := by
    rw [List.getElem?_map, List.getElem?_eq_getElem (by omega)]; rfl
  simp only [popD, e1, e2, and_self, if_true, List.length_map, seqIx h0 h1, e3]
  have e4 : (left.map D.int).eraseIdx i.toNat = (left.eraseIdx i.toNat).map .int := erase_map _ _
  rw [e4, stO_putl]
theorem app_ok {x : Int} (h2 : done.length < 2 ^ 24) : appD (.ref (h.bs.length + 1)) [.int x] (stO b ns c h left done) = .ok .non (stO b ns c h left (done ++ [x])) := by
  have e1 := stO_d (b := b) (ns := ns) (c := c) (h := h) (left := left) (done := done)
  have e2 : okW (stO b ns c h left done) (h.bs.length + 1) (.int x) = true := by simp [okW, stO, noR]
  have e3 : decide ((done.map D.int).length < sizeLine) = true := by simp; unfold sizeLine; omega
  simp only [appD, e1, e2, e3, Bool.and_self, if_true]
  have e4 : done.map D.int ++ [.int x] = (done ++ [x]).map .int := by simp
  rw [e4, stO_putd]
theorem erase_perm : ∀ (l : List Int) (i : Nat) (hi : i < l.length), l.Perm (l[i] :: l.eraseIdx i)
  | x :: xs, 0, _ => .refl _
  | x :: xs, i + 1, hi => by
    simp only [List.getElem_cons_succ, List.eraseIdx_cons_succ]
    exact ((erase_perm xs i (by simpa using hi)).cons x).trans (.swap _ _ _)
theorem orderB_ok (hl : ns.length ≤ 63) (hb : b < h.bs.length) (h0 : 0 ≤ c) (h1 : c < 2 ^ 63) (hn : 0 < left.length) (h2 : left.length < 2 ^ 24) (h3 : done.length < 2 ^ 24) {m x : Option D} :
    ∃ y left', left.Perm (y :: left') ∧ orderB [some (.ref b), m, some (.ref h.bs.length), some (.ref (h.bs.length + 1)), x] (stO b ns c h left done) = .nx [some (.ref b), m, some (.ref h.bs.length), some (.ref (h.bs.length + 1)), x] (stO b ns (c + 1) h left' (done ++ [y])) := by
  obtain ⟨r, r0, r1, e⟩ := take_ok hl (m := (left.length : Int)) (stO_dr (left := left) (done := done) hb (c := c) (ns := ns)) h0 h1 (by omega)
  rw [stO_take hb] at e
  refine ⟨_, _, erase_perm left r.toNat (by omega), ?_⟩
  have l1 : (lstOf (stO b ns c h left done) (.ref (h.bs.length + 1))).isSome = true := by simp [lstOf, stO_d]
  have l2 : (lstOf (stO b ns c h left done) (.ref h.bs.length)).isSome = true := by simp [lstOf, stO_l]
  have l3 : lenD [.ref h.bs.length] (stO b ns c h left done) = .ok (.int left.length) (stO b ns c h left done) := by simp [lenD, seqOf, lstOf, stO_l]
  unfold orderB
  simp only [ssCons, ssExpr, sBm, sVar, List.getElem?_cons_succ, List.getElem?_cons_zero, bind_ok, l1, l2, if_true, saCons, saNil, sCall, l3, e, pop_ok r0 r1 (by omega), app_ok h3, toF_ok, Fbind_nx, ssNil]
theorem orderL_ok (hl : ns.length ≤ 63) (hb : b < h.bs.length) {m : Option D} : ∀ (items : List D) (c : Int) (left done : List Int) (x : Option D), items.length = left.length → 0 ≤ c → c + left.length < 2 ^ 63 → left.length + done.length < 2 ^ 24 →
    ∃ p x', p.Perm left ∧ loopS (sgName 4) orderB items [some (.ref b), m, some (.ref h.bs.length), some (.ref (h.bs.length + 1)), x] (stO b ns c h left done) = .nx [some (.ref b), m, some (.ref h.bs.length), some (.ref (h.bs.length + 1)), x'] (stO b ns (c + left.length) h [] (done ++ p))
  | [], c, left, done, x, e, h0, h1, h2 => by
    have : left = [] := List.length_eq_zero_iff.mp e.symm
    subst this
    exact ⟨[], x, .refl _, by simp [loopS]⟩
  | d :: ds, c, left, done, x, e, h0, h1, h2 => by
    simp only [List.length_cons] at e
    obtain ⟨y, left', hp, e1⟩ := orderB_ok (left := left) (done := done) (c := c) (m := m) (x := some d) hl hb h0 (by omega) (by omega) (by omega) (by omega)
    have hlen := hp.length_eq
    simp only [List.length_cons] at hlen
    obtain ⟨p, x', hp2, e2⟩ := orderL_ok hl hb (m := m) ds (c + 1) left' (done ++ [y]) (some d) (by omega) (by omega) (by omega) (by simp; omega)
    refine ⟨y :: p, x', (hp2.cons y).trans hp.symm, ?_⟩
    simp only [loopS, sgName, List.set_cons_succ, List.set_cons_zero, e1, e2]
    have e3 : c + 1 + (left'.length : Int) = c + left.length := by omega
    rw [e3]
    simp
theorem order_ok (hl : ns.length ≤ 63) (d : DrAt b ns c h) (h0 : 0 ≤ c) {n : Nat} (h1 : c + n < 2 ^ 63) (h2 : n < 2 ^ 24) : ∃ p : List Int, p.Perm ((List.range n).map fun (i : Nat) => (i : Int)) ∧ fOrder [.ref b, .int n] h = .ok (.lst (p.map .int)) (drB b ns (c + n) h) := by
  have hr : rngItems 0 n = ((List.range n).map fun (i : Nat) => (i : Int)).map .int := by unfold rngItems; rw [List.map_map]; congr 1; funext i; simp
  obtain ⟨left, hleft⟩ : ∃ l : List Int, l = (List.range n).map fun (i : Nat) => (i : Int) := ⟨_, rfl⟩
  rw [← hleft] at hr
  have hll : left.length = n := by rw [hleft]; simp
  obtain ⟨p, x', hp, e⟩ := orderL_ok hl d.lt (m := some (.int n)) (rngItems 0 n) c left [] none (by rw [hr]; simp) h0 (by omega) (by simp; omega)
  refine ⟨p, by rw [← hleft]; exact hp, ?_⟩
  have hsl : slots 5 [.ref b, .int n] = [some (.ref b), some (.int n), none, none, none] := rfl
  have hh : (⟨h.bs.length :: h.fbs, (h.bs ++ [.lst false (left.map .int)]) ++ [.lst false []]⟩ : Bs) = stO b ns c h left [] := by
    unfold stO
    have : h.bs.set b (.lst false [.scr ns, .int c]) = h.bs := by
      apply List.ext_getElem?
      intro i
      by_cases hi : b = i
      · subst hi; rw [List.getElem?_set_self d.lt]; exact d.symm
      · rw [List.getElem?_set_ne hi]
    rw [this]
    simp
  have ht : ((n : Int)).toNat = n := by omega
  have r1 : rgL true (.int n) (inB h) = .ok (.ref h.bs.length) ⟨h.bs.length :: h.fbs, h.bs ++ [.lst false (left.map .int)]⟩ := by
    have q : -(2 ^ 62) ≤ (n : Int) ∧ (n : Int) < 2 ^ 62 ∧ ((n : Int)).toNat ≤ 2 ^ 24 := by refine ⟨by omega, by omega, by omega⟩
    unfold rgL
    show (if -(2 ^ 62) ≤ (n : Int) ∧ (n : Int) < 2 ^ 62 ∧ ((n : Int)).toNat ≤ 2 ^ 24 then newL true (rngItems 0 ((n : Int)).toNat) (inB h) else .no) = _
    rw [if_pos q, ht, hr, newL_t' (by simp only [List.length_map, hll]; unfold sizeLine; omega)]
    simp only [inB_bs, inB_fbs]
  have r2 : newL true [] (⟨h.bs.length :: h.fbs, h.bs ++ [.lst false (left.map .int)]⟩ : Bs) = .ok (.ref (h.bs.length + 1)) (stO b ns c h left []) := by
    rw [newL_t' (Nat.zero_le _), ← hh]
    simp only [List.length_append, List.length_cons, List.length_nil]
  have r3 : itRng1 [.int n] (stO b ns c h left []) = .ok (rngItems 0 n, none) (stO b ns c h left []) := by
    have q : -(2 ^ 62) ≤ (n : Int) ∧ (n : Int) < 2 ^ 62 := by constructor <;> omega
    unfold itRng1
    show (if -(2 ^ 62) ≤ (n : Int) ∧ (n : Int) < 2 ^ 62 then R.ok (rngItems 0 ((n : Int)).toNat, none) (stO b ns c h left []) else .no) = _
    rw [if_pos q, ht]
  unfold fOrder runFn
  rw [if_pos (by rfl), hsl]
  unfold order
  have t1 : (sTup (saCons (sUn (rgL true) (sVar 1)) (saCons (sLst true saNil) saNil))) [some (.ref b), some (.int n), none, none, none] (inB h) = .ok (.tup [.ref h.bs.length, .ref (h.bs.length + 1)]) (stO b ns c h left []) := by
    simp -implicitDefEqProofs only [sTup, saCons, saNil, sUn, sLst, sVar, List.getElem?_cons_succ, List.getElem?_cons_zero, bind_ok, r1, r2]
    exact newT_f (by show 2 ≤ sizeLine; decide)
  have t2 : (sgTup 2 (sgCons (sgName 2) (sgCons (sgName 3) sgNil))) (.tup [.ref h.bs.length, .ref (h.bs.length + 1)]) [some (.ref b), some (.int n), none, none, none] (stO b ns c h left []) = .ok [some (.ref b), some (.int n), some (.ref h.bs.length), some (.ref (h.bs.length + 1)), none] (stO b ns c h left []) := rfl
  have t3 : (ssFor (siArg itRng1 (saCons (sVar 1) saNil)) (sgName 4) orderB) [some (.ref b), some (.int n), some (.ref h.bs.length), some (.ref (h.bs.length + 1)), none] (stO b ns c h left []) = .nx [some (.ref b), some (.int n), some (.ref h.bs.length), some (.ref (h.bs.length + 1)), x'] (stO b ns (c + ↑left.length) h [] ([] ++ p)) := by
    simp -implicitDefEqProofs only [ssFor, siArg, saCons, saNil, sVar, List.getElem?_cons_succ, List.getElem?_cons_zero, bind_ok, r3, toF_ok, lockO_none, e, unlF_nx, unlO_none]
  simp -implicitDefEqProofs only [ssCons, ssAsg, t1, t2, t3, toF_ok, toF'_ok, Fbind_nx, ssRet, sVar, List.getElem?_cons_succ, List.getElem?_cons_zero, Fbind_rt]
  have f1 : frzD (frzR h.bs.length (stO b ns (c + ↑left.length) h [] ([] ++ p)).bs 4) (.ref (h.bs.length + 1)) = some (.lst (p.map .int)) := by
    simp -implicitDefEqProofs only [frzD, frzR]
    rw [if_neg (by omega), stO_d]
    simp -implicitDefEqProofs only [List.nil_append]
    rw [frzDs_id _ _ (noDs_ints p)]
  have f2 : outB h (stO b ns (c + ↑left.length) h [] ([] ++ p)) = drB b ns (c + n) h := by
    unfold outB stO drB
    rw [hll]
    simp
  simp -implicitDefEqProofs only [finF, f1, f2]
end
end Std
end VI
end
section
namespace VI
open PySem PySem.Spec PyProof.Rows L2
/-! ### data of whole numbers -/
abbrev tI (l : List Int) : D := .tup (l.map .int)
abbrev lI (l : List Int) : D := .lst (l.map .int)
theorem mapO_all {α β : Type} {f : α → Option β} {g : α → β} : ∀ (xs : List α), (∀ x ∈ xs, f x = some (g x)) → mapO f xs = some (xs.map g)
  | [], _ => rfl
  | x :: xs, e => by
    have e1 := e x List.mem_cons_self
    have e2 := mapO_all xs fun y hy => e y (List.mem_cons_of_mem _ hy)
    simp only [mapO, e1, e2, List.map_cons]
section
variable {h : Bs} {n : Nat}
theorem py_int {i : Int} : py (n + 1) h (.int i) = some (.int i) := rfl
theorem py_ints (l : List Int) : mapO (py (n + 1) h) (l.map .int) = some (l.map .int) := by
  have e := mapO_all (f := py (n + 1) h) (g := fun d => match d with | .int i => PyData.int i | _ => .none) (l.map D.int) (fun x hx => by
    obtain ⟨i, _, rfl⟩ := List.mem_map.mp hx
    rfl)
  rw [e, List.map_map]
  rfl
theorem py_tI (l : List Int) : py (n + 2) h (tI l) = some (.tuple (l.map .int)) := by
  show (mapO (py (n + 1) h) (l.map .int)).map PyData.tuple = _
  rw [py_ints]; rfl
theorem py_lI (l : List Int) : py (n + 2) h (lI l) = some (.list (l.map .int)) := by
  show (mapO (py (n + 1) h) (l.map .int)).map PyData.list = _
  rw [py_ints]; rfl
theorem eqv_int (a b : Int) : PyData.eqv (.int a) (.int b) = decide (a = b) := by
  simp only [PyData.eqv]
  cases e : (a == b) with
  | true => simp at e; simp [e]
  | false => simp at e; simp [e]
theorem eqvAll_ints : ∀ (l m : List Int), PyData.eqvAll (l.map .int) (m.map .int) = decide (l = m)
  | [], [] => by simp [PyData.eqvAll]
  | [], _ :: _ => by simp [PyData.eqvAll]
  | _ :: _, [] => by simp [PyData.eqvAll]
  | x :: xs, y :: ys => by
    simp only [List.map_cons, PyData.eqvAll, eqv_int, eqvAll_ints xs ys]
    by_cases h1 : x = y <;> by_cases h2 : xs = ys <;> simp [h1, h2]
theorem eq_self {d : D} {p : PyData} {neg : Bool} (e : py pyN h d = some p) (c : p.canLay0 = true) : eqD neg d d h = .ok (.bl (!neg)) h := by
  have q : PyData.eqv p p = true := PySem.SeqAt.eqv_refl p c
  simp only [eqD, e, q]
  cases neg <;> rfl
theorem eq_two {d e : D} {p : PyData} {neg : Bool} (e1 : py pyN h d = some p) (e2 : py pyN h e = some p) (c : p.canLay0 = true) : eqD neg d e h = .ok (.bl (!neg)) h := by
  have q : PyData.eqv p p = true := PySem.SeqAt.eqv_refl p c
  simp only [eqD, e1, e2, q]
  cases neg <;> rfl
theorem eq_ints {a b : Int} {neg : Bool} : eqD neg (.int a) (.int b) h = .ok (.bl (if neg then !decide (a = b) else decide (a = b))) h := by
  simp only [eqD, py, eqv_int]
theorem eq_tI {l m : List Int} {neg : Bool} : eqD neg (tI l) (tI m) h = .ok (.bl (if neg then !decide (l = m) else decide (l = m))) h := by
  simp only [eqD, py_tI, PyData.eqv, eqvAll_ints]
theorem any_int (x : Int) : ∀ l : List Int, ((l.map PyData.int).any fun z => PyData.eqv z (.int x)) = decide (x ∈ l)
  | [] => by simp
  | y :: ys => by
    simp only [List.map_cons, List.any_cons, eqv_int, any_int x ys]
    by_cases h1 : y = x <;> by_cases h2 : x ∈ ys <;> simp [h1, h2, eq_comm]
    · intro e; exact absurd e.symm h1
theorem in_tI {x : Int} {l : List Int} {neg : Bool} : inD neg (.int x) (tI l) h = .ok (.bl (if neg then !decide (x ∈ l) else decide (x ∈ l))) h := by
  simp only [inD, py_int, py_tI, any_int]
theorem in_lI {x : Int} {l : List Int} {neg : Bool} : inD neg (.int x) (lI l) h = .ok (.bl (if neg then !decide (x ∈ l) else decide (x ∈ l))) h := by
  simp only [inD, py_int, py_lI, any_int]
theorem lay_ints : ∀ l : List Int, PyData.canLayAll0 (l.map .int) = true
  | [] => by simp [PyData.canLayAll0]
  | x :: xs => by simp [PyData.canLayAll0, PyData.canLay0, lay_ints xs]
theorem sorted_lI {l : List Int} (e : l.length ≤ sizeLine) : sortedD false [lI l] h = .ok (lI (sortI l)) h := by
  simp only [sortedD, lstOf, intsD_map]
  rw [newL_f (by rw [List.length_map, (sortI_perm l).length_eq]; exact e)]
theorem tuple_lst {xs : List D} (e : xs.length ≤ sizeLine) : tupleD [.lst xs] h = .ok (.tup xs) h := by
  simp only [tupleD, lstOf]
  exact newT_f e
theorem all_bls {bs : List Bool} : allD' [.lst (bs.map .bl)] h = .ok (.bl (bs.all id)) h := by
  simp only [anyD, lstOf, blsD_map]
theorem cut_nat {xs : List D} {k : Int} (hk : 0 ≤ k) : cutD xs none (some k) = xs.take k.toNat := by
  have := Std.cut_hi (xs := xs) (n := k.toNat)
  rw [show ((k.toNat : Nat) : Int) = k by omega] at this
  exact this
theorem cut_from {xs : List D} (n : Nat) : cutD xs (some (n : Int)) none = xs.drop n := by
  unfold cutD
  rw [HT.sIx_nat, HT.sIx_none]
  by_cases e : n ≤ xs.length
  · rw [Nat.min_eq_left e, List.take_of_length_le (by simp)]
  · rw [Nat.min_eq_right (by omega), List.drop_length, List.drop_eq_nil_of_le (by omega)]
    simp
theorem noD_tI {l : List Int} : noD (tI l) = true := by simp only [noD, noDs_ints]
theorem noD_lI {l : List Int} : noD (lI l) = true := by simp only [noD, noDs_ints]
end
/-! ### comprehensions over typed lists -/
theorem lc_emb {α : Type} {g : SG} {tt : SB} {el : SV} {ρ : Ev} {h : Bs} (E : α → D) (p : α → Bool) (F : α → D) : ∀ (l : List α), (∀ a ∈ l, ∃ ρ1, g (E a) ρ h = .ok ρ1 h ∧ tt ρ1 h = .ok (p a) h ∧ (p a = true → el ρ1 h = .ok (F a) h)) → lcS g tt el ρ (l.map E) h = .ok ((l.filter p).map F) h
  | [], _ => rfl
  | d :: ds, H => by
    obtain ⟨ρ1, e1, e2, e3⟩ := H d List.mem_cons_self
    have ih := lc_emb E p F ds fun x hx => H x (List.mem_cons_of_mem _ hx)
    simp -implicitDefEqProofs only [List.map_cons, lcS, e1, e2]
    cases q : p d with
    | true => simp -implicitDefEqProofs only [e3 q, ih]; simp [q]
    | false => simp -implicitDefEqProofs only [ih]; simp [q]
theorem lc_emb1 {α : Type} {g : SG} {el : SV} {ρ : Ev} {h : Bs} (E : α → D) (F : α → D) (l : List α) (H : ∀ a ∈ l, ∃ ρ1, g (E a) ρ h = .ok ρ1 h ∧ el ρ1 h = .ok (F a) h) : lcS g (fun _ h => .ok true h) el ρ (l.map E) h = .ok (l.map F) h := by
  have e := lc_emb (tt := fun _ h => .ok true h) E (fun _ => true) F l fun a ha => by
    obtain ⟨ρ1, e1, e2⟩ := H a ha
    exact ⟨ρ1, e1, rfl, fun _ => e2⟩
  rw [e, List.filter_eq_self.mpr fun _ _ => rfl]
theorem lc_ok {own : List Nat} {it : SI} {g : SG} {tt : SB} {el : SV} {ρ : Ev} {h : Bs} {xs ys : List D} (e1 : it ρ h = .ok (xs, none) h) (e2 : lcS g tt el (wipeE ρ own) xs h = .ok ys h) (hl : ys.length ≤ sizeLine) : sLc false own it g tt el ρ h = .ok (.lst ys) h := by
  simp -implicitDefEqProofs only [sLc, e1, bind_ok, lockO_none, e2, unlR_ok, unlO_none, newL_f hl]
theorem loop_step {g : SG} {body : SS} {d : D} {ds : List D} {ρ ρ1 ρ2 : Ev} {h h1 h2 : Bs} (e1 : g d ρ h = .ok ρ1 h1) (e2 : body ρ1 h1 = .nx ρ2 h2) : loopS g body (d :: ds) ρ h = loopS g body ds ρ2 h2 := by
  simp -implicitDefEqProofs only [loopS, e1, e2]
theorem cons_nx {s t : SS} {ρ ρ1 : Ev} {h h1 : Bs} (e : s ρ h = .nx ρ1 h1) : ssCons s t ρ h = t ρ1 h1 := by
  simp -implicitDefEqProofs only [ssCons, e, Fbind_nx]
theorem asg_ok {s : SV} {g : SG} {ρ ρ1 : Ev} {h h1 h2 : Bs} {d : D} (e : s ρ h = .ok d h1) (e2 : g d ρ h1 = .ok ρ1 h2) : ssAsg s g ρ h = .nx ρ1 h2 := by
  simp -implicitDefEqProofs only [ssAsg, e, toF_ok, e2, toF'_ok]
theorem expr_ok {s : SV} {ρ : Ev} {h h1 : Bs} {d : D} (e : s ρ h = .ok d h1) : ssExpr s ρ h = .nx ρ h1 := by
  simp -implicitDefEqProofs only [ssExpr, e, toF_ok]
theorem if_f {s : SV} {t u : SS} {ρ : Ev} {h h1 : Bs} (e : s ρ h = .ok (.bl false) h1) : ssIf s t u ρ h = u ρ h1 := by
  simp -implicitDefEqProofs only [ssIf, sTru, e, bind_ok, truth, toF_ok, Bool.false_eq_true, if_false]
theorem if_t {s : SV} {t u : SS} {ρ : Ev} {h h1 : Bs} (e : s ρ h = .ok (.bl true) h1) : ssIf s t u ρ h = t ρ h1 := by
  simp -implicitDefEqProofs only [ssIf, sTru, e, bind_ok, truth, toF_ok, if_true]
theorem op_ok {f : D → D → Bs → R D} {sa sb : SV} {ρ : Ev} {h h1 h2 : Bs} {x y : D} {r : R D} (e1 : sa ρ h = .ok x h1) (e2 : sb ρ h1 = .ok y h2) (e3 : f x y h2 = r) : sOp f sa sb ρ h = r := by
  simp -implicitDefEqProofs only [sOp, e1, e2, bind_ok, e3]
theorem un_ok {f : D → Bs → R D} {sa : SV} {ρ : Ev} {h h1 : Bs} {x : D} {r : R D} (e1 : sa ρ h = .ok x h1) (e3 : f x h1 = r) : sUn f sa ρ h = r := by
  simp -implicitDefEqProofs only [sUn, e1, bind_ok, e3]
theorem call_ok {f : List D → Bs → R D} {sa : SA} {ρ : Ev} {h h1 : Bs} {xs : List D} {r : R D} (e1 : sa ρ h = .ok xs h1) (e3 : f xs h1 = r) : sCall f sa ρ h = r := by
  simp -implicitDefEqProofs only [sCall, e1, bind_ok, e3]
theorem cons_ok {sa : SV} {sr : SA} {ρ : Ev} {h h1 h2 : Bs} {x : D} {xs : List D} (e1 : sa ρ h = .ok x h1) (e2 : sr ρ h1 = .ok xs h2) : saCons sa sr ρ h = .ok (x :: xs) h2 := by
  simp -implicitDefEqProofs only [saCons, e1, e2, bind_ok]
theorem nil_ok {ρ : Ev} {h : Bs} : saNil ρ h = .ok [] h := rfl
theorem var_ok {ρ : Ev} {h : Bs} {i : Nat} {d : D} (e : ρ[i]? = some (some d)) : sVar i ρ h = .ok d h := by
  simp -implicitDefEqProofs only [sVar, e]
theorem tup_ok {sa : SA} {ρ : Ev} {h h1 : Bs} {xs : List D} (e1 : sa ρ h = .ok xs h1) (hl : xs.length ≤ sizeLine) : sTup sa ρ h = .ok (.tup xs) h1 := by
  simp -implicitDefEqProofs only [sTup, e1, bind_ok, newT_f hl]
theorem bm_ok {f : D → List D → Bs → R D} {so : SV} {sa : SA} {ρ : Ev} {h h1 h2 : Bs} {o : D} {xs : List D} {r : R D} (e1 : so ρ h = .ok o h1) (e2 : (lstOf h1 o).isSome = true) (e3 : sa ρ h1 = .ok xs h2) (e4 : f o xs h2 = r) : sBm f so sa ρ h = r := by
  simp -implicitDefEqProofs only [sBm, e1, bind_ok, e2, if_true, e3, e4]
theorem ret_ok {s : SV} {t : SS} {ρ : Ev} {h h1 : Bs} {d : D} (e : s ρ h = .ok d h1) : ssCons (ssRet s) t ρ h = .rt d h1 := by
  simp -implicitDefEqProofs only [ssCons, ssRet, e, toF_ok, Fbind_rt]
theorem for_ok {it : SI} {g : SG} {b : SS} {ρ ρ1 : Ev} {h h1 h2 : Bs} {xs : List D} (e1 : it ρ h = .ok (xs, none) h1) (e2 : loopS g b xs ρ h1 = .nx ρ1 h2) : ssFor it g b ρ h = .nx ρ1 h2 := by
  simp -implicitDefEqProofs only [ssFor, e1, toF_ok, lockO_none, e2, unlF_nx, unlO_none]
theorem seq_ok {s : SV} {ρ : Ev} {h h1 : Bs} {d : D} {r : R Iu} (e : s ρ h = .ok d h1) (e2 : itSeq d h1 = r) : siSeq s ρ h = r := by
  simp -implicitDefEqProofs only [siSeq, e, bind_ok, e2]
theorem arg_ok {f : List D → Bs → R Iu} {sa : SA} {ρ : Ev} {h h1 : Bs} {xs : List D} {r : R Iu} (e : sa ρ h = .ok xs h1) (e2 : f xs h1 = r) : siArg f sa ρ h = r := by
  simp -implicitDefEqProofs only [siArg, e, bind_ok, e2]
theorem two_le {a b : D} : [a, b].length ≤ sizeLine := by show 2 ≤ sizeLine; decide
/-- strictly rising, below n -/
structure SetN (n : Nat) (l : List Int) : Prop where
  up : l.Pairwise (· < ·)
  lo : ∀ x ∈ l, 0 ≤ x ∧ x < n
theorem sorted_lt {l : List Int} (h1 : l.Pairwise (· ≤ ·)) (h2 : l.Nodup) : l.Pairwise (· < ·) := by
  induction l with
  | nil => exact .nil
  | cons x xs ih =>
    rw [List.pairwise_cons] at h1 ⊢
    rw [List.nodup_cons] at h2
    exact ⟨fun y hy => by have := h1.1 y hy; have : x ≠ y := fun e => h2.1 (e ▸ hy); omega, ih h1.2 h2.2⟩
/-- a permutation of 0 .. n - 1 -/
def OrdN (n : Nat) (p : List Int) : Prop := p.Perm ((List.range n).map fun (i : Nat) => (i : Int))
theorem OrdN.len {n : Nat} {p : List Int} (h : OrdN n p) : p.length = n := by have := h.length_eq; simpa using this
theorem rng_nodup (n : Nat) : ((List.range n).map fun (i : Nat) => (i : Int)).Nodup := by
  rw [List.nodup_iff_pairwise_ne, List.pairwise_map]
  exact List.nodup_iff_pairwise_ne.mp List.nodup_range |>.imp fun {a b} e q => e (by omega)
theorem OrdN.nodup {n : Nat} {p : List Int} (h : OrdN n p) : p.Nodup := h.symm.nodup (rng_nodup n)
theorem OrdN.mem {n : Nat} {p : List Int} (h : OrdN n p) {x : Int} : x ∈ p ↔ 0 ≤ x ∧ x < n := by
  rw [h.mem_iff, List.mem_map]
  constructor
  · rintro ⟨a, ha, rfl⟩
    have := List.mem_range.mp ha
    omega
  · intro e
    exact ⟨x.toNat, List.mem_range.mpr (by omega), by omega⟩
namespace Std
section
variable {b : Nat} {ns : List Int} {c : Int} {h : Bs}
def set : SS := (ssCons (ssAsg (sSl false (sCall fOrder (saCons (sVar 0) (saCons (sVar 1) saNil))) soNone (soSome (sOp (addD false) (sVar 2) (sCall fTake (saCons (sVar 0) (saCons (sOp (addD false) (sOp subD (sVar 1) (sVar 2)) (sK (.int 1))) saNil)))))) (sgName 3))
  (ssCons (ssRet (sCall tupleD (saCons (sCall (sortedD false) (saCons (sVar 3) saNil)) saNil)))
  ssNil))
def fSet : List D → Bs → R D := runFn 3 4 set
/-- a body that changes the draws alone -/
theorem run_dr {np nn : Nat} {s : SS} {ds : List D} {d : D} {c' : Int} (hl : ds.length = np) (hs : s (slots nn ds) (inB h) = .rt d (inB (drB b ns c' h))) (hd : noD d = true) : runFn np nn s ds h = .ok d (drB b ns c' h) := by
  unfold runFn
  rw [if_pos hl, hs]
  simp only [finF, frzD_id _ d hd, out_dr]
theorem dr_inB (d : DrAt b ns c h) : DrAt b ns c (inB h) := d
theorem set_ok (hl : ns.length ≤ 63) (d : DrAt b ns c h) (h0 : 0 ≤ c) {n m : Nat} (hm : m ≤ n) (h1 : c + n + 1 < 2 ^ 63) (h2 : n < 2 ^ 24) : ∃ l : List Int, SetN n l ∧ m ≤ l.length ∧ fSet [.ref b, .int n, .int m] h = .ok (tI l) (drB b ns (c + n + 1) h) := by
  obtain ⟨p, hp, e1⟩ := order_ok hl (dr_inB d) h0 (n := n) (by omega) h2
  have hp' : OrdN n p := hp
  obtain ⟨r, r0, r1, e2⟩ := take_ok hl (m := (n : Int) - m + 1) ((dr_inB d).to (c' := c + n)) (by omega) (by omega) (by omega)
  rw [drB_drB] at e2
  rw [drB_in] at e1 e2
  rw [drB_in] at e2
  have hk : 0 ≤ (m : Int) + r := by omega
  have hlen : (p.take ((m : Int) + r).toNat).length ≤ sizeLine := by have := hp'.len; rw [List.length_take]; unfold sizeLine; omega
  have hpm := sortI_perm (p.take ((m : Int) + r).toNat)
  refine ⟨sortI (p.take ((m : Int) + r).toNat), ⟨sorted_lt (sortI_sorted _) (hpm.symm.nodup (hp'.nodup.sublist (List.take_sublist _ _))), fun x hx => hp'.mem.mp (List.mem_of_mem_take (hpm.mem_iff.mp hx))⟩, ?_, ?_⟩
  · rw [hpm.length_eq, List.length_take, hp'.len]; omega
  · refine run_dr rfl ?_ noD_tI
    have hsl : slots 4 [.ref b, .int n, .int m] = [some (.ref b), some (.int n), some (.int m), none] := rfl
    rw [hsl]
    have e3 : ∀ h, slD false (lI p) none (some ((m : Int) + r)) h = .ok (lI (p.take ((m : Int) + r).toNat)) h := fun h => by
      simp only [slD, lstOf, cut_nat hk, ← List.map_take]
      exact newL_f (by rw [List.length_map]; exact hlen)
    unfold set
    simp -implicitDefEqProofs only [ssCons, ssAsg, sSl, sCall, saCons, saNil, sVar, List.getElem?_cons_succ, List.getElem?_cons_zero, bind_ok, e1, soNone, soSome, sOp, subD, sK, addD, e2, e3, toF_ok, sgName, List.set_cons_succ, List.set_cons_zero, toF'_ok, Fbind_nx, ssRet, sorted_lI hlen,
      tuple_lst (show ((sortI (p.take ((m : Int) + r).toNat)).map D.int).length ≤ sizeLine by rw [List.length_map, hpm.length_eq]; exact hlen), Fbind_rt]
end
end Std
end VI
end
section
namespace VI
open PySem PySem.Spec PyProof.Rows L2
section
variable {Z : Cfg} {t : Tx} {k : Nat} {N : List Str} {sc : Scope} {raw : Option Scope} {X : Cx} {W : WX} {pos p : Pos} {a b e : Expr} {sa sb s : SV} {x : Str}
theorem ble_tr {j k : Nat} (c : Nat) (hk : k ≤ j) (e : Nat.ble c k = true := by rfl) : Nat.ble c j = true := Nat.ble_eq_true_of_le (Nat.le_trans (Nat.le_of_ble_eq_true e) hk)
theorem pss_never {T : Tb} {ss : List Stmt} : PSs X ss (tS' T W fun _ _ => .no) := ⟨fun _ _ _ _ _ _ ⟨_, _, _, _, _, o⟩ => o.elim⟩
/-- an operation in place -/
structure IF (op : Operator) (f : D → D → Bs → R D) : Prop where
  cf : ∀ d e h, Calm (f d e h)
  run : ∀ {X : Cx} {T : Tb}, OpR X (inplaceOp op) (rD2 T f)
abbrev iaddD := intD2 (fun _ _ => true) (· + ·)
abbrev isubD := intD2 (fun _ _ => true) (· - ·)
def mulC (i j : Int) : Bool := decide ((-(2 ^ 64) < i ∧ i < 2 ^ 64) ∨ (-(2 ^ 64) < j ∧ j < 2 ^ 64))
abbrev imulD := intD2 mulC (· * ·)
theorem I_add : IF .Add iaddD := ⟨fun _ _ _ => intD2_calm, ov_int0 iop_add⟩
theorem I_sub : IF .Sub isubD := ⟨fun _ _ _ => intD2_calm, ov_int0 iop_sub⟩
theorem I_mul : IF .Mult imulD := ⟨fun _ _ _ => intD2_calm, ov_int2 (P := CMul) (fun i j e => by unfold mulC at e; unfold CMul; simpa using e) iop_mul⟩
theorem s_aug {i : Nat} {op : Operator} {f : D → D → Bs → R D} {pos' : Pos} (I : IF op f) (h : XO Z t k N sc raw X W) (g : locC N sc raw i x = true) (he : PE X e (tV Z.T W s)) : PS X (.AugAssign (.Name x pos') op e pos) (tS' Z.T W (ssAug i f s)) := by
  obtain ⟨g1, g2, g3⟩ := h.loc g
  exact psv_aug I.cf I.run h.nd' g1 g2 g3 he
theorem s_augS {op : Operator} {f : D → D → Bs → R D} {tpos : Pos} (I : IF op f) (h : XO Z t k N sc raw X W) (hs : noSlice b = true) (ha : PE X a (tV Z.T W sa)) (hb : PE X b (tV Z.T W sb)) (he : PE X e (tV Z.T W s)) : PS X (.AugAssign (.Subscript a b tpos) op e pos) (tS' Z.T W (ssAugS sa sb s f)) :=
  psv_augS I.cf h.K I.run hs ha hb he
end
end VI
end
section
namespace VI
open PySem PySem.Spec PyProof.Rows L2
section
variable {X : Cx} {T : Tb} {W : WX} {μ μ' : Mu} {H H' : Hp} {h : Bs} {σ : Sg} {ρ : Ev}
/-! ### tuples known to the object -/
def sTupP (sa : SA) : SV := fun ρ h => (sa ρ h).bind newP
theorem pv_tupP {es : List Expr} {k : Nat} {pos : Pos} {sa : SA} (ha : PA X es (tA' T W sa)) : PE X (.Tuple es k pos) (tV T W (sTupP sa)) :=
  PE.imp (pe_tupP ha) fun σ H Q ⟨μ, ρ, h, r, e, o⟩ => by
    refine ⟨μ, ρ, h, r, e, OutA.mono (OutV.bindA o) ?_⟩
    rintro vs H1 ⟨μ1, ds, h1, s1, r1, rv, o1⟩
    exact newP_ok r1 rv o1
def tuplePD (ds : List D) (h : Bs) : R D := match ds with
  | [.tup xs] => .ok (.tup xs) h
  | [.tpl xs] => .ok (.tpl xs) h
  | [d] => (match lstOf h d with
    | some xs => newP xs h
    | none => .no)
  | _ => .no
theorem tuplePD_calm {ds : List D} : Calm (tuplePD ds h) := by
  unfold tuplePD
  split
  · intro x h' z; cases z
  · intro x h' z; cases z
  · split
    · exact newP_calm
    · intro x h' z; cases z
  · intro x h' z; cases z
theorem cv_tupleP (hK : X.K = T.K) : CallR X (.type "tuple") (rDn T tuplePD) := CallR.imp (CallR.or call_tuple_of call_tupleP) fun xs H Q ⟨μ, h, ds, r, rd, o⟩ => by
  unfold tuplePD at o
  split at o
  · obtain ⟨v, rfl, rv⟩ := rd.is1
    obtain ⟨a, vs, rfl, e2, e3, e4⟩ := rv.tupOf
    exact .inl ⟨a, vs, rfl, .inr ⟨SqT.of e2, o μ H _ Stp.refl r rv⟩⟩
  · obtain ⟨v, rfl, rv⟩ := rd.is1
    obtain ⟨a, ob, vs, rfl, e2, _, e3, e4⟩ := rv.tplOf
    exact .inl ⟨a, vs, rfl, .inr ⟨SqT.fz e2, o μ H _ Stp.refl r rv⟩⟩
  · obtain ⟨v, rfl, rv⟩ := rd.is1
    split at o
    · rename_i ys hy
      obtain ⟨a, vs, rfl, e2, e3⟩ := r.lstOf rv hy
      exact .inr ⟨a, vs, rfl, by rw [hK]; exact e2, (newP_ok r e3 o).2⟩
    · exact o.elim
  · exact o.elim
/-! ### methods of such tuples -/
def isTpl : D → Bool
  | .tpl _ => true
  | _ => false
def sTm (f : D → List D → Bs → R D) (so : SV) (sa : SA) : SV := fun ρ h => (so ρ h).bind fun d h1 => if isTpl d then (sa ρ h1).bind fun ds h2 => f d ds h2 else .no
/-- a list's method, a tuple's -/
def sLt (f g : D → List D → Bs → R D) (so : SV) (sa : SA) : SV := fun ρ h => (so ρ h).bind fun d h1 => if isTpl d then (sa ρ h1).bind fun ds h2 => g d ds h2 else if (lstOf h1 d).isSome then (sa ρ h1).bind fun ds h2 => f d ds h2 else .no
variable {name : Str} {id idT : String} {f g : D → List D → Bs → R D} {ob e : Expr} {es : List Expr} {apos cpos : Pos} {so : SV} {sa : SA}
theorem pv_tm (cf : ∀ d ds h, Calm (f d ds h)) (slot : Slot "tuple" name id) (hty : typeOf (.builtin id) = pure (.type "method_descriptor")) (hm : MtR X id (rMt T f))
    (hb : noSuper ob = true) (hs : noStars (e :: es) = true) (hn : (e :: es).length < 30) (hl : (apos.endLine == cpos.line) = true) (ho : PE X ob (tV T W so)) (ha : PA X (e :: es) (tA' T W sa)) :
    PE X (.Call (.Attribute ob name apos) (e :: es) [] cpos) (tV T W (sTm f so sa)) := by
  have hs' := hs
  simp only [noStars, List.all_cons, Bool.and_eq_true, Bool.not_eq_true'] at hs'
  refine PE.imp (pe_tm slot hty hm ho ha (abase hb) ?_ hl (star_no hs'.1) (back_no (show noStars es = true from hs'.2))) fun σ H Q ⟨μ, ρ, h, r, e, o⟩ => ?_
  · have := form_ok (pos := cpos) (env := X.env) (n := (e :: es).length) hs hn
    unfold methodCallForm at this
    have e0 : backToKw cpos (keywordEach [] X.env) = [] := rfl
    rw [e0] at this ⊢
    simpa using this
  · refine ⟨μ, ρ, h, r, e, OutV.mono (OutV.bind o) ?_⟩
    rintro v H1 ⟨μ1, d, h1, s1, r1, rv, o1⟩
    split at o1
    · rename_i hd
      cases d with
      | tpl xs =>
        obtain ⟨a, oo, vs, rfl, e2, c, _, _⟩ := rv.tplOf
        refine ⟨⟨a, oo, vs, rfl, e2, c.1, c.2⟩, μ1, ρ, h1, r1, e.step s1, OutA.mono (OutV.bindA o1) ?_⟩
        rintro vs H2 ⟨μ2, ds, h2, s2, r2, rds, o2⟩
        exact ⟨μ2, h2, .tpl xs, ds, r2, Rep.step s2 _ _ rv, rds, o2.calm (cf _ _ _)⟩
      | _ => simp [isTpl] at hd
    · exact o1.elim
theorem pv_lt (cf : ∀ d ds h, Calm (f d ds h)) (cg : ∀ d ds h, Calm (g d ds h)) (hK : X.K = T.K) (slot : Slot "list" name id) (hty : typeOf (.builtin id) = pure (.type "method_descriptor")) (hm : MtR X id (rMt T f))
    (slot2 : Slot "tuple" name idT) (hty2 : typeOf (.builtin idT) = pure (.type "method_descriptor")) (hm2 : MtR X idT (rMt T g))
    (hb : noSuper ob = true) (hs : noStars (e :: es) = true) (hn : (e :: es).length < 30) (hl : (apos.endLine == cpos.line) = true) (ho : PE X ob (tV T W so)) (ha : PA X (e :: es) (tA' T W sa)) :
    PE X (.Call (.Attribute ob name apos) (e :: es) [] cpos) (tV T W (sLt f g so sa)) := by
  refine ⟨fun pins s σ H Q I ⟨μ, ρ, h, r, e, o⟩ => ?_⟩
  unfold sLt at o
  cases q : so ρ h with
  | no => rw [q] at o; exact o.elim
  | ex x h1 =>
    rw [q] at o
    exact (pv_bm cf hK PySem.F.plainAttrs_list slot hty hm hb hs hn hl ho ha).run pins s σ H Q I ⟨μ, ρ, h, r, e, by unfold sBm; rw [q]; exact o⟩
  | ok d h1 =>
    rw [q] at o
    simp only [R.bind] at o
    split at o
    · rename_i hd
      exact (pv_tm cg slot2 hty2 hm2 hb hs hn hl ho ha).run pins s σ H Q I ⟨μ, ρ, h, r, e, by unfold sTm; rw [q]; simp only [R.bind, hd, if_true]; exact o⟩
    · exact (pv_bm cf hK PySem.F.plainAttrs_list slot hty hm hb hs hn hl ho ha).run pins s σ H Q I ⟨μ, ρ, h, r, e, by unfold sBm; rw [q]; simp only [R.bind]; exact o⟩
/-! ### count, index -/
def cntL (d : D) (ds : List D) (h : Bs) : R D := match ds with
  | [e] => (match py pyN h d, py pyN h e with
    | some (.list qs), some p => .ok (.int ((qs.countP fun y => PyData.eqv y p : Nat) : Int)) h
    | _, _ => .no)
  | _ => .no
def cntT (d : D) (ds : List D) (h : Bs) : R D := match ds with
  | [e] => (match py pyN h d, py pyN h e with
    | some (.tuple qs), some p => .ok (.int ((qs.countP fun y => PyData.eqv y p : Nat) : Int)) h
    | _, _ => .no)
  | _ => .no
def idxL (d : D) (ds : List D) (h : Bs) : R D := match ds with
  | [e] => (match py pyN h d, py pyN h e with
    | some (.list qs), some p => (match SeqAt.dataPlace qs p with
      | some j => if j ≤ sizeLine then .ok (.int ((j : Nat) : Int)) h else .no
      | none => .no)
    | _, _ => .no)
  | _ => .no
theorem cntL_calm {d : D} {ds : List D} : Calm (cntL d ds h) := by
  intro x h' z; unfold cntL at z
  repeat' split at z
  all_goals cases z
theorem cntT_calm {d : D} {ds : List D} : Calm (cntT d ds h) := by
  intro x h' z; unfold cntT at z
  repeat' split at z
  all_goals cases z
theorem idxL_calm {d : D} {ds : List D} : Calm (idxL d ds h) := by
  intro x h' z; unfold idxL at z
  repeat' split at z
  all_goals cases z
theorem depth_min {n : Nat} {v : V} {p : PyData} {xs : List PyData} (k : PyOk T H n v p) (hn : n ≤ 64) (hu : X.A.units + 65 < cLine) : X.A.units + 1 + min (PyData.depthAll xs) p.depth < cLine := by
  have := k.2.1
  omega
theorem mv_cntL (hK : X.K = T.K) (hu : X.A.units + 65 < cLine) : MtR X "list.count" (rMt T cntL) := by
  intro pins s σ H x xs v us Q I rx rxs ⟨μ, h, d, ds, r, rd, rds, o⟩
  unfold cntL at o
  split at o
  · rename_i e
    obtain ⟨y, rfl, ry⟩ := rds.is1
    obtain ⟨u, rfl, ru⟩ := rxs.one
    split at o
    · rename_i qs p hq hp
      have k1 := py_ok r _ d x _ rd hq
      have k2 := py_ok r _ e y _ ry hp
      obtain ⟨as, r1⟩ := Dp.reads I (.list qs) x v (by rw [hK]; exact k1.1) rx
      obtain ⟨bs, r2⟩ := Dp.reads I p y u (by rw [hK]; exact k2.1) ru
      cases r1 with
      | list h1 h2 h3 h4 =>
        exact SeqAt.count_list_data ⟨_, h1, h2, _, h3⟩ h4 r2 (PyData.plainAll_of_canLay0 _ (by simpa [PyData.canLay0] using k1.2.2)) (PyData.plain_of_canLay0 _ k2.2.2) (depth_min k2 (by decide) hu)
          ⟨.int _, H, I.tok _, ⟨_, rfl⟩, o μ H _ Stp.refl r (by simp only [Rep])⟩
    · exact o.elim
  · exact o.elim
theorem mv_cntT (hK : X.K = T.K) (hu : X.A.units + 65 < cLine) : MtR X "tuple.count" (rMt T cntT) := by
  intro pins s σ H x xs v us Q I rx rxs ⟨μ, h, d, ds, r, rd, rds, o⟩
  unfold cntT at o
  split at o
  · rename_i e
    obtain ⟨y, rfl, ry⟩ := rds.is1
    obtain ⟨u, rfl, ru⟩ := rxs.one
    split at o
    · rename_i qs p hq hp
      have k1 := py_ok r _ d x _ rd hq
      have k2 := py_ok r _ e y _ ry hp
      obtain ⟨as, r1⟩ := Dp.reads I (.tuple qs) x v (by rw [hK]; exact k1.1) rx
      obtain ⟨bs, r2⟩ := Dp.reads I p y u (by rw [hK]; exact k2.1) ru
      cases r1 with
      | tuple h1 h2 h3 h4 =>
        exact SeqAt.count_tuple_data ⟨_, h1, h2, _, h3⟩ h4 r2 (PyData.plainAll_of_canLay0 _ (by simpa [PyData.canLay0] using k1.2.2)) (PyData.plain_of_canLay0 _ k2.2.2) (depth_min k2 (by decide) hu)
          ⟨.int _, H, I.tok _, ⟨_, rfl⟩, o μ H _ Stp.refl r (by simp only [Rep])⟩
    · exact o.elim
  · exact o.elim
theorem mv_idxL (hK : X.K = T.K) (hu : X.A.units + 65 < cLine) : MtR X "list.index" (rMt T idxL) := by
  intro pins s σ H x xs v us Q I rx rxs ⟨μ, h, d, ds, r, rd, rds, o⟩
  unfold idxL at o
  split at o
  · rename_i e
    obtain ⟨y, rfl, ry⟩ := rds.is1
    obtain ⟨u, rfl, ru⟩ := rxs.one
    split at o
    · rename_i qs p hq hp
      split at o
      · rename_i j hj
        split at o
        · rename_i hjs
          have k1 := py_ok r _ d x _ rd hq
          have k2 := py_ok r _ e y _ ry hp
          obtain ⟨as, r1⟩ := Dp.reads I (.list qs) x v (by rw [hK]; exact k1.1) rx
          obtain ⟨bs, r2⟩ := Dp.reads I p y u (by rw [hK]; exact k2.1) ru
          cases r1 with
          | list h1 h2 h3 h4 =>
            obtain ⟨⟨cls, dd, data, sl⟩, ho, hc, n, hd⟩ := id (show Heap.IsList s.heap _ _ from ⟨_, h1, h2, _, h3⟩)
            replace hc : cls = .type "list" := hc
            replace hd : data = .seq _ n := hd
            subst hc hd
            have pa := PyData.plainAll_of_canLay0 _ (show PyData.canLayAll0 qs = true by simpa [PyData.canLay0] using k1.2.2)
            obtain ⟨z1, z2, z3⟩ := SeqAt.hit_at h4 pa hj
            rw [sizeLine_eq] at hjs
            exact call_meets F.slot_list_index ⟨_, ho, rfl⟩ F.entry_list_index (F.args_list_index_2 _ _) (SeqAt.list_indexAt _ _ n dd sl u _ j z1 (by omega) z2 z3)
              ⟨ho, SeqAt.items_plain h4 r2 pa (PyData.plain_of_canLay0 _ k2.2.2) (depth_min k2 (by decide) hu), ⟨.int _, H, I.tok _, ⟨_, rfl⟩, o μ H _ Stp.refl r (by simp only [Rep])⟩⟩
        · exact o.elim
      · exact o.elim
    · exact o.elim
  · exact o.elim
end
end VI
end
section
namespace VI
open PySem PySem.Spec PyProof.Rows L2
/-! enumerate(tuple) -/
set_option maxHeartbeats 1000000 in
theorem new_enumB {v : Value} {o : Obj} {G : Heap → Prop} (B : Begins v o G) :
    Meets (Builtin.«enumerate.__new__» ⟨[.type "enumerate", v], []⟩) (fun _ R s => G s.heap ∧
      R (.ok (.ret (.ref (s.heap.push o).objs.size))) { s with heap := (s.heap.push o).push { cls := .type "enumerate", data := .fields #[.none, .bool false, .ref s.heap.objs.size, rawInt 0, .none, .none] } }) :=
  .of_wp fun prog w A R s h => by
    obtain ⟨hp, g, d, tk, os⟩ := s
    obtain ⟨g1, h⟩ := h
    have sub := sub_enumerate
    have it : ∀ {A' : Around} {E : Value → Shared → Prop} {Q : Value → Shared → Prop}, Q (.ref hp.objs.size) ⟨hp.push o, g, d, tk, os⟩ → wpAny (model prog w) A' (pyIter v) Q E ⟨hp, g, d, tk, os⟩ :=
      fun q => B.iter prog w _ _ ⟨hp, g, d, tk, os⟩ _ g1 q
    wp_walk using it
    refine wpAny_stack_any fun _ => wpAny_pure ?_
    split
    · rename_i c _ _ _ _ _
      cases (c == Value.type "enumerate") <;> (wp_walk using it; exact ⟨_, rfl, h⟩)
    · wp_walk using it
      exact ⟨_, rfl, h⟩
theorem call_enumB {prog : Program} {w : World} {A : Around} {E : Value → Shared → Prop} {s : Shared} {v : Value} {o : Obj} {G : Heap → Prop} {Q : Value → Shared → Prop} (B : Begins v o G) (g : G s.heap)
    (h : ∀ h', IsEnum h' (s.heap.objs.size + 1) s.heap.objs.size 0 .none → h'.get? s.heap.objs.size = some o → (∀ b u, s.heap.get? b = some u → h'.get? b = some u) → Q (.ref (s.heap.objs.size + 1)) { s with heap := h' }) :
    wpAny (model prog w) A (call (.type "enumerate") [v]) Q E s := by
  refine callType_new F.called_enumerate (by decide) (F.typeCall_enumerate_1 _) (F.newCall_enumerate_1 _) (fun ob => F.args_object_init_2 ob _) F.entry_enumerate_new (new_enumB B) ⟨g, ?_⟩
  have hz : (s.heap.push o).objs.size = s.heap.objs.size + 1 := Heap.size_push ..
  show _ ∧ _
  rw [hz]
  have he : IsEnum ((s.heap.push o).push { cls := .type "enumerate", data := .fields #[.none, .bool false, .ref s.heap.objs.size, rawInt 0, .none, .none] }) (s.heap.objs.size + 1) s.heap.objs.size 0 .none := by
    have z := Heap.get?_push_size (s.heap.push o) (o := { cls := .type "enumerate", data := .fields #[.none, .bool false, .ref s.heap.objs.size, rawInt 0, .none, .none] }) rfl
    rw [hz] at z
    exact z
  exact ⟨⟨_, he, rfl⟩, h _ he (Heap.get?_push_of_some _ (Heap.get?_push_size _ B.free)) fun b u z => Heap.get?_push_of_some _ (Heap.get?_push_of_some _ z)⟩
theorem enumT_end {prog : Program} {w : World} {A : Around} {E : Value → Shared → Prop} {s : Shared} {e it t : Addr} {i : Nat} {its : Array Value} {old : Value} {Q : Option Value → Shared → Prop} (hh : A.handled = none) (he : IsEnum s.heap e it i old) (hit : s.heap.IsTupleIter it t i) (ht : s.heap.IsTuple t its) (hx : its[i]? = none)
    (q : ∀ h', Heap.ExtBut it s.heap h' → Q none { s with heap := h' }) : wpAny (model prog w) A (pyNext (.ref e)) Q E s := by
  have ty : s.TypeIs (.ref e) "enumerate" := ⟨_, he, rfl⟩
  unfold pyNext
  refine wpAny_bind (wpAny_attempt (wpAny_callSpecial?_slot (name := Str.ofString "__next__") ty F.slot_enumerate_next (wpAny_call_entry F.slot_enumerate_next ty F.entry_enumerate_next (wpAny_bind (m := field (.ref e) 2) (wpAny_field he rfl (x := .ref it) rfl (wpAny_bind (wpAny_nextOf_tuple_end hh hit ht hx fun h' x ex ⟨o, ho, hc⟩ => ?_)))) (F.args_enumerate_next_1 _))))
  exact wpAny_bind (wpAny_isInstance (T := "StopIteration") (b := true) ⟨o, ho, hc⟩ isSubtype_stop (wpAny_pure (q _ ex)))
def ItE (K : PySem.W.Frag) (a : Addr) : It :=
  ⟨fun i H => ∃ (xs : List V) (x : V), SqT K H a xs ∧ xs[i]? = some x, fun i H v H' => ∃ t x, v = .ref t ∧ H t = none ∧ H' = upd H t (.tup [.int (i : Nat), x]) ∧ ∀ xs, SqT K H a xs → xs[i]? = some x, fun i H => ∃ xs : List V, SqT K H a xs ∧ xs.length ≤ i⟩
theorem turn_enumT {P : Program} {w : World} {K : PySem.W.Frag} {elts : List Expr} {kk : Nat} {tpos : Pos} (a e it : Addr) :
    Turn P w K (.Tuple elts kk tpos) (ItE K a) [e, it] e (fun i h => (∃ old, IsEnum h e it ((i : Nat) : Int) old) ∧ h.IsTupleIter it a i ∧ e ≠ it ∧ a ≠ it ∧ a ≠ e) where
  mem := List.mem_cons_self
  obj := fun i h ⟨⟨old, he⟩, ⟨o, ho, hc, hd⟩, _⟩ b hb => by
    rcases List.mem_cons.mp hb with z | z
    · rw [z]; exact ⟨_, he, fun v q => nomatch q⟩
    · rw [List.mem_singleton.mp z]; exact ⟨o, ho, fun v q => by rw [hd] at q; cases q⟩
  keep := fun i h h' ⟨⟨old, he⟩, hi, hne⟩ k => ⟨⟨old, k e (by simp) _ he⟩, hi.at fun o q => k it (by simp) o q, hne⟩
  item := by
    intro X hP hw hK hc i pins s σ H E I hf ⟨⟨old, he⟩, hit, hne, ha1, ha2⟩ ⟨xs, x, hq, hx⟩
    subst hP hw hK
    obtain ⟨us, rv, p, hz⟩ := I.tuple hq
    obtain ⟨u, hu, ru⟩ := rv.get hx
    have hel : e < s.heap.objs.size := Heap.lt_size he
    have hil : it < s.heap.objs.size := by obtain ⟨_, q, _⟩ := hit; exact Heap.lt_size q
    have hi : i < us.toArray.size := by
      have := (List.getElem?_eq_some_iff.mp hu).1
      simpa using this
    have Dr := Draws.tuple (prog := X.prog) (w := X.w) (A := X.A.in1) (I.ok.hd hc) it a ha1 us.toArray
    refine wpAny_pyNext_enum_itemD Dr he ⟨hit, p⟩ hi hne (by simp [hne, Ne.symm ha2]) fun y h' tk hy ho hst hT hsz hk => ?_
    have ey : y = u := by
      rw [show us.toArray[i]? = us[i]? by simp, hu] at hy
      exact (Option.some.inj hy).symm
    subst ey
    refine ⟨_, rfl, wpAny_letOwnedTupleGo_enum (s := { s with heap := h', toks := tk + 1 }) ho fun h'' he' sb => ?_⟩
    have hT2 : h''.get? s.heap.objs.size = some { cls := .type "tuple", data := .seq #[.int i tk, y] } := (sb.2 _ (Nat.ne_of_gt hel)).trans hT
    have nw : ObjOk X.prog X.w (upd H s.heap.objs.size (.tup [.int (i : Nat), x])) h'' s.heap.objs.size (.tup [.int (i : Nat), x]) :=
      ⟨by show 2 ≤ sizeLine; decide, [.int i tk, y], .cons ⟨_, rfl⟩ (.cons ru .nil), ⟨_, hT2, rfl, _, rfl⟩⟩
    have I1 : Inv X pins σ (upd H s.heap.objs.size (.tup [.int (i : Nat), x])) { s with heap := h'', toks := tk + 1 } :=
      I.turnedNew (ch := [e, it]) (fun b o2 hb q => (sb.2 b (fun z => hb (by simp [z]))).trans (hk b o2 (fun z => hb (by simp [z])) (fun z => hb (by simp [z])) q)) hf (Nat.le_refl _) nw
    refine ⟨.ref s.heap.objs.size, _, I1, rfl, ⟨_, x, rfl, I.hok.fresh (Nat.le_refl _), rfl, fun ys hy => by rw [I.tuple_inj hy hq]; exact hx⟩, ⟨⟨y, ?_⟩, hst.1.at fun o q => (sb.2 it (Ne.symm hne)).trans q, hne, ha1, ha2⟩, fun b hb => ?_⟩
    · rw [show ((i + 1 : Nat) : Int) = (i : Int) + 1 by omega]; exact he'
    · have hb' : b < s.heap.objs.size := by
        rcases List.mem_cons.mp hb with z | z
        · rw [z]; exact hel
        · rw [List.mem_singleton.mp z]; exact hil
      rw [upd_ne (Nat.ne_of_lt hb')]
      exact (hf b hb).1
  done := by
    intro X hP hw hK hc i pins s σ H E I hf ⟨⟨old, he⟩, hit, hne, ha1, ha2⟩ ⟨xs, hq, hx⟩
    subst hP hw hK
    obtain ⟨us, rv, p, hz⟩ := I.tuple hq
    obtain ⟨f0, f1, f2, f3, f4, f5⟩ := hf it (by simp)
    have hl := rv.length
    exact enumT_end (I.ok.hd hc) he hit p (by simp; omega) fun h' eb => ⟨rfl, I.turned (t' := s.toks) (fun b o hb q => eb b o hb q) f0 f1 f3 f4 f5⟩
  self := fun A i s Q E ⟨⟨_, he⟩, _⟩ h => wpAny_pyIter_enum he h
def iEnumT (K : PySem.W.Frag) (ta : TA) : TI := fun σ H R => ta σ H fun vs H1 => ∃ a xs, vs = [.ref a] ∧ SqT K H1 a xs ∧ R (ItE K a) H1
theorem pi_enumT {X : Cx} {e : Expr} {ta : TA} {p pos tpos : Pos} {elts : List Expr} {kk : Nat} (hg : Gl X "enumerate") (hm : X.mg "enumerate" = none) (ha : PA X [e] ta) (hs : starEach [e] X.env = [(false, eval e X.env)]) :
    PI X (.Tuple elts kk tpos) (.Call (.Name "enumerate" p) [e] [] pos) (iEnumT X.K ta) := by
  refine ⟨fun pins s σ H R I h => Call_ (ld_blt I hg hm boot_enumerate (PyProof.Rows.callWith_type1 (thn (ha.run pos pins s σ H _ I h) fun us s1 ⟨vs, H1, I1, r1, a, xs, ex, hq, q⟩ => ?_) hs rfl))⟩
  subst ex
  cases r1 with
  | cons r rr =>
    cases rr
    cases r
    obtain ⟨ws, rv, pt, hz⟩ := I1.tuple hq
    have hal : a < s1.heap.objs.size := by obtain ⟨_, z, _⟩ := pt; exact Heap.lt_size z
    refine call_enumB (begins_tuple a ws.toArray) pt fun h' he hit hk => wpAny_pyIter_enum he ?_
    have I2 : Inv X pins σ H1 { s1 with heap := h' } := I1.kept (t' := s1.toks) hk
    refine ⟨s1.heap.objs.size + 1, [s1.heap.objs.size + 1, s1.heap.objs.size], _, _, H1, rfl, I2, turn_enumT a (s1.heap.objs.size + 1) s1.heap.objs.size, ⟨⟨.none, he⟩, ⟨_, hit, rfl, rfl⟩, Nat.succ_ne_self _, Nat.ne_of_lt hal, Nat.ne_of_lt (Nat.lt_succ_of_lt hal)⟩, fun b hb => ?_, q⟩
    have hle : s1.heap.objs.size ≤ b := by
      rcases List.mem_cons.mp hb with z | z
      · rw [z]; exact Nat.le_succ _
      · rw [List.mem_singleton.mp z]; exact Nat.le_refl _
    exact I1.fpOk hle (I1.hok.fresh hle)
theorem walk_enumT {K : PySem.W.Frag} {a : Addr} {xs : List V} : Walk (ItE K a) xs.length (fun H => SqT K H a xs) (YPair (fun i => some (.int (i : Nat))) (fun i => xs[i]?)) :=
  ⟨fun i _ hi q => ⟨xs, xs[i], q, by simp [hi]⟩, fun _ q => ⟨xs, q, Nat.le_refl _⟩, fun i H v H' _ q ⟨t, x, e1, e2, e3, e4⟩ => ⟨t, .int (i : Nat), x, e1, e2, e3, rfl, e4 xs q⟩⟩
/-- enumerate of a list or a tuple -/
def itEnum2 (ds : List D) (h : Bs) : R Iu := match ds with
  | [d] => (match itSeq d h with
    | .ok u h' => .ok (enumL 0 u.1, u.2) h'
    | _ => .no)
  | _ => .no
section
variable {X : Cx} {T : Tb} {W : WX}
theorem piv_enum2 {e : Expr} {p pos tpos : Pos} {elts : List Expr} {kk : Nat} {sa : SA} (hK : X.K = T.K) (hg : Gl X "enumerate") (hm : X.mg "enumerate" = none) (hs : PySem.W.isStarred e = false) (ha : PA X [e] (tA' T W sa)) :
    PI X (.Tuple elts kk tpos) (.Call (.Name "enumerate" p) [e] [] pos) (tI' T W (siArg itEnum2 sa)) := by
  refine ⟨fun pins s σ H R I ⟨μ, ρ, h, r, e, o⟩ => ?_⟩
  have L := pi_enum (p := p) (pos := pos) (tpos := tpos) (elts := elts) (kk := kk) hg hm ha (by rw [star_no hs]; rfl)
  have R' := pi_enumT (p := p) (pos := pos) (tpos := tpos) (elts := elts) (kk := kk) hg hm ha (by rw [star_no hs]; rfl)
  unfold siArg at o
  cases q : sa ρ h with
  | no => rw [q] at o; exact o.elim
  | ex x h1 => exact L.run pins s σ H R I ⟨μ, ρ, h, r, e, by rw [q] at o ⊢; exact o⟩
  | ok ds h1 =>
    rw [q] at o
    by_cases ht : ∃ d, ds = [d] ∧ isTupD d = true
    · obtain ⟨d, rfl, ht⟩ := ht
      refine R'.run pins s σ H R I ⟨μ, ρ, h, r, e, ?_⟩
      rw [q]
      intro μ1 H1 vs s1 r1 rv
      have o1 := OutI.step o s1
      obtain ⟨w, rfl, rw'⟩ := rv.is1
      simp only [VI.R.bind, itEnum2] at o1
      split at o1
      · rename_i u h' q2
        obtain ⟨xs, l⟩ := u
        obtain ⟨rfl, nl, a, vs, e1, e4, e5⟩ := seq_stays r1 rw' q2
        rcases e5 with ⟨z, _⟩ | ⟨_, e5, e6⟩
        · rw [z] at ht; cases ht
        · subst e1
          refine ⟨a, vs, rfl, by rw [hK]; exact e5, ?_⟩
          rw [hK]
          refine o1 μ1 H1 _ Stp.refl r1 nl (wk_pair (walk_enumT (K := T.K) (a := a) (xs := vs)) (by rw [enumL_length, e4.length]) e6 fun i v w hi z1 z2 => ?_)
          cases z1
          have hx : xs[i]? = some (xs[i]'(by rw [e4.length]; exact hi)) := List.getElem?_eq_getElem _
          obtain ⟨w', f1, f2⟩ := e4.get hx
          rw [z2] at f1; cases f1
          exact ⟨_, _, by rw [enumL_get 0 xs i _ hx], rep_int (by simp), Rep.ad lockMu_ad lockMu_pr _ _ f2⟩
      · exact o1.elim
    · have E := (piv_enum (T := T) (W := W) (p := p) (pos := pos) (tpos := tpos) (elts := elts) (kk := kk) hK hg hm hs ha).run pins s σ H R I ⟨μ, ρ, h, r, e, ?_⟩
      · exact E
      · unfold siArg
        rw [q]
        simp only [VI.R.bind] at o ⊢
        have ee : itEnum ds h1 = itEnum2 ds h1 ∨ itEnum2 ds h1 = .no := by
          match ds, ht with
          | [], _ => exact .inr rfl
          | [d], ht => exact .inl (by unfold itEnum itEnum2; exact if_neg (fun z => ht ⟨d, rfl, z⟩))
          | _ :: _ :: _, _ => exact .inr rfl
        rcases ee with ee | ee
        · rw [ee]; exact o
        · rw [ee] at o; exact o.elim
end
section
variable {Z : Cfg} {t : Tx} {k : Nat} {N : List Str} {sc : Scope} {raw : Option Scope} {X : Cx} {W : WX} {pos p : Pos} {a : Expr} {sa : SA} {so : SV}
/-! ### by the bundle -/
theorem i_enum2 {e : Expr} {tpos : Pos} {elts : List Expr} {kk : Nat} (h : XO Z t k N sc raw X W) (g : (glC sc "enumerate" && t.fr.contains "enumerate" && noStars [e]) = true) (ha : PA X [e] (tA' Z.T W sa)) :
    PI X (.Tuple elts kk tpos) (.Call (.Name "enumerate" p) [e] [] pos) (tI' Z.T W (siArg itEnum2 sa)) := by
  simp only [Bool.and_eq_true, noStars, List.all_cons, List.all_nil, Bool.not_eq_true', Bool.and_true] at g
  exact piv_enum2 h.K (h.gl g.1.1).1 (h.fr g.1.2) g.2 ha
theorem B_tupleP : BT "tuple" "tuple" tuplePD := ⟨fun _ _ => tuplePD_calm, by decide +kernel, fun h => cv_tupleP h.K⟩
theorem v_count {e : Expr} {es : List Expr} {apos cpos : Pos} {s : SA} (h : XO Z t k N sc raw X W) (g : (noSuper a && noStars (e :: es) && Nat.blt (e :: es).length 30 && (apos.endLine == cpos.line)) = true) (ho : PE X a (tV Z.T W so)) (ha : PA X (e :: es) (tA' Z.T W s)) :
    PE X (.Call (.Attribute a "count" apos) (e :: es) [] cpos) (tV Z.T W (sLt cntL cntT so s)) := by
  simp only [Bool.and_eq_true] at g
  exact pv_lt (fun _ _ _ => cntL_calm) (fun _ _ _ => cntT_calm) h.K PySem.F.slot_list_count PySem.F.type_list_count (mv_cntL h.K h.units) PySem.F.slot_tuple_count PySem.F.type_tuple_count (mv_cntT h.K h.units) g.1.1.1 g.1.1.2 (by have e := g.1.2; simp [Nat.blt] at e; simp; omega) g.2 ho ha
theorem v_index {e : Expr} {es : List Expr} {apos cpos : Pos} {s : SA} (h : XO Z t k N sc raw X W) (g : (noSuper a && noStars (e :: es) && Nat.blt (e :: es).length 30 && (apos.endLine == cpos.line)) = true) (ho : PE X a (tV Z.T W so)) (ha : PA X (e :: es) (tA' Z.T W s)) :
    PE X (.Call (.Attribute a "index" apos) (e :: es) [] cpos) (tV Z.T W (sBm idxL so s)) := by
  simp only [Bool.and_eq_true] at g
  exact pv_bm (fun _ _ _ => idxL_calm) h.K PySem.F.plainAttrs_list PySem.F.slot_list_index PySem.F.type_list_index (mv_idxL h.K h.units) g.1.1.1 g.1.1.2 (by have e := g.1.2; simp [Nat.blt] at e; simp; omega) g.2 ho ha
end
end VI
end
section
namespace VI
open PySem PySem.Spec PyProof.Rows L2
/-! classes -/
def clsBody : Stmt → List Stmt
  | .ClassDef _ _ _ b _ _ _ _ _ _ _ => b
  | _ => []
/-- the method m of the class c: its reading -/
def MtG (Z : Cfg) (c : Nat) (m : Str) (k : Nat) (cf : List D → Bs → R D) : Prop := ∃ C f fd ps, Z.T.cls c = some C ∧ Cls Z.T.K C ∧ Meth Z.T.K C m f ∧ FnOk Z.P Z.w Z.T.K Z.mg Z.base (CX Z.P Z.w) k f fd ps (spF Z.T cf) ∧ Binds Z.T.K fd ps [] ∧ PySem.W.fnIn Z.T.K f = true
/-- the class x, number c, by its __init__ -/
def MkG (Z : Cfg) (x : Str) (c : Nat) (k : Nat) (cf : List D → Bs → R D) : Prop := ∃ C f fd ps, Z.T.cls c = some C ∧ Mk Z.T.K C f ∧ FnOk Z.P Z.w Z.T.K Z.mg Z.base (CX Z.P Z.w) k f fd ps (spF Z.T cf) ∧ Binds Z.T.K fd ps [] ∧ Z.mg x = some (.ref C)
/-- by the receiver's class -/
def MtL (Z : Cfg) (m : Str) (k : Nat) (l : List (Nat × (List D → Bs → R D))) : Prop := ∀ c cf, l.lookup c = some cf → MtG Z c m k cf
theorem MtL.nil {Z : Cfg} {m : Str} {k : Nat} : MtL Z m k [] := fun _ _ e => by cases e
theorem MtL.cons {Z : Cfg} {m : Str} {k j c : Nat} {cf : List D → Bs → R D} {l : List (Nat × (List D → Bs → R D))} (h : MtG Z c m j cf) (hj : Nat.ble j k = true) (r : MtL Z m k l) : MtL Z m k ((c, cf) :: l) := fun c' cf' e => by
  rw [List.lookup_cons] at e
  split at e
  · rename_i q
    cases e
    obtain rfl : c' = c := LawfulBEq.eq_of_beq q
    obtain ⟨C, f, fd, ps, h1, h2, h3, h4, h5, h6⟩ := h
    exact ⟨C, f, fd, ps, h1, h2, h3, h4.mono (Nat.le_of_ble_eq_true hj), h5, h6⟩
  · exact r c' cf' e
section
variable {Z : Cfg} {t : Tx} {k : Nat} {N : List Str} {sc : Scope} {raw : Option Scope} {X : Cx} {W : WX} {pos p : Pos} {a b c : Expr} {sa sb s3 : SV} {x : Str}
theorem v_fld {i : Nat} (h : XO Z t k N sc raw X W) (e : t.att[i]? = some x) (hb : noSuper a = true) (ha : PE X a (tV Z.T W sa)) : PE X (.Attribute a x pos) (tV Z.T W (sUn (fldD Z.T i) sa)) := by
  obtain ⟨e1, _⟩ := h.z.att i x e
  rw [← e1]
  exact pv_fld h.z.ok h.K hb ha
theorem s_fld {i : Nat} {pos' : Pos} (h : XO Z t k N sc raw X W) (e : t.att[i]? = some x) (ha : PE X a (tV Z.T W sa)) (hb : PE X b (tV Z.T W sb)) : PS X (.Assign [.Attribute a x pos'] b pos) (tS' Z.T W (ssFld Z.T i sa sb)) := by
  obtain ⟨e1, _⟩ := h.z.att i x e
  rw [← e1]
  exact psv_fld h.z.ok h.K ha hb
theorem v_meth {i j : Nat} {l : List (Nat × (List D → Bs → R D))} {e : Expr} {es : List Expr} {apos : Pos} {s : SA} (h : XO Z t k N sc raw X W) (M : MtL Z x j l) (hj : Nat.ble j k = true) (e1 : t.att[i]? = some x)
    (g : (noSuper a && noStars (e :: es) && Nat.blt (e :: es).length 30 && (apos.endLine == pos.line)) = true) (ho : PE X a (tV Z.T W sa)) (ha : PA X (e :: es) (tA' Z.T W s)) :
    PE X (.Call (.Attribute a x apos) (e :: es) [] pos) (tV Z.T W (sMeth i (fun c => l.lookup c) sa s)) := by
  simp only [Bool.and_eq_true] at g
  obtain ⟨q1, q2⟩ := h.z.att i x e1
  rw [← q1]
  refine pv_meth h.z.ok h.K q2 (h.room.mono (Nat.le_of_ble_eq_true hj)) h.takes (fun c cf z => ?_) g.1.1.1 g.1.1.2 (by have e := g.1.2; simp [Nat.blt] at e; simp; omega) g.2 ho ha
  obtain ⟨C, f, fd, ps, h1, h2, h3, h4, h5, _⟩ := M c cf z
  exact ⟨C, f, fd, ps, h1, by rw [h.K]; exact h2, by rw [h.K, q1]; exact h3, by rw [h.prog, h.w, h.K, h.mg, h.base]; exact h4, by rw [h.K]; exact h5⟩
theorem v_meth0 {i j : Nat} {l : List (Nat × (List D → Bs → R D))} {apos : Pos} (h : XO Z t k N sc raw X W) (M : MtL Z x j l) (hj : Nat.ble j k = true) (e1 : t.att[i]? = some x)
    (g : (noSuper a && (apos.endLine == pos.line)) = true) (ho : PE X a (tV Z.T W sa)) :
    PE X (.Call (.Attribute a x apos) [] [] pos) (tV Z.T W (sMeth i (fun c => l.lookup c) sa saNil)) := by
  simp only [Bool.and_eq_true] at g
  obtain ⟨q1, q2⟩ := h.z.att i x e1
  rw [← q1]
  refine pv_meth0 h.z.ok h.K q2 (h.room.mono (Nat.le_of_ble_eq_true hj)) h.takes (fun c cf z => ?_) g.1 g.2 ho
  obtain ⟨C, f, fd, ps, h1, h2, h3, h4, h5, _⟩ := M c cf z
  exact ⟨C, f, fd, ps, h1, by rw [h.K]; exact h2, by rw [h.K, q1]; exact h3, by rw [h.prog, h.w, h.K, h.mg, h.base]; exact h4, by rw [h.K]; exact h5⟩
theorem v_make {j c : Nat} {init : List D → Bs → R D} {e : Expr} {es : List Expr} {s : SA} (h : XO Z t k N sc raw X W) (M : MkG Z x c j init) (hj : Nat.ble (j + 1) k = true) (g : glC sc x = true) (hs : noStars (e :: es) = true) (ha : PA X (e :: es) (tA' Z.T W s)) :
    PE X (.Call (.Name x p) (e :: es) [] pos) (tV Z.T W (sCall (makeD c true init) s)) := by
  obtain ⟨g1, g2, _⟩ := h.gl g
  obtain ⟨C, f, fd, ps, h1, h2, h3, h4, h5⟩ := M
  exact pv_make h1 (by rw [h.K]; exact h2) (by rw [h.prog, h.w, h.K, h.mg, h.base]; exact h3) (h.room.mono (Nat.le_of_ble_eq_true hj)) g1 (by rw [h.mg]; exact h5) (by rw [h.K]; exact h4) h.takes g2 hs ha
/-- a class's name, in isinstance -/
theorem N_own {i : Nat} (h : XO Z t k N sc raw X W) (e : t.cl[i]? = some x) (g : glC sc x = true) : ClsN X Z.T x (7 + i) := by
  obtain ⟨g1, g2, _⟩ := h.gl g
  obtain ⟨C, h1, h2, h3⟩ := h.z.cl i x e
  refine ⟨.ref C, .ref C, ?_, .own C, fun pos => pe_glob (v := .ref C) g1 (by rw [h.mg]; exact h2) rfl g2⟩
  · unfold Tb.tyV
    rw [if_neg (by omega), show 7 + i - 7 = i by omega]
    exact ⟨C, h1, rfl⟩
/-- a method's def -/
def MDef (Z : Cfg) (c : Nat) (m qual : Str) (st : Stmt) : Prop := ∃ C f fd, FunD Z.T.K m qual (defArgs st) (defBody st) (defScope st) [] [] f fd ∧ Z.T.cls c = some C ∧ Cls Z.T.K C ∧ Meth Z.T.K C m f
def IDef (Z : Cfg) (x : Str) (c : Nat) (qual : Str) (st : Stmt) : Prop := ∃ C f fd, FunD Z.T.K "__init__" qual (defArgs st) (defBody st) (defScope st) [] [] f fd ∧ Z.T.cls c = some C ∧ Mk Z.T.K C f ∧ Z.mg x = some (.ref C)
theorem mt_of {c : Nat} {m qual : Str} {st : Stmt} {N ps : List Str} {s : SS} (z : Z.Ok t) (Df : MDef Z c m qual st) (S : FnScope N ps (defScope st))
    (hb : ∀ (kV doc pm : Value) (an : Option Addr) (cdv ct : Value) (us : List Value), us.length = ps.length → bindArgs (PySem.W.fnOf m qual (defArgs st) (defBody st) (defScope st) .none kV doc pm an cdv ct) ⟨us, []⟩ = pure (ps.zip us))
    (B : ∀ (X : Cx) (W : WX), XO Z t k N (defScope st) none X W → PSs X (defBody st) (tS' Z.T W s)) : MtG Z c m (k + 1) (runFn ps.length N.length s) := by
  obtain ⟨C, f, fd, F, h1, h2, h3⟩ := Df
  exact ⟨C, f, fd, ps, h1, h2, h3, fn_sound F S fun cdv A outer s H E hr => B _ _ ⟨z, rfl, rfl, rfl, rfl, rfl, rfl, S.nd, rfl, S.kind, fun _ _ => rfl, rfl, hr, takes_of rfl rfl rfl rfl, passes_of rfl⟩, F.bindsN hb, by
    obtain ⟨_, _, _, _, _, _, _, _, _, _, _, lk, _⟩ := F.ex
    unfold PySem.W.fnIn
    rw [lk]⟩
theorem mk_of {c : Nat} {x qual : Str} {st : Stmt} {N ps : List Str} {s : SS} (z : Z.Ok t) (Df : IDef Z x c qual st) (S : FnScope N ps (defScope st))
    (hb : ∀ (kV doc pm : Value) (an : Option Addr) (cdv ct : Value) (us : List Value), us.length = ps.length → bindArgs (PySem.W.fnOf "__init__" qual (defArgs st) (defBody st) (defScope st) .none kV doc pm an cdv ct) ⟨us, []⟩ = pure (ps.zip us))
    (B : ∀ (X : Cx) (W : WX), XO Z t k N (defScope st) none X W → PSs X (defBody st) (tS' Z.T W s)) : MkG Z x c (k + 1) (runFn ps.length N.length s) := by
  obtain ⟨C, f, fd, F, h1, h2, h3⟩ := Df
  exact ⟨C, f, fd, ps, h1, h2, fn_sound F S fun cdv A outer s H E hr => B _ _ ⟨z, rfl, rfl, rfl, rfl, rfl, rfl, S.nd, rfl, S.kind, fun _ _ => rfl, rfl, hr, takes_of rfl rfl rfl rfl, passes_of rfl⟩, F.bindsN hb, h3⟩
end
/-! ### the classes of a text -/
structure Ct where
  cls : List Str
  att : List Str
  fld : List (Nat × Nat)
  /-- the types that isinstance is asked for -/
  isi : List Nat
  /-- the defs with lambdas, with their qualified names -/
  tab : List (He.Defn × Str)
def kitC (c : Ct) (t u : Nat) : Option Bool := if t < 7 ∧ u < 7 then some (t == u || (t == 1 && u == 2)) else if t < 7 + c.cls.length ∧ c.isi.contains u ∧ u < 7 + c.cls.length then some (t == u) else none
def tbC (c : Ct) (K : PySem.W.Frag) : Tb := ⟨K, fun i => (c.cls[i]?).map (He.ga K), fun f => c.att.getD f "", c.att.length, kitC c, fun i => decide (i < c.cls.length), fun i f => c.fld.contains (i, f), fun t => match c.tab[t]? with
  | some p => ((He.cT K p.1).2, p.2 ++ ".<locals>." ++ "<lambda>")
  | none => (0, "")⟩
def tyvC (c : Ct) (K : PySem.W.Frag) (t : Nat) : Value := if t < 7 then .type (tyS t) else .ref (He.ga K (c.cls.getD (t - 7) ""))
def insB (K : PySem.W.Frag) (x : Str) : Bool := He.eqO (PySem.W.findIn K (.ref (He.ga K x)) "__class__") (some (some (.builtin "object.__class__"))) && (He.eqO (PySem.W.specialIn K (.builtin "object.__class__") "__get__") (some (some (.builtin "getset_descriptor.__get__"))) &&
  (decide (PySem.W.takesIn K (.builtin "object.__class__") = some true) && (decide (PySem.W.mroIn K (He.ga K x) (.type "object") = some true) && He.eqO (PySem.W.findIn K (.ref (He.ga K x)) "__ne__") (some (some (.builtin "object.__ne__"))))))
def ctOk (c : Ct) (K : PySem.W.Frag) : Bool :=
  (c.cls.all fun x => (He.Fa.cls x).ok K && insB K x) &&
  ((c.fld.all fun p => decide (p.1 < c.cls.length) && (decide (p.2 < c.att.length) && (He.Fa.noat (c.cls.getD p.1 "") (c.att.getD p.2 "")).ok K)) &&
  ((List.range (7 + c.cls.length)).all fun t => c.isi.all fun u => decide (t < 7 ∧ u < 7) || (decide (¬ u < 7 + c.cls.length) || decide (PySem.W.kitOne K (tyvC c K t) (tyvC c K u) = some (t == u)))))
theorem tbC_ok {c : Ct} {K : PySem.W.Frag} (hn : c.att.Nodup) (he : c.att.contains "" = false) (h : ctOk c K = true) : (tbC c K).Ok := by
  unfold ctOk at h
  simp only [Bool.and_eq_true] at h
  obtain ⟨h1, h2, h3⟩ := h
  rw [List.all_eq_true] at h1 h2 h3
  have gt : ∀ {i : Nat} {C : Addr}, (tbC c K).cls i = some C → ∃ x, c.cls[i]? = some x ∧ C = He.ga K x ∧ i < c.cls.length ∧ c.cls.getD i "" = x := by
    intro i C e
    have e' : (c.cls[i]?).map (He.ga K) = some C := e
    cases q : c.cls[i]? with
    | none => rw [q] at e'; cases e'
    | some x =>
      rw [q] at e'; cases e'
      exact ⟨x, rfl, rfl, (List.getElem?_eq_some_iff.mp q).1, by rw [List.getD_eq_getElem?_getD, q]; rfl⟩
  have tv : ∀ {t : Nat} {v : Value}, t < 7 + c.cls.length → (tbC c K).tyV t v → v = tyvC c K t := by
    intro t v ht hv
    unfold Tb.tyV at hv
    unfold tyvC
    split at hv
    · rename_i z; rw [if_pos z]; exact hv
    · rename_i z
      rw [if_neg z]
      obtain ⟨C, e, rfl⟩ := hv
      obtain ⟨x, _, rfl, _, e4⟩ := gt e
      rw [e4]
  refine ⟨fun t u b tv' uv e h4 h5 => ?_, fun i C e _ H a dx fs hH => ?_, fun i C e => ?_, fun f g hf e => ?_, fun i f e => ?_, fun i f C e hC => ?_⟩
  · have e' : kitC c t u = some b := e
    unfold kitC at e'
    split at e'
    · rename_i hh
      cases e'
      unfold Tb.tyV at h4 h5
      rw [if_pos hh.1] at h4
      rw [if_pos hh.2] at h5
      subst h4 h5
      exact kit0_ok K t hh.1 u hh.2
    · rename_i hh
      split at e'
      · rename_i hq
        cases e'
        have k := List.all_eq_true.mp (h3 t (List.mem_range.mpr hq.1)) u (by simpa using hq.2.1)
        simp only [Bool.or_eq_true, decide_eq_true_eq] at k
        rcases k with k | k | k
        · exact absurd k hh
        · exact absurd hq.2.2 k
        · rw [tv hq.1 h4, tv hq.2.2 h5]; exact k
      · cases e'
  · obtain ⟨x, e1, rfl, e3, _⟩ := gt e
    have k := h1 x (List.mem_of_getElem? e1)
    simp only [Bool.and_eq_true, insB] at k
    obtain ⟨k1, k2, k3, k4, k5, k6⟩ := k
    exact .ins hH (He.cls_ok k1) (He.eqO_ok k2) (He.eqO_ok k3) (of_decide_eq_true k4) (of_decide_eq_true k5)
  · obtain ⟨x, e1, rfl, e3, _⟩ := gt e
    have k := h1 x (List.mem_of_getElem? e1)
    simp only [Bool.and_eq_true, insB] at k
    obtain ⟨k1, k2, k3, k4, k5, k6⟩ := k
    exact ⟨of_decide_eq_true k5, He.eqO_ok k6⟩
  · have hf' : f < c.att.length := hf
    have e' : c.att.getD g "" = c.att.getD f "" := e
    rw [List.getD_eq_getElem?_getD, List.getD_eq_getElem?_getD, List.getElem?_eq_getElem hf'] at e'
    simp only [Option.getD_some] at e'
    by_cases hg : g < c.att.length
    · rw [List.getElem?_eq_getElem hg] at e'
      exact (List.getElem_inj hn).mp e'
    · rw [List.getElem?_eq_none (by omega)] at e'
      have : c.att.contains "" = true := by
        rw [List.contains_iff_mem]
        simp only [Option.getD_none] at e'
        rw [e']
        exact List.getElem_mem hf'
      rw [he] at this; cases this
  · have e' : c.fld.contains (i, f) = true := e
    have k := h2 (i, f) (by simpa using e')
    simp only [Bool.and_eq_true, decide_eq_true_eq] at k
    exact k.2.1
  · have e' : c.fld.contains (i, f) = true := e
    have k := h2 (i, f) (by simpa using e')
    simp only [Bool.and_eq_true, decide_eq_true_eq] at k
    obtain ⟨x, e1, rfl, e3, e4⟩ := gt hC
    have k1 := h1 x (List.mem_of_getElem? e1)
    simp only [Bool.and_eq_true] at k1
    refine ⟨He.cls_ok k1.1, ?_⟩
    have := He.noat_ok k.2.2
    simp only [e4] at this
    exact this
/-! ### the hook -/
def obsC (c : Ct) (fa : List He.Fa) (fn : List He.DefD) (K : PySem.W.Frag) : He.AlD := (((fa.all fun f => f.ok K) && fn.all fun d => d.ok K) && ctOk c K, fn.map fun d => He.fnW K d.at_)
def SaysC (c : Ct) (fa : List He.Fa) (fn : List He.DefD) (K : PySem.W.Frag) : Prop := obsC c fa fn K = He.valD fn
def obsCG (n : Nat) (c : Ct) (fa : List He.Fa) (fn : List He.DefD) (g : Addr → Option Obj) : He.AlD := obsC c fa fn (He.frG g (He.asD g n))
def hookC (n : Nat) (c : Ct) (fa : List He.Fa) (fn : List He.DefD) : PySem.W.Hook where
  α := He.AlD
  obs := fun s => obsCG n c fa fn s.heap.get?
  val := fun _ => He.valD fn
  says := fun _ h => ∃ K : PySem.W.Frag, K.In h ∧ SaysC c fa fn K
  of := fun _ _ e => ⟨_, He.frG_in, e⟩
  keeps := fun _ _ _ ⟨K, hK, q⟩ k => ⟨K, PySem.W.Frag.In.keeps hK k, q⟩
theorem obsCG_eq {n : Nat} {c : Ct} {fa : List He.Fa} {fn : List He.DefD} {g : Addr → Option Obj} {s : Shared} (h : ∀ a, g a = s.heap.get? a) : obsCG n c fa fn g = (hookC n c fa fn).obs s := by
  rw [show g = s.heap.get? from funext h] <;> rfl
theorem SaysC.ct {c : Ct} {fa : List He.Fa} {fn : List He.DefD} {K : PySem.W.Frag} (h : SaysC c fa fn K) : ctOk c K = true := by
  have e := congrArg (fun z : He.AlD => z.1) h
  exact (He.ba (show (((fa.all fun f => f.ok K) && fn.all fun d => d.ok K) && ctOk c K) = true from e)).2
theorem SaysC.d {c : Ct} {fa : List He.Fa} {fn : List He.DefD} {K : PySem.W.Frag} (h : SaysC c fa fn K) : He.SaysD fa fn K := by
  have e := congrArg (fun z : He.AlD => z.1) h
  have e2 := congrArg (fun z : He.AlD => z.2) h
  have e1 := (He.ba (show (((fa.all fun f => f.ok K) && fn.all fun d => d.ok K) && ctOk c K) = true from e)).1
  unfold He.SaysD He.obsD He.valD
  rw [e1]
  exact congrArg (Prod.mk true) e2
end VI
namespace VI
open PySem PySem.Spec PyProof.Rows L2
/-! ### no reading -/
section
variable {X : Cx} {T : Tb} {W : WX} {e tg : Expr}
theorem pvt_never : PT X e (tB' T W (sTru (fun _ _ => .no))) := ⟨fun _ _ _ _ _ _ ⟨_, _, _, _, _, o⟩ => o.elim⟩
theorem piv_never : PI X tg e (tI' T W (fun _ _ => .no)) := ⟨fun _ _ _ _ _ _ ⟨_, _, _, _, _, o⟩ => o.elim⟩
end
end VI
end
section
namespace VI
open PySem PySem.Spec PyProof.Rows L2
/-! comprehensions of two clauses -/
def lcS2 (g : SG) (tt : SB) (it1 : SI) (own1 : List Nat) (g1 : SG) (tt1 : SB) (el : SV) (ρ : Ev) : List VI.D → Bs → R (List VI.D)
  | [], h => .ok [] h
  | d :: ds, h => match g d ρ h with
    | .ok ρ1 h1 => (match tt ρ1 h1 with
      | .ok true h2 => (match it1 ρ1 h2 with
        | .ok u h3 => (match lcS g1 tt1 el (wipeE ρ1 own1) u.1 (lockO u.2 h3) with
          | .ok ys h4 => (match lcS2 g tt it1 own1 g1 tt1 el ρ ds (unlO u.2 h4) with
            | .ok zs h5 => .ok (ys ++ zs) h5
            | _ => .no)
          | _ => .no)
        | _ => .no)
      | .ok false h2 => lcS2 g tt it1 own1 g1 tt1 el ρ ds h2
      | _ => .no)
    | _ => .no
def sLc2 (bx : Bool) (own own1 : List Nat) (it : SI) (g : SG) (tt : SB) (it1 : SI) (g1 : SG) (tt1 : SB) (el : SV) : SV := fun ρ h =>
  (it ρ h).bind fun u h1 => (unlR u.2 (lcS2 g tt it1 own1 g1 tt1 el (wipeE ρ own) u.1 (lockO u.2 h1))).bind fun ys h2 => newL bx ys h2
theorem wipe_wipe (own : List Nat) (σ : Sg) : L2.wipe (L2.wipe σ own) own = L2.wipe σ own := by
  apply List.ext_getElem?
  intro j
  by_cases hj : j ∈ own
  · have key : ∀ (os : List Nat) (τ : Sg), j ∈ os → (L2.wipe τ os)[j]? = (if j < τ.length then some none else none) := by
      intro os
      induction os with
      | nil => intro τ z; cases z
      | cons o os ih =>
        intro τ z
        unfold L2.wipe
        by_cases ho : o = j
        · subst ho
          rw [List.getElem?_set]
          simp [wipe_length]
        · rw [List.getElem?_set_ne ho]
          rcases List.mem_cons.mp z with z | z
          · exact absurd z.symm ho
          · exact ih τ z
    rw [key own _ hj, key own _ hj, wipe_length]
  · rw [wipe_out hj]
section
variable {X : Cx} {T : Tb} {W : WX} {μ μ' : Mu} {H H' : Hp} {h : Bs} {σ : Sg} {ρ : Ev} {D : Addr}
/-- the second clause's loop -/
theorem inner_imp {own1 : List Nat} {g1 : SG} {tt1 : SB} {el : SV} {J1 : It} {items : List VI.D} {lk : Option Nat} {acc : List V} {accD ys : List VI.D} {h5 : Bs} {Nx : Hp → Prop}
    (wk : Wk T J1 items (lockMu μ lk) H) (r : Rel T μ h H) (l : Lkb μ h lk) (hm : D ∈ μ.pr) (hD : H D = some (.lst acc)) (q : Reps T μ H accD acc) (e : RepE T μ H ρ σ)
    (c : lcS g1 tt1 el (wipeE ρ own1) items (lockO lk h) = .ok ys h5) (hlen : accD.length + ys.length ≤ sizeLine)
    (nx : ∀ (μ' : Mu) (H' : Hp) (acc' : List V), Stx (· = D) μ H μ' H' → Rel T μ' (unlO lk h5) H' → D ∈ μ'.pr → H' D = some (.lst acc') → Reps T μ' H' (accD ++ ys) acc' → Nx H') :
    ∃ W1 : Nat → Nat → Hp → Prop, (∃ m, W1 0 m H) ∧ ∀ j k H, W1 j k H → (J1.stop j H ∧ Nx H) ∨ (J1.go j H ∧ ∃ Nx1 : Hp → Prop, (∀ H', Nx1 H' → ∃ k', k' < k ∧ W1 (j + 1) k' H') ∧ ∀ x H', J1.yld j H x H' → tG' T own1 g1 x (L2.wipe σ own1) H' fun σ3 H5 => L2.wipe σ3 own1 = L2.wipe σ own1 ∧ tB' T noW tt1 σ3 H5 fun b H6 =>
        if b = true then tV T noW el σ3 H6 fun y H7 => ∃ acc, H7 D = some (.lst acc) ∧ acc.length < sizeLine ∧ Nx1 (upd H7 D (.lst (acc ++ [y]))) else Nx1 H6) := by
  have rL : Rel T (lockMu μ lk) (lockO lk h) H := r.lock lk fun b z => (l b z).2
  have eL : RepE T (lockMu μ lk) H ρ σ := e.ad lockMu_ad lockMu_pr
  have qL : Reps T (lockMu μ lk) H accD acc := Reps.ad lockMu_ad lockMu_pr _ _ q
  have hmL : D ∈ (lockMu μ lk).pr := by rw [lockMu_pr]; exact hm
  have hE : ∀ a, a = D → a ∈ (lockMu μ lk).pr := by rintro _ rfl; exact hmL
  have hA : ∀ a, a = D → a ∈ (lockMu μ lk).pr ∧ a ∉ (lockMu μ lk).ad ∧ ∃ o, H a = some o := by rintro _ rfl; exact ⟨hmL, by rw [lockMu_ad]; exact (r.prh _ hm).2, _, hD⟩
  let P : Nat → Hp → Prop := fun i H2 => ∃ μ2 hh acc2 accD2, Stx (· = D) (lockMu μ lk) H μ2 H2 ∧ Rel T μ2 hh H2 ∧ D ∈ μ2.pr ∧ H2 D = some (.lst acc2) ∧ Reps T μ2 H2 accD2 acc2 ∧ RepE T μ2 H2 ρ σ ∧
    ∃ ys', lcS g1 tt1 el (wipeE ρ own1) (items.drop i) hh = .ok ys' h5 ∧ accD2 ++ ys' = accD ++ ys
  refine ⟨fun i m H2 => m = items.length - i ∧ i ≤ items.length ∧ P i H2, ⟨_, rfl, Nat.zero_le _, lockMu μ lk, lockO lk h, acc, accD, Stx.one hD, rL, hmL, hD, qL, eL, ys, by simpa using c, rfl⟩, ?_⟩
  rintro i m H2 ⟨rfl, hi, μ2, hh, acc2, accD2, s2, r2, hm2, hD2, q2r, e2, ys', c2, ey⟩
  by_cases hlt : i < items.length
  · refine .inr ⟨wk.goesx _ i μ2 H2 hE hlt s2, P (i + 1), fun H' p => ⟨items.length - (i + 1), by omega, rfl, hlt, p⟩, fun x H3 y => ?_⟩
    obtain ⟨d, hd, s3, r3, rv⟩ := wk.yieldsx _ i μ2 H2 hh x H3 hE hlt s2 r2 y
    have ed : items.drop i = d :: items.drop (i + 1) := by
      rw [List.drop_eq_getElem_cons hlt]
      rw [List.getElem?_eq_getElem hlt] at hd
      cases hd; rfl
    rw [ed] at c2
    simp only [lcS] at c2
    have e3 : RepE T μ2 H3 ρ σ := e2.step s3
    refine ⟨μ2, wipeE ρ own1, hh, d, r3, e3.wipe own1, rv, ?_⟩
    cases q3 : g1 d (wipeE ρ own1) hh with
    | no => rw [q3] at c2; cases c2
    | ex x h3 => rw [q3] at c2; cases c2
    | ok ρ4 h4 =>
      rw [q3] at c2
      simp only at c2
      intro μ4 H4 σ4 s4 r4 e4 w4
      refine ⟨by rw [w4, wipe_wipe], μ4, ρ4, h4, r4, e4, ?_⟩
      have hm4 : D ∈ μ4.pr := s4.prs D (s3.prs D hm2)
      have hD3 : H3 D = some (.lst acc2) := s3.keep D _ hD2 (r2.prh D hm2).2
      have hD4 : H4 D = some (.lst acc2) := s4.keep D _ hD3 (r3.prh D hm2).2
      have q4r : Reps T μ4 H4 accD2 acc2 := Reps.step s4 _ _ (Reps.step s3 _ _ q2r)
      have s24 : Stx (· = D) (lockMu μ lk) H μ4 H4 := (s2.trans hA s3).trans hA s4
      have e24 : RepE T μ4 H4 ρ σ := e3.step s4
      cases q4 : tt1 ρ4 h4 with
      | no => rw [q4] at c2; cases c2
      | ex x h6 => rw [q4] at c2; cases c2
      | ok b h6 =>
        rw [q4] at c2
        cases b with
        | false =>
          simp only at c2
          intro μ5 H5 s5 r5
          simp only [Bool.false_eq_true, if_false]
          exact ⟨μ5, h6, acc2, accD2, s24.trans hA s5, r5, s5.prs D hm4, s5.keep D _ hD4 (r4.prh D hm4).2, Reps.step s5 _ _ q4r, e24.step s5, ys', c2, ey⟩
        | true =>
          simp only at c2
          intro μ5 H5 s5 r5
          simp only [if_true]
          refine ⟨μ5, ρ4, h6, r5, e4.step s5, ?_⟩
          have hm5 : D ∈ μ5.pr := s5.prs D hm4
          have hD5 : H5 D = some (.lst acc2) := s5.keep D _ hD4 (r4.prh D hm4).2
          cases q5 : el ρ4 h6 with
          | no => rw [q5] at c2; cases c2
          | ex x h7 => rw [q5] at c2; cases c2
          | ok z h7 =>
            rw [q5] at c2
            simp only at c2
            cases q6 : lcS g1 tt1 el (wipeE ρ own1) (items.drop (i + 1)) h7 with
            | no => rw [q6] at c2; cases c2
            | ex x h8 => rw [q6] at c2; cases c2
            | ok zs h8 =>
              rw [q6] at c2
              cases c2
              intro μ6 H6 v6 s6 r6 rv6
              have hm6 : D ∈ μ6.pr := s6.prs D hm5
              have hD6 : H6 D = some (.lst acc2) := s6.keep D _ hD5 (r5.prh D hm5).2
              have q6r : Reps T μ6 H6 accD2 acc2 := Reps.step s6 _ _ (Reps.step s5 _ _ q4r)
              have hl : acc2.length < sizeLine := by
                have h1 := q6r.length
                have h2 := congrArg List.length ey
                rw [List.length_append, List.length_cons, List.length_append] at h2
                omega
              refine ⟨acc2, hD6, hl, μ6, h7, acc2 ++ [v6], accD2 ++ [z], ((s24.trans hA s5).trans hA s6).put, r6.pr hm6, hm6, upd_same, Reps.pr hm6 _ _ (q6r.append (.one rv6)), ((e24.step s5).step s6).pr hm6, zs, q6, by rw [List.append_assoc]; exact ey⟩
  · have ei : i = items.length := by omega
    subst ei
    refine .inl ⟨wk.stopsx _ μ2 H2 hE s2, ?_⟩
    rw [List.drop_length] at c2
    simp only [lcS] at c2
    cases c2
    rw [List.append_nil] at ey
    subst ey
    obtain ⟨ru, su⟩ := Rel.unlockx lk (fun b z => (l b z).1) s2 r2
    exact nx _ H2 acc2 su ru hm2 hD2 (Reps.ad (μ := μ2) (μ' := { μ2 with lk := μ.lk }) rfl rfl _ _ q2r)
theorem lc2_imp {bx : Bool} {own own1 : List Nat} {it it1 : SI} {g g1 : SG} {tt tt1 : SB} {el : SV} : ∀ σ H Q, tV T W (sLc2 bx own own1 it g tt it1 g1 tt1 el) σ H Q → tLc2 (tI' T W it) (tG' T own g) (tB' T noW tt) (tI' T noW it1) (tG' T own1 g1) (tB' T noW tt1) (tV T noW el) own own1 σ H Q := fun σ H Q ⟨μ, ρ, h, r, e, o⟩ => by
  refine ⟨μ, ρ, h, r, e, ?_⟩
  unfold sLc2 at o
  cases q : it ρ h with
  | no => rw [q] at o; exact o
  | ex x h1 => rw [q] at o; exact o
  | ok u h1 =>
    rw [q] at o
    simp only [R.bind] at o
    intro μ1 H1 J s1 r1 l wk
    have o1 := OutV.step o s1
    obtain ⟨items, lk⟩ := u
    simp only at o1 l wk
    cases q2 : lcS2 g tt it1 own1 g1 tt1 el (wipeE ρ own) items (lockO lk h1) with
    | no => rw [q2] at o1; exact o1.elim
    | ex x h2 =>
      exfalso
      have key : ∀ (ds : List VI.D) (h : Bs) (x : Ex) (h' : Bs), lcS2 g tt it1 own1 g1 tt1 el (wipeE ρ own) ds h ≠ .ex x h' := by
        intro ds
        induction ds with
        | nil => intro h x h' z; simp [lcS2] at z
        | cons d ds ih =>
          intro h x h' z
          simp only [lcS2] at z
          repeat' split at z
          all_goals first | (cases z; done) | exact ih _ _ _ z
      exact key _ _ _ _ q2
    | ok ys h2 =>
      rw [q2] at o1
      simp only [unlR] at o1
      have o2 : OutV T W σ μ1 H1 Q (newL bx ys (unlO lk h2)) := o1
      have hlen := newL_len o2
      intro D hD
      have rL : Rel T (lockMu μ1 lk) (lockO lk h1) H1 := r1.lock lk fun b z => (l b z).2
      have eL : RepE T (lockMu μ1 lk) H1 ρ σ := (e.step s1).ad lockMu_ad lockMu_pr
      let P : Nat → Hp → Prop := fun i H => ∃ μ h acc accD, Stp (lockMu μ1 lk) H1 μ H ∧ Rel T μ h H ∧ D ∈ μ.pr ∧ H D = some (.lst acc) ∧ Reps T μ H accD acc ∧ RepE T μ H ρ σ ∧
        ∃ ys', lcS2 g tt it1 own1 g1 tt1 el (wipeE ρ own) (items.drop i) h = .ok ys' h2 ∧ accD ++ ys' = ys
      have h0 : P 0 (upd H1 D (.lst [])) := ⟨(lockMu μ1 lk).prot D, lockO lk h1, [], [], Stp.prot hD, rL.prot hD, List.mem_cons_self, upd_same, .nil, eL.step (Stp.prot hD), ys, by simpa using q2, rfl⟩
      refine ⟨fun i m H => m = items.length - i ∧ i ≤ items.length ∧ P i H, ⟨_, rfl, Nat.zero_le _, h0⟩, ?_⟩
      rintro i m H2 ⟨rfl, hi, μ2, hh, acc, accD, s2, r2, hm2, hD2, q2r, e2, ys', c2, ey⟩
      by_cases hlt : i < items.length
      · refine .inr ⟨wk.goes i μ2 H2 hlt s2, P (i + 1), fun H' p => ⟨items.length - (i + 1), by omega, rfl, hlt, p⟩, fun x H3 y => ?_⟩
        obtain ⟨d, hd, s3, r3, rv⟩ := wk.yields i μ2 H2 hh x H3 hlt s2 r2 y
        have ed : items.drop i = d :: items.drop (i + 1) := by
          rw [List.drop_eq_getElem_cons hlt]
          rw [List.getElem?_eq_getElem hlt] at hd
          cases hd; rfl
        rw [ed] at c2
        simp only [lcS2] at c2
        have e3 : RepE T μ2 H3 ρ σ := e2.step s3
        refine ⟨μ2, wipeE ρ own, hh, d, r3, e3.wipe own, rv, ?_⟩
        cases q3 : g d (wipeE ρ own) hh with
        | no => rw [q3] at c2; cases c2
        | ex x h3 => rw [q3] at c2; cases c2
        | ok ρ4 h4 =>
          rw [q3] at c2
          simp only at c2
          intro μ4 H4 σ4 s4 r4 e4 w4
          refine ⟨by rw [w4, wipe_wipe], μ4, ρ4, h4, r4, e4, ?_⟩
          have hm4 : D ∈ μ4.pr := s4.prs D (s3.prs D hm2)
          have hD3 : H3 D = some (.lst acc) := s3.keep D _ hD2 (r2.prh D hm2).2
          have hD4 : H4 D = some (.lst acc) := s4.keep D _ hD3 (r3.prh D hm2).2
          have q4r : Reps T μ4 H4 accD acc := Reps.step s4 _ _ (Reps.step s3 _ _ q2r)
          have s24 : Stp (lockMu μ1 lk) H1 μ4 H4 := (s2.trans s3).trans s4
          have e24 : RepE T μ4 H4 ρ σ := e3.step s4
          cases q4 : tt ρ4 h4 with
          | no => rw [q4] at c2; cases c2
          | ex x h5 => rw [q4] at c2; cases c2
          | ok b h5 =>
            rw [q4] at c2
            cases b with
            | false =>
              simp only at c2
              intro μ5 H5 s5 r5
              simp only [Bool.false_eq_true, if_false]
              exact ⟨μ5, h5, acc, accD, s24.trans s5, r5, s5.prs D hm4, s5.keep D _ hD4 (r4.prh D hm4).2, Reps.step s5 _ _ q4r, e24.step s5, ys', c2, ey⟩
            | true =>
              simp only at c2
              intro μ5 H5 s5 r5
              simp only [if_true]
              refine ⟨μ5, ρ4, h5, r5, e4.step s5, ?_⟩
              have hm5 : D ∈ μ5.pr := s5.prs D hm4
              have hD5 : H5 D = some (.lst acc) := s5.keep D _ hD4 (r4.prh D hm4).2
              cases q5 : it1 ρ4 h5 with
              | no => rw [q5] at c2; cases c2
              | ex x h6 => rw [q5] at c2; cases c2
              | ok u6 h6 =>
                rw [q5] at c2
                simp only at c2
                obtain ⟨items1, lk1⟩ := u6
                simp only at c2
                intro μ6 H6 J1 s6 r6 l6 wk6
                simp only at l6 wk6
                have hm6 : D ∈ μ6.pr := s6.prs D hm5
                have hD6 : H6 D = some (.lst acc) := s6.keep D _ hD5 (r5.prh D hm5).2
                have q6r : Reps T μ6 H6 accD acc := Reps.step s6 _ _ (Reps.step s5 _ _ q4r)
                have e6 : RepE T μ6 H6 ρ4 σ4 := (e4.step s5).step s6
                have s26 : Stp (lockMu μ1 lk) H1 μ6 H6 := (s24.trans s5).trans s6
                have e26 : RepE T μ6 H6 ρ σ := (e24.step s5).step s6
                cases q6 : lcS g1 tt1 el (wipeE ρ4 own1) items1 (lockO lk1 h6) with
                | no => rw [q6] at c2; cases c2
                | ex x h7 => rw [q6] at c2; cases c2
                | ok zs h7 =>
                  rw [q6] at c2
                  simp only at c2
                  cases q7 : lcS2 g tt it1 own1 g1 tt1 el (wipeE ρ own) (items.drop (i + 1)) (unlO lk1 h7) with
                  | no => rw [q7] at c2; cases c2
                  | ex x h8 => rw [q7] at c2; cases c2
                  | ok ws h8 =>
                    rw [q7] at c2
                    cases c2
                    have hl : accD.length + zs.length ≤ sizeLine := by
                      have z := congrArg List.length ey
                      rw [List.length_append, List.length_append] at z
                      omega
                    refine inner_imp wk6 r6 l6 hm6 hD6 q6r e6 q6 hl fun μ7 H7 acc7 s7 r7 hm7 hD7 q7r => ?_
                    exact ⟨μ7, unlO lk1 h7, acc7, accD ++ zs, s26.thenx hD hm6 s7, r7, hm7, hD7, q7r, e26.stepx s7 (by rintro _ rfl; exact hm6), ws, q7, by rw [List.append_assoc]; exact ey⟩
      · have ei : i = items.length := by omega
        subst ei
        refine .inl ⟨wk.stops μ2 H2 s2, ?_⟩
        rw [List.drop_length] at c2
        simp only [lcS2] at c2
        cases c2
        rw [List.append_nil] at ey
        subst ey
        obtain ⟨ru, su⟩ := Rel.unlock lk (fun b z => (l b z).1) s2 r2
        exact newL_prot o2 r1 hD su ru hm2 hD2 (Reps.ad (μ := μ2) (μ' := { μ2 with lk := μ1.lk }) rfl rfl _ _ q2r)
end
section
variable {Z : Cfg} {t : Tx} {k : Nat} {N : List Str} {sc : Scope} {raw : Option Scope} {X : Cx} {W : WX} {pos : Pos}
theorem v_lc2 {bx : Bool} {own : List (Str × Nat)} {own1 : List Nat} {tg iter tg1 iter1 elt : Expr} {ifs ifs1 : List Expr} {scope : Scope} {it it1 : SI} {g g1 : SG} {tt tt1 : SB} {el : SV} (h : XO Z t k N sc raw X W) (c1 : (blkC N sc scope own && noSet iter && noSet iter1 && own1.all fun i => (own.map (·.2)).contains i) = true) (hi : PI X tg iter (tI' Z.T W it))
    (hb : ∀ X' : Cx, XO Z t k N (relS scope sc) (some scope) X' noW → PG X' tg (tG' Z.T (own.map (·.2)) g) ∧ PTs X' ifs (tB' Z.T noW tt) ∧ PI X' tg1 iter1 (tI' Z.T noW it1) ∧ PG X' tg1 (tG' Z.T own1 g1) ∧ PTs X' ifs1 (tB' Z.T noW tt1) ∧ PE X' elt (tV Z.T noW el)) :
    PE X (.ListComp elt [⟨tg, iter, ifs, 0⟩, ⟨tg1, iter1, ifs1, 0⟩] scope pos) (tV Z.T W (sLc2 bx (own.map (·.2)) own1 it g tt it1 g1 tt1 el)) := by
  simp only [Bool.and_eq_true] at c1
  have ok : BlkOk X.N X.env.scope scope own := by rw [h.N, h.sc]; exact blkOk_by c1.1.1.1
  have q := fun s H C cl fp => hb _ (h.blk ok.kind s H C cl fp)
  exact PE.imp (pe_lc2 h.calm h.nd' hi ok (fun i z => by have := List.all_eq_true.mp c1.2 i z; simpa using this) (fun s H C cl fp => (q s H C cl fp).1) (fun s H C cl fp => (q s H C cl fp).2.1) (fun s H C cl fp => (q s H C cl fp).2.2.1) (fun s H C cl fp => (q s H C cl fp).2.2.2.1) (fun s H C cl fp => (q s H C cl fp).2.2.2.2.1) (fun s H C cl fp => (q s H C cl fp).2.2.2.2.2) (fsi c1.1.1.2) (fun env x => fsi c1.1.2 x)) lc2_imp
theorem s_setLc2 {bx : Bool} {i : Nat} {y : Str} {py spos : Pos} {own : List (Str × Nat)} {own1 : List Nat} {tg iter tg1 iter1 elt : Expr} {ifs ifs1 : List Expr} {scope : Scope} {it it1 : SI} {g g1 : SG} {tt tt1 : SB} {el : SV} (h : XO Z t k N sc raw X W)
    (g0 : (decide (N[i]? = some y) && decide (sc.names.lookup y = some .local) && swl scope y py pos) = true) (c1 : (blkC N sc scope own && noSet iter && noSet iter1 && own1.all fun i => (own.map (·.2)).contains i) = true) (hi : PI X tg iter (tI' Z.T W it))
    (hb : ∀ X' : Cx, XO Z t k N (relS scope sc) (some scope) X' noW → PG X' tg (tG' Z.T (own.map (·.2)) g) ∧ PTs X' ifs (tB' Z.T noW tt) ∧ PI X' tg1 iter1 (tI' Z.T noW it1) ∧ PG X' tg1 (tG' Z.T own1 g1) ∧ PTs X' ifs1 (tB' Z.T noW tt1) ∧ PE X' elt (tV Z.T noW el)) :
    PS X (.Assign [.Name y py] (.ListComp elt [⟨tg, iter, ifs, 0⟩, ⟨tg1, iter1, ifs1, 0⟩] scope pos) spos) (tS' Z.T W (ssAsg (sLc2 bx (own.map (·.2)) own1 it g tt it1 g1 tt1 el) (sgName i))) := by
  simp only [Bool.and_eq_true, decide_eq_true_eq, swl, Bool.not_eq_true'] at c1 g0
  have ok : BlkOk X.N X.env.scope scope own := by rw [h.N, h.sc]; exact blkOk_by c1.1.1.1
  have q := fun s H C cl fp => hb _ (h.blk ok.kind s H C cl fp)
  refine PS.imp (ps_setLc2 h.calm h.nd' (by rw [h.N]; exact g0.1.1) (by rw [h.sc]; exact g0.1.2) (sw_true (by rw [h.sc]; exact h.kd) (by rw [h.sc]; exact g0.1.2) g0.2.1 g0.2.2) hi ok (fun i z => by have := List.all_eq_true.mp c1.2 i z; simpa using this) (fun s H C cl fp => (q s H C cl fp).1) (fun s H C cl fp => (q s H C cl fp).2.1) (fun s H C cl fp => (q s H C cl fp).2.2.1) (fun s H C cl fp => (q s H C cl fp).2.2.2.1) (fun s H C cl fp => (q s H C cl fp).2.2.2.2.1) (fun s H C cl fp => (q s H C cl fp).2.2.2.2.2) (fsi c1.1.1.2) (fun env x => fsi c1.1.2 x)) fun D σ H w => ?_
  exact lc2_imp σ H _ (asgN_imp D σ H w)
end
end VI
end
section
namespace VI
open PySem PySem.Spec PyProof.Rows L2
/-! list(zip(a, b)) -/
section
variable {prog : Program} {w : World} {A : Around} {E : Value → Shared → Prop} {s : Shared} {z TI TO i1 i2 T : Addr} {fp1 fp2 : List Addr} {n1 n2 i : Nat} {P1 P2 : Nat → Value → Prop} {St1 St2 : Nat → Heap → Prop} {f : Bool} {oT : Obj}
theorem held_item {Q : Value → Shared → Prop} (S : ZipSep2 z TI TO i1 i2 fp1 fp2) (D1 : Draws prog w A i1 fp1 n1 P1 St1) (D2 : Draws prog w A i2 fp2 n2 P2 St2) (zz : IsZipHeld s.heap z TI TO T f) (tt : s.heap.get? T = some oT) (ti : IsTupOf2 s.heap TI (.ref i1) (.ref i2))
    (q1 : St1 i s.heap) (q2 : St2 i s.heap) (l1 : i < n1) (l2 : i < n2)
    (k : ∀ x y h' tk, P1 i x → P2 i y → IsZipHeld h' z TI TO T true → St1 (i + 1) h' → St2 (i + 1) h' → IsTupOf2 h' s.heap.objs.size x y → h'.objs.size = s.heap.objs.size + 1 → (∀ c o, c ≠ z → c ≠ i1 → c ≠ i2 → s.heap.get? c = some o → h'.get? c = some o) → Q (.ref s.heap.objs.size) { s with heap := h', toks := tk }) :
    wpAny (model prog w) A (Builtin.«zip.__next__» ⟨[.ref z], []⟩) (fun fin s' => ∃ v, fin = .done (.ret v) ∧ Q v s') E s := by
  obtain ⟨hp, g, d, t0, os⟩ := s
  refine wpAny_bind (m := field (.ref z) 2) (wpAny_field zz rfl (x := .bool false) rfl (wpAny_bind (m := field (.ref z) 3) (wpAny_field zz rfl (x := .ref TI) rfl (wpAny_bind (wpAny_seqItems ti rfl ?_)))))
  refine wpAny_bind (m := Builtin.SmallTypes.ownedTupleIsFree (.ref z)) (wpAny_tupleHeld_zip zz tt fun a za sa => ?_)
  replace sa : Heap.SameBut z hp a := sa
  simp only [Bool.false_eq_true, if_false]
  refine wpAny_bind ?_
  rw [← Array.forIn_toList]
  simp only [List.forIn_cons, List.forIn_nil]
  refine wpAny_bind (wpAny_bind (wpAny_holding (wpAny_bind (m := Builtin.SmallTypes.nextOf (.ref i1)) (D1.item i ⟨a, g, d, t0, os⟩ _ _ l1 (D1.over q1 sa S.zf1) fun x b tb px sb eb => wpAny_pure (wpAny_pure ?_)))))
  replace eb : Heap.SameBut i1 a b := eb
  refine wpAny_bind (wpAny_bind (wpAny_holding (wpAny_bind (m := Builtin.SmallTypes.nextOf (.ref i2)) (D2.item i ⟨b, g, d, tb, os⟩ _ _ l2 (D2.over (D2.over q2 sa S.zf2) eb S.sep1_2) fun y c tc py sc ec => wpAny_pure (wpAny_pure (wpAny_pure ?_))))))
  replace ec : Heap.SameBut i2 b c := ec
  refine wpAny_bind (m := newTuple [x, y]) (wpAny_newTuple (wpAny_pure ⟨_, rfl, ?_⟩))
  have hsz : c.objs.size = hp.objs.size := by rw [ec.1, eb.1, sa.1]
  have zc : IsZipHeld c z TI TO T true := ec.extBut _ _ S.zi2 (eb.extBut _ _ S.zi1 za)
  have kp : ∀ u o, u ≠ z → u ≠ i1 → u ≠ i2 → hp.get? u = some o → c.get? u = some o := fun u o c1 c2 c3 e => ec.extBut _ _ c3 (eb.extBut _ _ c2 (sa.extBut _ _ c1 e))
  have f1 : St1 (i + 1) c := D1.over sb ec S.sep2_1
  show Q (.ref c.objs.size) _
  have pp : IsTupOf2 (c.push { cls := .type "tuple", data := .seq #[x, y] }) c.objs.size x y := Heap.get?_push_size _ rfl
  have p4 : (c.push { cls := .type "tuple", data := .seq #[x, y] }).objs.size = c.objs.size + 1 := Heap.size_push ..
  rw [hsz] at pp p4 ⊢
  exact k x y _ tc px py (Heap.get?_push_of_some _ zc) (D1.frame _ _ _ f1 fun b hb o e => Heap.get?_push_of_some _ e) (D2.frame _ _ _ sc fun b hb o e => Heap.get?_push_of_some _ e) pp p4 fun u o c1 c2 c3 e => Heap.get?_push_of_some _ (kp u o c1 c2 c3 e)
theorem held_end {Q : Fin → Shared → Prop} (S : ZipSep2 z TI TO i1 i2 fp1 fp2) (D1 : Draws prog w A i1 fp1 n1 P1 St1) (D2 : Draws prog w A i2 fp2 n2 P2 St2) (zz : IsZipHeld s.heap z TI TO T f) (tt : s.heap.get? T = some oT) (ti : IsTupOf2 s.heap TI (.ref i1) (.ref i2))
    (q1 : St1 i s.heap) (q2 : St2 i s.heap) (l1 : i ≤ n1) (l2 : i ≤ n2) (hend : i = n1 ∨ i = n2)
    (k : ∀ h' tk e, (∀ c o, c ≠ z → c ≠ i1 → c ≠ i2 → s.heap.get? c = some o → h'.get? c = some o) → (∃ o, h'.get? e = some o ∧ o.cls = .type "StopIteration") → E (.ref e) { s with heap := h', toks := tk }) :
    wpAny (model prog w) A (Builtin.«zip.__next__» ⟨[.ref z], []⟩) Q E s := by
  obtain ⟨hp, g, d, t0, os⟩ := s
  refine wpAny_bind (m := field (.ref z) 2) (wpAny_field zz rfl (x := .bool false) rfl (wpAny_bind (m := field (.ref z) 3) (wpAny_field zz rfl (x := .ref TI) rfl (wpAny_bind (wpAny_seqItems ti rfl ?_)))))
  refine wpAny_bind (m := Builtin.SmallTypes.ownedTupleIsFree (.ref z)) (wpAny_tupleHeld_zip zz tt fun a za sa => ?_)
  replace sa : Heap.SameBut z hp a := sa
  simp only [Bool.false_eq_true, if_false]
  refine wpAny_bind ?_
  rw [← Array.forIn_toList]
  simp only [List.forIn_cons, List.forIn_nil]
  by_cases hx : i < n1
  · refine wpAny_bind (wpAny_bind (wpAny_holding (wpAny_bind (m := Builtin.SmallTypes.nextOf (.ref i1)) (D1.item i ⟨a, g, d, t0, os⟩ _ _ hx (D1.over q1 sa S.zf1) fun x b tb px sb eb => wpAny_pure (wpAny_pure ?_)))))
    replace eb : Heap.SameBut i1 a b := eb
    have hi : i = n2 := by omega
    exact wpAny_bind (wpAny_bind (wpAny_holding (wpAny_bind (m := Builtin.SmallTypes.nextOf (.ref i2)) (D2.done ⟨b, g, d, tb, os⟩ _ _ (by rw [← hi]; exact D2.over (D2.over q2 sa S.zf2) eb S.sep1_2) fun c e ec he => k c tb e (fun u o c1 c2 c3 v => ec u o c3 (eb.extBut _ _ c2 (sa.extBut _ _ c1 v))) he))))
  · have hi : i = n1 := by omega
    exact wpAny_bind (wpAny_bind (wpAny_holding (wpAny_bind (m := Builtin.SmallTypes.nextOf (.ref i1)) (D1.done ⟨a, g, d, t0, os⟩ _ _ (by rw [← hi]; exact D1.over q1 sa S.zf1) fun c e ec he => k c t0 e (fun u o c1 c2 c3 v => ec u o c2 (sa.extBut _ _ c1 v)) he))))
/-- the zip: its tuple is its own, or it is out -/
def ZipAt (h : Heap) (z TI TO i1 i2 : Addr) : Prop := (IsZip h z TI TO .none ∧ ∃ a b, IsTupOf2 h TO a b) ∨ ∃ T f oT, IsZipHeld h z TI TO T f ∧ h.get? T = some oT ∧ T ≠ z ∧ T ≠ i1 ∧ T ≠ i2 ∧ ∃ x y, oT = { cls := .type "tuple", data := .seq #[x, y] }
theorem ZipAt.keep {h h' : Heap} {z TI TO L i1 i2 : Addr} {o1 : Obj} {its : Array Value} {m : Nat} (x : ZipAt h z TI TO i1 i2) (hl : h.get? L = some o1) (h1 : o1.cls = .type "list") (k : ∀ b o, b ≠ L → h.get? b = some o → h'.get? b = some o) : ZipAt h' z TI TO i1 i2 := by
  have ne : ∀ {b o}, h.get? b = some o → o.cls ≠ .type "list" → b ≠ L := fun e n q => by subst q; rw [hl] at e; cases e; exact n h1
  rcases x with ⟨z1, a, b, t⟩ | ⟨T, f, oT, z1, t, n1, n2, n3, x, y, rfl⟩
  · exact .inl ⟨k _ _ (ne z1 (fun q => by injection q with q; exact absurd q (by decide))) z1, a, b, k _ _ (ne t (fun q => by injection q with q; exact absurd q (by decide))) t⟩
  · exact .inr ⟨T, f, _, k _ _ (ne z1 (fun q => by injection q with q; exact absurd q (by decide))) z1, k _ _ (ne t (fun q => by injection q with q; exact absurd q (by decide))) t, n1, n2, n3, x, y, rfl⟩
theorem next_zip {Q : Option Value → Shared → Prop} (S : ZipSep2 z TI TO i1 i2 fp1 fp2) (D1 : Draws prog w A.in1 i1 fp1 n1 P1 St1) (D2 : Draws prog w A.in1 i2 fp2 n2 P2 St2) (zz : ZipAt s.heap z TI TO i1 i2) (ti : IsTupOf2 s.heap TI (.ref i1) (.ref i2))
    (q1 : St1 i s.heap) (q2 : St2 i s.heap) (l1 : i < n1) (l2 : i < n2)
    (k : ∀ x y h' tk, P1 i x → P2 i y → ZipAt h' z TI TO i1 i2 → St1 (i + 1) h' → St2 (i + 1) h' → IsTupOf2 h' s.heap.objs.size x y → h'.objs.size = s.heap.objs.size + 1 → (∀ c o, c ≠ z → c ≠ TO → c ≠ i1 → c ≠ i2 → s.heap.get? c = some o → h'.get? c = some o) → Q (some (.ref s.heap.objs.size)) { s with heap := h', toks := tk }) :
    wpAny (model prog w) A (pyNext (.ref z)) Q E s := by
  have lt : ∀ {c o}, s.heap.get? c = some o → s.heap.objs.size ≠ c := fun e => Nat.ne_of_gt (Heap.lt_size e)
  have m1 : s.heap.objs.size ≠ i1 := by obtain ⟨_, e⟩ := D1.live _ _ q1; exact lt e
  have m2 : s.heap.objs.size ≠ i2 := by obtain ⟨_, e⟩ := D2.live _ _ q2; exact lt e
  rcases zz with ⟨zz, a, b, to⟩ | ⟨T, f, oT, zz, tt, hz', h1', h2', x0, y0, rfl⟩
  · exact wpAny_pyNext_zipD2_item S D1 D2 zz ti to q1 q2 l1 l2 fun x y h' tk p1 p2 z' to' r1 r2 pr hs kp => k x y h' tk p1 p2 (.inr ⟨_, false, _, z', pr, lt zz, m1, m2, x, y, rfl⟩) r1 r2 pr hs kp
  · have ty : s.TypeIs (.ref z) "zip" := ⟨_, zz, rfl⟩
    unfold pyNext
    exact wpAny_bind (wpAny_attempt (wpAny_callSpecial?_slot (name := Str.ofString "__next__") ty F.slot_zip_next (wpAny_call_entry F.slot_zip_next ty F.entry_zip_next
      (held_item S D1 D2 zz tt ti q1 q2 l1 l2 fun x y h' tk p1 p2 z' r1 r2 pr hs kp => wpAny_pure (k x y h' tk p1 p2 (.inr ⟨T, true, _, z', kp _ _ hz' h1' h2' tt, hz', h1', h2', x0, y0, rfl⟩) r1 r2 pr hs fun c o c1 _ c3 c4 e => kp c o c1 c3 c4 e)) (F.args_zip_next_1 _))))
theorem stop_zip {Q : Option Value → Shared → Prop} (S : ZipSep2 z TI TO i1 i2 fp1 fp2) (D1 : Draws prog w A.in1 i1 fp1 n1 P1 St1) (D2 : Draws prog w A.in1 i2 fp2 n2 P2 St2) (zz : ZipAt s.heap z TI TO i1 i2) (ti : IsTupOf2 s.heap TI (.ref i1) (.ref i2))
    (q1 : St1 i s.heap) (q2 : St2 i s.heap) (l1 : i ≤ n1) (l2 : i ≤ n2) (he : i = n1 ∨ i = n2)
    (k : ∀ h' tk, (∀ c o, c ≠ z → c ≠ TO → c ≠ i1 → c ≠ i2 → s.heap.get? c = some o → h'.get? c = some o) → Q none { s with heap := h', toks := tk }) : wpAny (model prog w) A (pyNext (.ref z)) Q E s := by
  rcases zz with ⟨zz, a, b, to⟩ | ⟨T, f, oT, zz, tt, _⟩
  · exact wpAny_pyNext_zipD2_end S D1 D2 zz ti to q1 q2 l1 l2 he k
  · have ty : s.TypeIs (.ref z) "zip" := ⟨_, zz, rfl⟩
    unfold pyNext
    exact wpAny_bind (wpAny_attempt (wpAny_callSpecial?_slot (name := Str.ofString "__next__") ty F.slot_zip_next (wpAny_call_entry F.slot_zip_next ty F.entry_zip_next
      (held_end S D1 D2 zz tt ti q1 q2 l1 l2 he fun h' tk e kp ⟨o, ho, hc⟩ => wpAny_bind (wpAny_isInstance (T := "StopIteration") (b := true) ⟨o, ho, hc⟩ isSubtype_stop (wpAny_pure (k _ _ fun c o c1 _ c3 c4 e => kp c o c1 c3 c4 e)))) (F.args_zip_next_1 _))))
end
/-- what list(zip(..)) leaves -/
structure LZ (H H' : Hp) (L : Addr) (xs ys vs : List V) (n : Nat) : Prop where
  ext : ∀ a o, H a = some o → H' a = some o
  no : H L = none
  at_ : H' L = some (.lst vs)
  len : vs.length = n
  item : ∀ j, j < n → ∃ a x y, vs[j]? = some (.ref a) ∧ H a = none ∧ xs[j]? = some x ∧ ys[j]? = some y ∧ H' a = some (.tup [x, y])
section
variable {X : Cx} {pins : List (Addr × Obj)} {σ : Sg} {z TI TO i1 i2 L : Addr} {fp1 fp2 : List Addr} {us1 us2 : List Value} {St1 St2 : Nat → Heap → Prop} {xs ys : List V} {H0 : Hp} {A : Around} {R : Result → Shared → Prop}
theorem zip_loop (S : ZipSep2 z TI TO i1 i2 fp1 fp2) (D1 : Draws X.prog X.w A.in1.in1 i1 fp1 us1.length (fun i v => us1[i]? = some v) St1) (D2 : Draws X.prog X.w A.in1.in1 i2 fp2 us2.length (fun i v => us2[i]? = some v) St2) (r1 : Vals xs us1) (r2 : Vals ys us2)
    (hn : min us1.length us2.length ≤ sizeLine) (hL1 : L ∉ fp1) (hL2 : L ∉ fp2) (nL : L ≠ z ∧ L ≠ TI ∧ L ≠ TO ∧ L ≠ i1 ∧ L ≠ i2)
    (fin : ∀ H' s' vs, Inv X pins σ H' s' → LZ H0 H' L xs ys vs (min us1.length us2.length) → R (.ok (.ret .none)) s') :
    ∀ (k i : Nat) (H : Hp) (s : Shared) (vs : List V), min us1.length us2.length - i = k → i ≤ min us1.length us2.length → Inv X pins σ H s → LZ H0 H L xs ys vs i → (∀ b ∈ [z, TO, i1, i2], FpOk X pins H b) → TO < s.heap.objs.size → ZipAt s.heap z TI TO i1 i2 → IsTupOf2 s.heap TI (.ref i1) (.ref i2) → St1 i s.heap → St2 i s.heap →
      codeAny (model X.prog X.w) A (.builtin "list.extend.loop" ⟨[.ref L, .ref z, .none], []⟩) R s := by
  intro k
  induction k with
  | zero =>
    intro i H s vs hk hi I lz hf hto zz ti q1 q2
    have e : i = min us1.length us2.length := by omega
    refine codeAny_builtin PySem.F.entry_extend_loop (by
      rw [Around.under_plainId PySem.F.plain_extend_loop _]
      refine wpAny_bind (m := pyNext (.ref z)) (stop_zip (A := A.in1) S D1 D2 zz ti q1 q2 (by omega) (by omega) (by omega) fun h' tk kp => wpAny_pure ?_)
      exact fin H _ vs (I.turnedL (t' := tk) (ch := [z, TO, i1, i2]) (fun c o hb q => kp c o (fun x => hb (by simp [x])) (fun x => hb (by simp [x])) (fun x => hb (by simp [x])) (fun x => hb (by simp [x])) q) hf) (by rw [← e]; exact lz))
  | succ k ih =>
    intro i H s vs hk hi I lz hf hto zz ti q1 q2
    have a1 : i < us1.length := by omega
    have a2 : i < us2.length := by omega
    refine codeAny_builtin PySem.F.entry_extend_loop (by
      rw [Around.under_plainId PySem.F.plain_extend_loop _]
      refine wpAny_bind (m := pyNext (.ref z)) (next_zip (A := A.in1) S D1 D2 zz ti q1 q2 a1 a2 fun u v h' tk p1 p2 zz' s1 s2 pr hs kp => ?_)
      obtain ⟨x, ex, rx⟩ : ∃ x, xs[i]? = some x ∧ RelV x u := by
        obtain ⟨u', eu, ru⟩ := r1.get (List.getElem?_eq_getElem (l := xs) (i := i) (by rw [r1.length]; exact a1))
        rw [p1] at eu; cases eu
        exact ⟨_, List.getElem?_eq_getElem _, ru⟩
      obtain ⟨y, ey, ry⟩ : ∃ y, ys[i]? = some y ∧ RelV y v := by
        obtain ⟨u', eu, ru⟩ := r2.get (List.getElem?_eq_getElem (l := ys) (i := i) (by rw [r2.length]; exact a2))
        rw [p2] at eu; cases eu
        exact ⟨_, List.getElem?_eq_getElem _, ru⟩
      have I1 : Inv X pins σ (upd H s.heap.objs.size (.tup [x, y])) { s with heap := h', toks := tk } :=
        I.turnedNew (t' := tk) (ch := [z, TO, i1, i2]) (fun c o hb q => kp c o (fun x => hb (by simp [x])) (fun x => hb (by simp [x])) (fun x => hb (by simp [x])) (fun x => hb (by simp [x])) q) hf (Nat.le_refl _)
          ⟨by show 2 ≤ sizeLine; decide, [u, v], .cons rx (.cons ry .nil), ⟨_, pr, rfl, _, rfl⟩⟩
      have hNn : H s.heap.objs.size = none := I.hok.fresh (Nat.le_refl _)
      have hNL : L ≠ s.heap.objs.size := ne_of_none lz.at_ hNn
      have hL' : upd H s.heap.objs.size (.tup [x, y]) L = some (.lst vs) := by rw [upd_ne hNL]; exact lz.at_
      obtain ⟨_, acc, m, rv, eL⟩ := (show ObjOk X.prog X.w _ _ L (.lst vs) from I1.hok L _ hL')
      replace eL : h'.get? L = some { cls := .type "list", data := .seq acc.toArray m } := eL
      have hal : acc.length = i := by rw [← rv.length, lz.len]
      have hiz : i < sizeLine := by omega
      have up : ∀ b o, b ≠ L → h'.get? b = some o → (h'.update L (Obj.mapSeq (·.push (Value.ref s.heap.objs.size)))).get? b = some o := fun b o hb e => (Heap.get?_update_other _ _ (Ne.symm hb)).trans e
      have eL2 : (h'.update L (Obj.mapSeq (·.push (Value.ref s.heap.objs.size)))).get? L = some { cls := .type "list", data := .seq (acc ++ [Value.ref s.heap.objs.size]).toArray (m + 1) } ∨ ∃ m', (h'.update L (Obj.mapSeq (·.push (Value.ref s.heap.objs.size)))).get? L = some { cls := .type "list", data := .seq (acc ++ [Value.ref s.heap.objs.size]).toArray m' } := by
        right
        have e := Heap.get?_update_self (Obj.mapSeq (·.push (Value.ref s.heap.objs.size))) eL rfl
        simp only [Obj.mapSeq, List.push_toArray] at e
        exact ⟨_, e⟩
      refine wpAny_bind (m := updateSeq L (·.push (Value.ref s.heap.objs.size))) (wpAny_updateSeq (s := { s with heap := h', toks := tk }) eL rfl (wpAny_pure ⟨plainId_quiet PySem.F.plain_extend_loop _, ?_⟩) (by simp only [List.size_toArray]; omega) (by simp only [Array.size_push, List.size_toArray]; omega))
      obtain ⟨m', eL3⟩ : ∃ m', (h'.update L (Obj.mapSeq (·.push (Value.ref s.heap.objs.size)))).get? L = some { cls := .type "list", data := .seq (acc ++ [Value.ref s.heap.objs.size]).toArray m' } := by
        rcases eL2 with e | e
        · exact ⟨_, e⟩
        · exact e
      have I2 : Inv X pins σ (upd (upd H s.heap.objs.size (.tup [x, y])) L (.lst (vs ++ [.ref s.heap.objs.size]))) { s with heap := h'.update L (Obj.mapSeq (·.push (Value.ref s.heap.objs.size))), toks := tk } :=
        I1.write (t' := tk) (x := L) (e := L) (by rw [hL']; trivial) (.inl rfl) (fun b o hb e => up b o hb e) ⟨_, eL3⟩
          ⟨by rw [List.length_append, lz.len]; show i + 1 ≤ sizeLine; omega, _, m', rv.append (.cons rfl .nil), eL3⟩
      refine ih (i + 1) _ _ (vs ++ [.ref s.heap.objs.size]) (by omega) (by omega) I2 ⟨fun a o h => ?_, lz.no, upd_same, by rw [List.length_append, lz.len]; rfl, fun j hj => ?_⟩ (fun b hb => ?_) (by show TO < (h'.update L _).objs.size; rw [(Heap.SameBut.update ..).1, hs]; exact Nat.lt_succ_of_lt hto) ?_ (up _ _ nL.2.1.symm (kp _ _ S.TIz S.TITO S.TIi1 S.TIi2 ti)) (D1.frame _ _ _ s1 fun b hb o e => up b o (fun q => hL1 (q ▸ hb)) e) (D2.frame _ _ _ s2 fun b hb o e => up b o (fun q => hL2 (q ▸ hb)) e)
      · rw [upd_ne (ne_of_none h lz.no), upd_ne (ne_of_none (lz.ext a o h) hNn)]
        exact lz.ext a o h
      · by_cases hji : j < i
        · obtain ⟨a, x', y', e1, e2, e3, e4, e5⟩ := lz.item j hji
          refine ⟨a, x', y', by rw [List.getElem?_append_left (by rw [lz.len]; exact hji)]; exact e1, e2, e3, e4, ?_⟩
          rw [upd_ne (ne_of e5 lz.at_ (by intro q; cases q)), upd_ne (ne_of_none e5 hNn)]
          exact e5
        · have : j = i := by omega
          subst this
          refine ⟨s.heap.objs.size, x, y, by rw [← lz.len]; simp, ?_, ex, ey, ?_⟩
          · cases q : H0 s.heap.objs.size with
            | none => rfl
            | some o => have := lz.ext _ _ q; rw [hNn] at this; cases this
          · rw [upd_ne (Ne.symm hNL)]; exact upd_same
      · obtain ⟨f0, f1⟩ := hf b hb
        refine ⟨?_, f1⟩
        have hbL : b ≠ L := fun q => by subst q; rw [lz.at_] at f0; cases f0
        have hbN : b ≠ s.heap.objs.size := by
          rcases (by simpa using hb : b = z ∨ b = TO ∨ b = i1 ∨ b = i2) with q | q | q | q
          · rw [q]; rcases zz with ⟨e, _⟩ | ⟨_, _, _, e, _⟩ <;> exact Nat.ne_of_lt (Heap.lt_size e)
          · rw [q]; exact Nat.ne_of_lt hto
          · rw [q]; obtain ⟨_, e⟩ := D1.live _ _ q1; exact Nat.ne_of_lt (Heap.lt_size e)
          · rw [q]; obtain ⟨_, e⟩ := D2.live _ _ q2; exact Nat.ne_of_lt (Heap.lt_size e)
        rw [upd_ne hbL, upd_ne hbN]; exact f0
      · exact zz'.keep (its := #[]) (m := 0) eL rfl up)
theorem zip_noLen : typeLookup (.type "zip") "__len__" = pure none := by rw [typeLookup_type, builtinLookup_eq_fast]; kernel_rfl
theorem zip_noHint : typeLookup (.type "zip") "__length_hint__" = pure none := by rw [typeLookup_type, builtinLookup_eq_fast]; kernel_rfl
theorem list_zip {H : Hp} {s : Shared} {Q : VK} (I : Inv X pins σ H s) (S : ZipSep2 z TI TO i1 i2 fp1 fp2) (D1 : ∀ A', A'.handled = none → Draws X.prog X.w A' i1 fp1 us1.length (fun i v => us1[i]? = some v) St1) (D2 : ∀ A', A'.handled = none → Draws X.prog X.w A' i2 fp2 us2.length (fun i v => us2[i]? = some v) St2) (r1 : Vals xs us1) (r2 : Vals ys us2)
    (hn : min us1.length us2.length ≤ sizeLine) (hA : X.A.handled = none) (b1 : ∀ b ∈ fp1, b < s.heap.objs.size) (b2 : ∀ b ∈ fp2, b < s.heap.objs.size) (hf : ∀ b ∈ [z, TO, i1, i2], FpOk X pins H b)
    (zz : IsZip s.heap z TI TO .none) {p q : Value} (to : IsTupOf2 s.heap TO p q) (ti : IsTupOf2 s.heap TI (.ref i1) (.ref i2)) (q1 : St1 0 s.heap) (q2 : St2 0 s.heap)
    (fin : ∀ L H' vs, LZ H H' L xs ys vs (min us1.length us2.length) → Q (.ref L) H') :
    wpAny (model X.prog X.w) X.A (call (.type "list") [.ref z]) (EP X pins σ Q) X.xe s := by
  refine callType_codes (Q₁ := fun ob t => ob = .ref s.heap.objs.size ∧ t = { s with heap := s.heap.push { cls := .type "list", data := .seq #[] } }) PySem.F.called_list (PySem.F.typeCall_list_1 _) PySem.F.entry_list_init (code_list_new _ ⟨rfl, rfl⟩) fun ob t ⟨e1, e2⟩ => ?_
  subst e1 e2
  have gS : (s.heap.push { cls := .type "list", data := .seq #[] }).get? s.heap.objs.size = some { cls := .type "list", data := .seq #[] } := Heap.get?_push_size _ rfl
  have nS : ∀ {b o}, s.heap.get? b = some o → b ≠ s.heap.objs.size := fun e => Nat.ne_of_lt (Heap.lt_size e)
  refine ⟨⟨_, gS, rfl⟩, PySem.F.args_list_init_2 _ _, ?_⟩
  -- old items, emptied, then extended
  refine wpAny_bind (m := Builtin.List.listItems (.ref s.heap.objs.size)) ?_
  unfold Builtin.List.listItems
  refine wpAny_bind (wpAny_seqItems gS rfl (wpAny_pure (wpAny_bind (m := updateSeq s.heap.objs.size (fun _ => #[])) (wpAny_updateSeq gS rfl (wpAny_bind (wpAny_letGo ?_))))))
  have g2 := Heap.get?_update_self (Obj.mapSeq (fun _ => (#[] : Array Value))) gS rfl
  have o2 : ∀ b o, s.heap.get? b = some o → ((s.heap.push { cls := .type "list", data := .seq #[] }).update s.heap.objs.size (Obj.mapSeq (fun _ => (#[] : Array Value)))).get? b = some o :=
    fun b o e => (Heap.get?_update_other _ _ (Ne.symm (nS e))).trans (Heap.get?_push_of_some _ e)
  have z2 := o2 _ _ zz
  unfold Builtin.List.listExtendWith
  refine wpAny_bind (wpAny_typeOf (T := "zip") ⟨_, z2, rfl⟩ ?_)
  have k1 : Builtin.List.listSameRef (.ref s.heap.objs.size) (.ref z) = false := by simp [Builtin.List.listSameRef, Ne.symm (nS zz)]
  have k2 : (Value.type "zip" == Value.type "list") = false := by decide
  have k3 : (Value.type "zip" == Value.type "tuple") = false := by decide
  simp only [k1, k2, k3, Bool.or_false, Bool.false_eq_true, if_false]
  refine wpAny_bind (wpAny_pyIter_zip z2 (wpAny_bind (wpAny_holding ?_)))
  unfold Builtin.List.listLengthHint
  refine wpAny_bind (wpAny_specialOf (T := "zip") ⟨_, z2, rfl⟩ zip_noLen (wpAny_bind (m := specialOf (Value.ref z) (Str.ofString "__length_hint__")) (wpAny_specialOf (T := "zip") ⟨_, z2, rfl⟩ zip_noHint (wpAny_pure (wpAny_bind (m := rule "list.extend.makes-room") (wpAny_rule ?_))))))
  refine wpAny_bind (m := updateSeq s.heap.objs.size (·.push .none) >>= fun _ => updateSeq s.heap.objs.size (·.pop)) (wpAny_bind (wpAny_updateSeq g2 rfl ?_))
  have g3 := Heap.get?_update_self (Obj.mapSeq (·.push Value.none)) g2 rfl
  refine wpAny_updateSeq (hz := by seq_fits) g3 rfl ?_
  have g4 := Heap.get?_update_self (Obj.mapSeq (·.pop)) g3 rfl
  have o4 : ∀ b o, s.heap.get? b = some o → ((((s.heap.push { cls := .type "list", data := .seq #[] }).update s.heap.objs.size (Obj.mapSeq (fun _ => (#[] : Array Value)))).update s.heap.objs.size (Obj.mapSeq (·.push Value.none))).update s.heap.objs.size (Obj.mapSeq (·.pop))).get? b = some o :=
    fun b o e => (Heap.get?_update_other _ _ (Ne.symm (nS e))).trans ((Heap.get?_update_other _ _ (Ne.symm (nS e))).trans (o2 b o e))
  have hN : H s.heap.objs.size = none := I.hok.fresh (Nat.le_refl _)
  obtain ⟨m, g5⟩ : ∃ m, ((((s.heap.push { cls := .type "list", data := .seq #[] }).update s.heap.objs.size (Obj.mapSeq (fun _ => (#[] : Array Value)))).update s.heap.objs.size (Obj.mapSeq (·.push Value.none))).update s.heap.objs.size (Obj.mapSeq (·.pop))).get? s.heap.objs.size = some { cls := .type "list", data := .seq ([] : List Value).toArray m } := by
    simp only [Obj.mapSeq] at g4
    exact ⟨_, g4⟩
  have I1 : Inv X pins σ (upd H s.heap.objs.size (.lst [])) _ := I.laid (t' := s.toks) o4 (Nat.le_refl _) ⟨Nat.zero_le _, [], m, .nil, g5⟩
  have live1 : i1 < s.heap.objs.size := by obtain ⟨_, e⟩ := (D1 X.A hA).live _ _ q1; exact Heap.lt_size e
  have live2 : i2 < s.heap.objs.size := by obtain ⟨_, e⟩ := (D2 X.A hA).live _ _ q2; exact Heap.lt_size e
  refine wpAny_pure ⟨plainId_quiet PySem.F.plain_extend_loop _, zip_loop (X := X) (A := X.A.in1) (pins := pins) (σ := σ) (H0 := H) (L := s.heap.objs.size) S (D1 _ hA) (D2 _ hA) r1 r2 hn (fun h => Nat.lt_irrefl _ (b1 _ h)) (fun h => Nat.lt_irrefl _ (b2 _ h)) ⟨Ne.symm (nS zz), Ne.symm (nS ti), Ne.symm (nS to), Nat.ne_of_gt live1, Nat.ne_of_gt live2⟩ (fun H' s' vs I' lz => ?_)
    _ 0 _ _ [] rfl (Nat.zero_le _) I1 ⟨fun a o h => by rw [upd_ne (ne_of_none h hN)]; exact h, hN, upd_same, rfl, fun j hj => absurd hj (Nat.not_lt_zero _)⟩ (fun b hb => ?_) ?_ (.inl ⟨o4 _ _ zz, _, _, o4 _ _ to⟩) (o4 _ _ ti) ((D1 X.A hA).frame _ _ _ q1 fun b hb o e => o4 b o e) ((D2 X.A hA).frame _ _ _ q2 fun b hb o e => o4 b o e)⟩
  · exact ⟨rfl, .ref s.heap.objs.size, H', I', rfl, fin _ _ _ lz⟩
  · obtain ⟨f0, f1⟩ := hf b hb
    refine ⟨?_, f1⟩
    have : b ≠ s.heap.objs.size := by
      rcases (by simpa using hb : b = z ∨ b = TO ∨ b = i1 ∨ b = i2) with q | q | q | q
      · rw [q]; exact nS zz
      · rw [q]; exact nS to
      · rw [q]; exact Nat.ne_of_lt live1
      · rw [q]; exact Nat.ne_of_lt live2
    rw [upd_ne this]; exact f0
  · exact Heap.lt_size (o4 _ _ to)
/-- a list or a tuple as a source -/
theorem seq_src {H : Hp} {s : Shared} {a : Addr} (I : Inv X pins σ H s) (h : SqL X.K H a xs ∨ SqT X.K H a xs) : a < s.heap.objs.size ∧ ∃ (us : List Value) (o : Obj) (G : Heap → Prop), Vals xs us ∧ Begins (.ref a) o G ∧ G s.heap ∧
    ∀ it, it ≠ a → ∃ St : Nat → Heap → Prop, (∀ h' : Heap, G h' → h'.get? it = some o → St 0 h') ∧ ∀ A' : Around, A'.handled = none → Draws X.prog X.w A' it [it, a] us.length (fun i v => us[i]? = some v) St := by
  rcases h with h | h
  · obtain ⟨us, rv, p, _⟩ := I.list h
    refine ⟨p.lt, us, _, _, rv, begins_list a us.toArray, p.isList, fun it hne => ⟨fun i h => h.IsListIter it a i ∧ h.IsList a us.toArray, fun h' g e => ⟨⟨_, e, rfl, rfl⟩, g⟩, fun A' hh => ?_⟩⟩
    simpa using Draws.list (prog := X.prog) (w := X.w) (A := A') hh it a (Ne.symm hne) us.toArray
  · obtain ⟨us, rv, p, _⟩ := I.tuple h
    refine ⟨by obtain ⟨_, z, _⟩ := p; exact Heap.lt_size z, us, _, _, rv, begins_tuple a us.toArray, p, fun it hne => ⟨fun i h => h.IsTupleIter it a i ∧ h.IsTuple a us.toArray, fun h' g e => ⟨⟨_, e, rfl, rfl⟩, g⟩, fun A' hh => ?_⟩⟩
    simpa using Draws.tuple (prog := X.prog) (w := X.w) (A := A') hh it a (Ne.symm hne) us.toArray
def tLZ (K : PySem.W.Frag) (ta : TA) : TE := fun σ H Q => ta σ H fun vs H1 => ∃ a b xs ys, vs = [.ref a, .ref b] ∧ (SqL K H1 a xs ∨ SqT K H1 a xs) ∧ (SqL K H1 b ys ∨ SqT K H1 b ys) ∧ min xs.length ys.length ≤ sizeLine ∧ ∀ L H' vs, LZ H1 H' L xs ys vs (min xs.length ys.length) → Q (.ref L) H'
theorem pe_lz {e e2 : Expr} {ta : TA} {p1 p2 pos2 pos : Pos} (hgL : Gl X "list") (hmL : X.mg "list" = none) (hgZ : Gl X "zip") (hmZ : X.mg "zip" = none) (ha : PA X [e, e2] ta) (hc : X.calm = true)
    (hs : starEach [e, e2] X.env = (false, eval e X.env) :: starEach [e2] X.env) (hpl : (backTo pos2 (starEach [e2] X.env)).any (·.1) = false) :
    PE X (.Call (.Name "list" p1) [.Call (.Name "zip" p2) [e, e2] [] pos2] [] pos) (tLZ X.K ta) := by
  refine ⟨fun pins s σ H Q I h => Call_ (ld_blt I hgL hmL (show bootBuiltins "list" = some (.type "list") by decide +kernel) (PyProof.Rows.callWith_type1 (PyProof.Rows.args_cons ?_ rfl) rfl rfl))⟩
  refine Call_ (ld_blt I hgZ hmZ PyProof.Rows.boot_zip (PyProof.Rows.callWith_type1 (thn (ha.run pos2 pins s σ H _ I h) fun us s1 ⟨vs, H1, I1, rr, a, b, xs, ys, ex, hx, hy, hn, q⟩ => ?_) hs hpl))
  subst ex
  cases rr with
  | cons r rr =>
    cases rr with
    | cons r' rr =>
      cases rr
      cases r
      cases r'
      obtain ⟨la, ua, oa, Ga, va, Ba, ga, da⟩ := seq_src I1 hx
      obtain ⟨lb, ub, ob, Gb, vb, Bb, gb, db⟩ := seq_src I1 hy
      obtain ⟨Sa, sa0, Da⟩ := da s1.heap.objs.size (Nat.ne_of_gt la)
      obtain ⟨Sb, sb0, Db⟩ := db (s1.heap.objs.size + 1) (Nat.ne_of_gt (Nat.lt_succ_of_lt lb))
      refine zip_begins2 Ba Bb ga gb fun h' hz hTI hTO g1 g2 hsz hk => PyProof.Rows.args_nil ?_
      have I2 : Inv X pins σ H1 { s1 with heap := h' } := I1.kept (t' := s1.toks) hk
      have lt : ∀ k, k < 5 → s1.heap.objs.size + k < h'.objs.size := fun k hk => by rw [hsz]; omega
      have fp : ∀ k, FpOk X pins H1 (s1.heap.objs.size + k) := fun k => I1.fpOk (Nat.le_add_right _ _) (I1.hok.fresh (Nat.le_add_right _ _))
      refine list_zip (us1 := ua) (us2 := ub) (xs := xs) (ys := ys) (St1 := Sa) (St2 := Sb) I2 (zip_sep2 (N := s1.heap.objs.size) (fp1 := [a]) (fp2 := [b]) (fun c hc => by rw [List.mem_singleton.mp hc]; exact la) (fun c hc => by rw [List.mem_singleton.mp hc]; exact lb)) Da Db va vb (by rw [← va.length, ← vb.length]; exact hn) (I1.ok.hd hc) (fun c hc => ?_) (fun c hc => ?_) (fun c hc => ?_) hz hTO hTI (sa0 h' (Ba.keeps _ _ ga hk) g1) (sb0 h' (Bb.keeps _ _ gb hk) g2) fun L H' vs lz => q L H' vs (by rw [va.length, vb.length]; exact lz)
      · rcases List.mem_cons.mp hc with z | z
        · rw [z]; exact lt 0 (by decide)
        · rw [List.mem_singleton.mp z]; exact Nat.lt_trans la (lt 0 (by decide))
      · rcases List.mem_cons.mp hc with z | z
        · rw [z]; exact lt 1 (by decide)
        · rw [List.mem_singleton.mp z]; exact Nat.lt_trans lb (lt 0 (by decide))
      · rcases (by simpa using hc : c = s1.heap.objs.size + 4 ∨ c = s1.heap.objs.size + 3 ∨ c = s1.heap.objs.size ∨ c = s1.heap.objs.size + 1) with z | z | z | z
        · rw [z]; exact fp 4
        · rw [z]; exact fp 3
        · rw [z]; exact fp 0
        · rw [z]; exact fp 1
end
section
variable {X : Cx} {T : Tb} {W : WX} {μ μ' : Mu} {H H' : Hp} {h : Bs} {σ : Sg} {ρ : Ev}
theorem Stp.ext (e : ∀ a o, H a = some o → H' a = some o) : Stp μ H μ H' := ⟨rfl, fun _ _ z => z, rfl, fun _ z => z, fun _ z => .inl z, fun a o z _ => e a o z, fun _ z => .inl z⟩
theorem Rel.ext (r : Rel T μ h H) (e : ∀ a o, H a = some o → H' a = some o) : Rel T μ h H' where
  fb := r.fb
  prh := fun a ha => ⟨let ⟨xs, z⟩ := (r.prh a ha).1; ⟨xs, e _ _ z⟩, (r.prh a ha).2⟩
  lks := r.lks
  lkf := r.lkf
  len := r.len
  nd := r.nd
  at_ := fun i b a h1 h2 => by
    have z := r.at_ i b a h1 h2
    cases b with
    | lst lk xs => obtain ⟨vs, z1, z2⟩ := z; exact ⟨vs, e _ _ z1, Reps.step (Stp.ext e) _ _ z2⟩
    | dct lk ks vs => exact z.elim
    | obj c fs xs => obtain ⟨C, dx, vs, z1, z2, z3, z4⟩ := z; exact ⟨C, dx, vs, z1, e _ _ z2, z3, Reps.step (Stp.ext e) _ _ z4⟩
    | tbl t => obtain ⟨a1, ps, z1, z2, z3⟩ := z; exact ⟨a1, ps, e _ _ z1, z2, fun pos cv q => by obtain ⟨c, f1, f2, f3⟩ := z3 pos cv q; exact ⟨c, f1, e _ _ f2, f3⟩⟩
  lo := r.lo
  ord := r.ord
  wf := r.wf
theorem Reps.of_get : ∀ {xs : List D} {vs : List V}, xs.length = vs.length → (∀ (j : Nat) (x : D), xs[j]? = some x → ∃ v, vs[j]? = some v ∧ Rep T μ H x v) → Reps T μ H xs vs
  | [], [], _, _ => .nil
  | x :: xs, v :: vs, hl, g => by
    obtain ⟨v', e, q⟩ := g 0 x rfl
    cases e
    exact .cons q (Reps.of_get (by simpa using hl) fun j y e => by
      obtain ⟨v', e', q'⟩ := g (j + 1) y (by simpa using e)
      exact ⟨v', by simpa using e', q'⟩)
  | [], _ :: _, hl, _ => by simp at hl
  | _ :: _, [], hl, _ => by simp at hl
/-- list(zip(a, b)) -/
def lzD (ds : List D) (h : Bs) : R D := match ds with
  | [d, e] => (match seqOf h d, seqOf h e with
    | some xs, some ys => newL false (zipL xs ys) h
    | _, _ => .no)
  | _ => .no
theorem pv_lz {e e2 : Expr} {p1 p2 pos2 pos : Pos} {sa : SA} (hK : X.K = T.K) (hgL : Gl X "list") (hmL : X.mg "list" = none) (hgZ : Gl X "zip") (hmZ : X.mg "zip" = none) (hc : X.calm = true) (hs : noStars [e, e2] = true) (ha : PA X [e, e2] (tA' T W sa)) :
    PE X (.Call (.Name "list" p1) [.Call (.Name "zip" p2) [e, e2] [] pos2] [] pos) (tV T W (sCall lzD sa)) := by
  simp only [noStars, List.all_cons, List.all_nil, Bool.and_eq_true, Bool.not_eq_true', Bool.and_true] at hs
  refine PE.imp (pe_lz hgL hmL hgZ hmZ ha hc (star_no hs.1) (back_no (by simp [noStars, hs.2]))) fun σ H Q ⟨μ, ρ, h, r, e, o⟩ => ⟨μ, ρ, h, r, e, OutA.mono (OutV.bindA o) ?_⟩
  rintro vs H1 ⟨μ1, ds, h1, s1, r1, rv, o1⟩
  unfold lzD at o1
  split at o1
  · rename_i d d2
    obtain ⟨w, w2, rfl, rw', rw2⟩ := rv.is2
    split at o1
    · rename_i xs ys hx hy
      obtain ⟨a, vx, e1, e2, e3⟩ := r1.seqOf rw' hx
      obtain ⟨b, vy, f1, f2, f3⟩ := r1.seqOf rw2 hy
      subst e1 f1
      have hln : (zipL xs ys).length = min vx.length vy.length := by rw [zipL_length, e3.length, f3.length]
      unfold newL at o1
      split at o1
      · rename_i hl
        refine ⟨a, b, vx, vy, rfl, by rw [hK]; exact e2.symm, by rw [hK]; exact f2.symm, by rw [← hln]; exact hl, fun L H' vs lz => ?_⟩
        have st : Stp μ1 H1 μ1 H' := Stp.ext lz.ext
        refine o1 μ1 H' _ st (r1.ext lz.ext) ?_
        simp only [Rep]
        refine ⟨L, vs, rfl, lz.at_, r1.not lz.no, Reps.of_get (by rw [hln, lz.len]) fun j x ej => ?_⟩
        have hj : j < min vx.length vy.length := by rw [← hln]; exact (List.getElem?_eq_some_iff.mp ej).1
        obtain ⟨t, x', y', g1, g2, g3, g4, g5⟩ := lz.item j hj
        obtain ⟨d', e', z1, z2, z3⟩ := zip_items e3 f3 j x' y' hj g3 g4
        rw [z1] at ej
        cases ej
        refine ⟨_, g1, ?_⟩
        simp only [Rep]
        exact ⟨t, [x', y'], rfl, g5, r1.not g2, .cons (Rep.step st _ _ z2) (.one (Rep.step st _ _ z3))⟩
      · exact o1.elim
    · exact o1.elim
  · exact o1.elim
end
section
variable {Z : Cfg} {t : Tx} {k : Nat} {N : List Str} {sc : Scope} {raw : Option Scope} {X : Cx} {W : WX} {pos p p2 pos2 : Pos} {a b : Expr} {sa : SA}
theorem v_lz (h : XO Z t k N sc raw X W) (g : (glC sc "list" && t.fr.contains "list" && glC sc "zip" && t.fr.contains "zip" && noStars [a, b]) = true) (ha : PA X [a, b] (tA' Z.T W sa)) :
    PE X (.Call (.Name "list" p) [.Call (.Name "zip" p2) [a, b] [] pos2] [] pos) (tV Z.T W (sCall lzD sa)) := by
  simp only [Bool.and_eq_true] at g
  exact pv_lz h.K (h.gl g.1.1.1.1).1 (h.fr g.1.1.1.2) (h.gl g.1.1.2).1 (h.fr g.1.2) h.calm g.2 ha
end
end VI
end
section
namespace VI
open PySem PySem.Spec PyProof.Rows L2
/-! sorted, min, max, < of data -/
mutual
def beqD : D → D → Bool
  | .non, .non => true
  | .bl a, .bl b => a == b
  | .int a, .int b => decide (a = b)
  | .tup a, .tup b => beqDs a b
  | .tpl a, .tpl b => beqDs a b
  | .lst a, .lst b => beqDs a b
  | _, _ => false
def beqDs : List D → List D → Bool
  | [], [] => true
  | x :: xs, y :: ys => beqD x y && beqDs xs ys
  | _, _ => false
end
mutual
theorem beqD_eq : ∀ (d e : D), beqD d e = true → d = e
  | .non, e, h => by cases e <;> simp [beqD] at h ⊢
  | .bl a, e, h => by cases e <;> simp [beqD] at h ⊢; exact h
  | .int a, e, h => by cases e <;> simp [beqD] at h ⊢; exact h
  | .str a, e, h => by cases e <;> simp [beqD] at h
  | .tup a, e, h => by
    cases e <;> simp only [beqD] at h <;> first | (cases h; done) | rw [beqDs_eq _ _ h]
  | .tpl a, e, h => by
    cases e <;> simp only [beqD] at h <;> first | (cases h; done) | rw [beqDs_eq _ _ h]
  | .lst a, e, h => by
    cases e <;> simp only [beqD] at h <;> first | (cases h; done) | rw [beqDs_eq _ _ h]
  | .dct a b, e, h => by cases e <;> simp [beqD] at h
  | .obj a b c, e, h => by cases e <;> simp [beqD] at h
  | .ref a, e, h => by cases e <;> simp [beqD] at h
  | .scr a, e, h => by cases e <;> simp [beqD] at h
theorem beqDs_eq : ∀ (d e : List D), beqDs d e = true → d = e
  | [], [], _ => rfl
  | x :: xs, y :: ys, h => by
    simp only [beqDs, Bool.and_eq_true] at h
    rw [beqD_eq _ _ h.1, beqDs_eq _ _ h.2]
  | [], _ :: _, h => by simp [beqDs] at h
  | _ :: _, [], h => by simp [beqDs] at h
end
abbrev Kd := D × PyData
def leK (p q : Kd) : Bool := !W.dataLt q.2 p.2
theorem leK_trans (p q r : Kd) (h1 : leK p q = true) (h2 : leK q r = true) : leK p r = true := by
  unfold leK W.dataLt at *
  simp only [Bool.not_eq_true'] at *
  cases e : lexLt itemOrd (W.keyToks r.2) (W.keyToks p.2) with
  | false => rfl
  | true =>
    exfalso
    cases e2 : lexLt itemOrd (W.keyToks p.2) (W.keyToks q.2) with
    | true => have := lex_trans _ _ _ e e2; rw [h2] at this; cases this
    | false => rw [lex_total _ _ e2 h1] at e; rw [h2] at e; cases e
theorem leK_total (p q : Kd) : (leK p q || leK q p) = true := by
  unfold leK W.dataLt
  cases e : lexLt itemOrd (W.keyToks q.2) (W.keyToks p.2) with
  | false => rfl
  | true =>
    cases e2 : lexLt itemOrd (W.keyToks p.2) (W.keyToks q.2) with
    | false => rfl
    | true => have := lex_trans _ _ _ e e2; rw [lex_irrefl] at this; cases this
theorem leK_anti {p q : Kd} (h1 : leK p q = true) (h2 : leK q p = true) : W.keyToks p.2 = W.keyToks q.2 := by
  unfold leK W.dataLt at h1 h2
  simp only [Bool.not_eq_true'] at h1 h2
  exact lex_total _ _ h2 h1
def insK (p : Kd) : List Kd → List Kd
  | [] => [p]
  | q :: qs => if W.dataLt q.2 p.2 then q :: insK p qs else p :: q :: qs
def srtK : List Kd → List Kd
  | [] => []
  | p :: ps => insK p (srtK ps)
theorem insK_perm (p : Kd) : ∀ qs, (insK p qs).Perm (p :: qs)
  | [] => .refl _
  | q :: qs => by
    simp only [insK]
    split
    · exact ((insK_perm p qs).cons q).trans (.swap _ _ _)
    · exact .refl _
theorem srtK_perm : ∀ ps, (srtK ps).Perm ps
  | [] => .refl _
  | p :: ps => (insK_perm p (srtK ps)).trans ((srtK_perm ps).cons p)
theorem insK_sorted (p : Kd) : ∀ qs : List Kd, qs.Pairwise (fun a b => leK a b = true) → (insK p qs).Pairwise (fun a b => leK a b = true)
  | [], _ => by simp [insK]
  | q :: qs, h => by
    have h' := List.pairwise_cons.mp h
    simp only [insK]
    split
    · rename_i hq
      refine List.pairwise_cons.mpr ⟨fun a ha => ?_, insK_sorted p qs h'.2⟩
      rcases List.mem_cons.mp ((insK_perm p qs).mem_iff.mp ha) with z | z
      · subst z
        have := leK_total q a
        have e : leK a q = false := by unfold leK; rw [hq]; rfl
        rw [e, Bool.or_false] at this
        exact this
      · exact h'.1 a z
    · rename_i hq
      have e : leK p q = true := by unfold leK; simpa using hq
      refine List.pairwise_cons.mpr ⟨fun a ha => ?_, h⟩
      rcases List.mem_cons.mp ha with z | z
      · rw [z]; exact e
      · exact leK_trans _ _ _ e (h'.1 a z)
theorem srtK_sorted : ∀ ps, (srtK ps).Pairwise (fun a b => leK a b = true)
  | [] => .nil
  | p :: ps => insK_sorted p _ (srtK_sorted ps)
/-- equal keys side by side: the same data -/
def adjOk : List Kd → Bool
  | p :: q :: r => (W.dataLt p.2 q.2 || beqD p.1 q.1) && adjOk (q :: r)
  | _ => true
theorem adjOk_same : ∀ {l : List Kd}, l.Pairwise (fun a b => leK a b = true) → adjOk l = true → ∀ p ∈ l, ∀ q ∈ l, W.keyToks p.2 = W.keyToks q.2 → p.1 = q.1
  | [], _, _, p, hp, _, _, _ => by cases hp
  | [a], _, _, p, hp, q, hq, _ => by rw [List.mem_singleton.mp hp, List.mem_singleton.mp hq]
  | a :: b :: r, hs, ho, p, hp, q, hq, e => by
    have hs' := List.pairwise_cons.mp hs
    simp only [adjOk, Bool.and_eq_true, Bool.or_eq_true] at ho
    have ih := adjOk_same hs'.2 ho.2
    have key : ∀ x ∈ b :: r, W.keyToks a.2 = W.keyToks x.2 → a.1 = x.1 := by
      intro x hx ex
      have hab := hs'.1 b List.mem_cons_self
      have hbx : leK b x = true := by
        rcases List.mem_cons.mp hx with z | z
        · subst z; exact Bool.or_self (leK x x) ▸ leK_total x x
        · exact (List.pairwise_cons.mp hs'.2).1 x z
      have hba : leK b a = true := by
        have : leK b a = leK b x := by unfold leK W.dataLt; rw [ex]
        rw [this]; exact hbx
      have e1 : W.keyToks a.2 = W.keyToks b.2 := leK_anti hab hba
      have e2 : a.1 = b.1 := by
        rcases ho.1 with z | z
        · unfold W.dataLt at z; rw [e1, lex_irrefl] at z; cases z
        · exact beqD_eq _ _ z
      rw [e2]
      exact ih b List.mem_cons_self x hx (e1.symm.trans ex)
    rcases List.mem_cons.mp hp with z | z
    · rcases List.mem_cons.mp hq with y | y
      · rw [z, y]
      · rw [z]; rw [z] at e; exact key q y e
    · rcases List.mem_cons.mp hq with y | y
      · rw [y]; rw [y] at e; exact (key p z e.symm).symm
      · exact ih p z q y e
/-- two sorted orders of the same items -/
theorem sort_uniq {A B : List Kd} (hp : A.Perm B) (ha : A.Pairwise (fun a b => leK a b = true)) (hb : B.Pairwise (fun a b => leK a b = true)) (hs : ∀ p ∈ B, ∀ q ∈ B, W.keyToks p.2 = W.keyToks q.2 → p.1 = q.1) : A.map (·.1) = B.map (·.1) := by
  have ek : A.map (fun p => W.keyToks p.2) = B.map (fun p => W.keyToks p.2) := by
    refine List.Perm.eq_of_pairwise (le := fun x y => lexLt itemOrd y x = false) (fun a b _ _ h1 h2 => lex_total _ _ h2 h1) ?_ ?_ (hp.map _)
    · rw [List.pairwise_map]; exact ha.imp fun h => by unfold leK W.dataLt at h; simpa using h
    · rw [List.pairwise_map]; exact hb.imp fun h => by unfold leK W.dataLt at h; simpa using h
  apply List.ext_getElem?
  intro j
  have ej : (A.map fun p => W.keyToks p.2)[j]? = (B.map fun p => W.keyToks p.2)[j]? := by rw [ek]
  rw [List.getElem?_map, List.getElem?_map] at ej ⊢
  cases qa : A[j]? with
  | none =>
    rw [qa] at ej
    cases qb : B[j]? with
    | none => rfl
    | some b => rw [qb] at ej; cases ej
  | some a =>
    rw [qa] at ej
    cases qb : B[j]? with
    | none => rw [qb] at ej; cases ej
    | some b =>
      rw [qb] at ej
      have := hs a (hp.mem_iff.mp (List.mem_of_getElem? qa)) b (List.mem_of_getElem? qb) (Option.some.inj ej)
      show some a.1 = some b.1
      rw [this]
/-! ### sorted(seq) -/
section
variable {prog : Program} {w : World} {A : Around} {E : Value → Shared → Prop} {s : Shared}
theorem collect_tup {l : Addr} {vs : List Value} {Q : List Value → Shared → Prop} (hl : IsTup s.heap l vs.toArray)
    (h : Q vs { s with heap := (s.heap.push (seqObj "list" #[] 0)).update s.heap.objs.size (Obj.mapSeq (· ++ vs.toArray)) }) (hz : vs.length ≤ sizeLine) :
    wpAny (model prog w) A (collect (.ref l)) Q E s := by
  obtain ⟨o, ho, hc, n, hd⟩ := id hl
  have e0 : (s.heap.push (seqObj "list" #[] 0)).get? s.heap.objs.size = some (seqObj "list" #[] 0) := Heap.get?_push_size _ rfl
  have e1 : (s.heap.push (seqObj "list" #[] 0)).get? l = some o := Heap.get?_push_of_some _ ho
  unfold collect
  refine wpAny_bind (wpAny_runValue (codeAny_builtin entry_proto_collect' (wpAny_bind (m := newList []) (wpAny_newList (wpAny_pure ⟨Code.quiet_builtin _ (by decide +kernel), codeAny_builtin entry_list_iadd' ?_⟩)))))
  refine (show wpAny _ _ (Builtin.List.listExtendWith (.ref s.heap.objs.size) (.ref l) (.ref s.heap.objs.size)) _ _ { s with heap := s.heap.push (seqObj "list" #[] 0) } from ?_)
  unfold Builtin.List.listExtendWith
  refine wpAny_bind (wpAny_typeOf (T := "tuple") ⟨o, e1, hc⟩ ?_)
  rw [if_pos (by simp)]
  refine wpAny_bind (listItems_at e1 hd (wpAny_bind (listItems_at (xs := #[]) (n := 0) e0 rfl ?_)))
  rw [if_neg (by simp)]
  refine wpAny_bind (listUpdate_at (xs := #[]) (n := 0) e0 rfl (wpAny_pure ?_) (Nat.zero_le _) (by show (#[] ++ vs.toArray).size ≤ sizeLine + 1; simp only [Array.size_append, List.size_toArray, List.length_nil]; omega))
  refine wpAny_bind (m := load s.heap.objs.size) (wpAny_load (get?_update_seq e0 _) ?_)
  refine (show wpAny _ _ (pure ((#[] : Array Value) ++ vs.toArray).toList) Q E _ from ?_)
  rw [show ((#[] : Array Value) ++ vs.toArray).toList = vs by simp]
  exact wpAny_pure h
end
/-! ### shapes that can be compared -/
inductive Pat where
  | i
  | seq (p : Pat)
  | two (p q : Pat)
def fits : Pat → PyData → Bool
  | .i, .int _ => true
  | .seq p, .tuple xs => xs.all (fits p)
  | .two p q, .tuple [x, y] => fits p x && fits q y
  | _, _ => false
theorem fits_all {p : Pat} (ih : ∀ a b, fits p a = true → fits p b = true → W.alike a b = true) : ∀ xs ys : List PyData, xs.all (fits p) = true → ys.all (fits p) = true → W.alikeAll xs ys = true
  | [], _, _, _ => by simp [W.alikeAll]
  | _ :: _, [], _, _ => by simp [W.alikeAll]
  | x :: xs, y :: ys, h1, h2 => by
    simp only [List.all_cons, Bool.and_eq_true] at h1 h2
    simp only [W.alikeAll, ih x y h1.1 h2.1, fits_all ih xs ys h1.2 h2.2, Bool.and_self]
theorem fits_alike : ∀ (p : Pat) (a b : PyData), fits p a = true → fits p b = true → W.alike a b = true
  | .i, a, b, h1, h2 => by
    cases a <;> cases b <;> simp [fits] at h1 h2
    simp [W.alike]
  | .seq p, a, b, h1, h2 => by
    cases a <;> cases b <;> simp only [fits] at h1 h2 <;> first | (cases h1; done) | (cases h2; done) | skip
    simp only [W.alike]
    exact fits_all (fits_alike p) _ _ h1 h2
  | .two p q, a, b, h1, h2 => by
    unfold fits at h1 h2
    split at h1 <;> first | (cases h1; done) | skip
    all_goals (split at h2 <;> first | (cases h2; done) | skip)
    all_goals simp_all
    rename_i e1 e2
    obtain ⟨rfl, rfl⟩ := e1
    obtain ⟨rfl, rfl⟩ := e2
    simp [W.alike, W.alikeAll, fits_alike p _ _ h1.1 h2.1, fits_alike q _ _ h1.2 h2.2]
def isT1 : PyData → Bool
  | .tuple (_ :: _) => true
  | _ => false
def isI1 : PyData → Bool
  | .int _ => true
  | _ => false
def pats : List Pat := [.i, .seq .i, .two (.seq .i) .i, .seq (.two (.seq .i) .i), .two .i (.seq .i), .two .i .i]
def canSort (ps : List PyData) : Bool := (pats.any fun p => ps.all (fits p)) && (ps.all isT1 || ps.all isI1)
theorem canSort_ok {ps : List PyData} (h : canSort ps = true) : W.AllAlike ps ∧ W.Sortable ps := by
  unfold canSort at h
  simp only [Bool.and_eq_true, Bool.or_eq_true] at h
  obtain ⟨h1, h2⟩ := h
  obtain ⟨p, _, hp⟩ := List.any_eq_true.mp h1
  refine ⟨fun d hd e he => fits_alike p d e (List.all_eq_true.mp hp d hd) (List.all_eq_true.mp hp e he), ?_⟩
  rcases h2 with h2 | h2
  · refine .inl fun d hd => ?_
    have := List.all_eq_true.mp h2 d hd
    unfold isT1 at this
    split at this
    · exact ⟨_, _, rfl⟩
    · cases this
  · refine .inr fun d hd => ?_
    have := List.all_eq_true.mp h2 d hd
    unfold isI1 at this
    split at this
    · exact ⟨(fun z => by cases z), (fun _ z => by cases z)⟩
    · cases this
section
variable {X : Cx} {T : Tb} {WW : WX} {μ μ' : Mu} {H H' : Hp} {h : Bs} {σ : Sg} {ρ : Ev} {pins : List (Addr × Obj)} {s : Shared}
abbrev Tr := V × D × PyData
/-- the items with what they are -/
theorem tri_of {n : Nat} (hK : X.K = T.K) (I : Inv X pins σ H s) (r : Rel T μ h H) : ∀ {xs : List D} {vs : List V} {ps : List PyData} {its : List Value}, Reps T μ H xs vs → mapO (py n h) xs = some ps → Vals vs its →
    ∃ bs : List Tr, W.EachIs (fun v b => RelV b.1 v) its bs ∧ W.EachIs (fun v b => ∃ as, Reads s.heap v b.2.2 as) its bs ∧ bs.map (·.2) = xs.zip ps ∧ (bs.map fun b => b.2.2) = ps ∧ ∀ b ∈ bs, Rep T μ H b.2.1 b.1 ∧ b.2.2.depth ≤ n
  | [], vs, ps, its, q, e, rv => by
    simp only [Reps] at q
    subst q
    cases rv
    simp only [mapO] at e
    cases e
    exact ⟨[], .nil, .nil, rfl, rfl, fun _ z => by cases z⟩
  | x :: xs, vs, ps, its, q, e, rv => by
    simp only [Reps] at q
    obtain ⟨v, vr, rfl, q1, q2⟩ := q
    obtain ⟨y, ys, e1, e2, rfl⟩ := mapO_some e
    cases rv with
    | cons r1 rr =>
      rename_i u us
      obtain ⟨bs, g1, g2, g3, g4, g5⟩ := tri_of hK I r q2 e2 rr
      have k := py_ok r n x v y q1 e1
      obtain ⟨as, rd⟩ := Dp.reads I y v u (by rw [hK]; exact k.1) r1
      refine ⟨(v, x, y) :: bs, .cons r1 g1, .cons ⟨as, rd⟩ g2, by simp [g3], by simp [g4], fun b hb => ?_⟩
      rcases List.mem_cons.mp hb with z | z
      · subst z; exact ⟨q1, k.2.1⟩
      · exact g5 b z
theorem each_vals : ∀ {its : List Value} {bs : List Tr}, W.EachIs (fun v (b : Tr) => RelV b.1 v) its bs → Vals (bs.map (·.1)) its
  | _, _, .nil => .nil
  | _, _, .cons h t => .cons h (each_vals t)
theorem reps_tri : ∀ {bs : List Tr}, (∀ b ∈ bs, Rep T μ H b.2.1 b.1) → Reps T μ H (bs.map fun b => b.2.1) (bs.map (·.1))
  | [], _ => .nil
  | b :: bs, h => .cons (h b List.mem_cons_self) (reps_tri fun c hc => h c (List.mem_cons_of_mem _ hc))
/-- sorted(list or tuple) of data -/
def sortS (bx : Bool) (ds : List D) (h : Bs) : R D := match ds with
  | [d] => (match seqOf h d with
    | some xs => (match mapO (py pyN h) xs with
      | some ps => if canSort ps && adjOk (srtK (xs.zip ps)) then newL bx ((srtK (xs.zip ps)).map (·.1)) h else .no
      | none => .no)
    | none => .no)
  | _ => .no
theorem sortS_calm {bx : Bool} {ds : List D} : Calm (sortS bx ds h) := by
  unfold sortS
  repeat' split
  · exact newL_calm
  all_goals (intro x h' z; cases z)
theorem cv_sortS {bx : Bool} (hK : X.K = T.K) (hu : X.A.units + 65 < cLine) : CallR X (.builtin "sorted") (rDn T (sortS bx)) := by
  intro pins s σ H xs us Q I rs ⟨μ, h, ds, r, rd, o⟩
  unfold sortS at o
  split at o
  · rename_i d
    obtain ⟨v, rfl, rv⟩ := rd.is1
    obtain ⟨u, rfl, ru⟩ := rs.one
    split at o
    · rename_i ys hy
      split at o
      · rename_i ps hp
        split at o
        · rename_i hc
          simp only [Bool.and_eq_true] at hc
          obtain ⟨a, vs, rfl, e2, e3⟩ := r.seqOf rv hy
          cases ru
          obtain ⟨al, so⟩ := canSort_ok hc.1
          have fin : ∀ (its : List Value), Vals vs its → vs.length ≤ sizeLine → ∃ bs : List Tr, W.EachIs (fun v b => RelV b.1 v) its bs ∧ W.EachIs (fun v b => ∃ as, Reads s.heap v b.2.2 as) its bs ∧ (bs.map fun b => b.2.2) = ps ∧ bs.length ≤ sizeLine ∧ (∀ b ∈ bs, X.A.units + 2 + b.2.2.depth < cLine) ∧
              ∀ out, out.length = bs.length → W.EachIs (fun v (b : Tr) => RelV b.1 v) out (bs.mergeSort (W.dataLe false fun b => b.2.2)) → EP X pins σ Q (.ref (s.heap.objs.size + 1)) { s with heap := sortedAll s.heap its (List.toArray out) } := by
            intro its rvv hz
            obtain ⟨bs, g1, g2, g3, g4, g5⟩ := tri_of hK I r e3 hp rvv
            have hl : bs.length = vs.length := by rw [rvv.length, g1.length]
            refine ⟨bs, g1, g2, g4, by rw [hl]; exact hz, fun b hb => ?_, fun out ho ge => ?_⟩
            · have := (g5 b hb).2
              show X.A.units + 2 + b.2.2.depth < cLine
              have : b.2.2.depth ≤ 12 := this
              omega
            · have sp : (bs.mergeSort (W.dataLe false fun b => b.2.2)).Perm bs := List.mergeSort_perm _ _
              have le_eq : ∀ a b : Tr, W.dataLe false (fun b : Tr => b.2.2) a b = leK a.2 b.2 := fun a b => rfl
              have ss : ((bs.mergeSort (W.dataLe false fun b => b.2.2)).map (·.2)).Pairwise (fun a b => leK a b = true) := by
                rw [List.pairwise_map]
                exact List.pairwise_mergeSort (le := W.dataLe false fun b : Tr => b.2.2) (fun a b c h1 h2 => leK_trans _ _ _ h1 h2) (fun a b => leK_total _ _) bs
              have eq : (bs.mergeSort (W.dataLe false fun b => b.2.2)).map (fun b => b.2.1) = (srtK (ys.zip ps)).map (·.1) := by
                have := sort_uniq (A := (bs.mergeSort (W.dataLe false fun b => b.2.2)).map (·.2)) (B := srtK (ys.zip ps)) (by rw [← g3]; exact (sp.map _).trans (srtK_perm _).symm) ss (srtK_sorted _) (adjOk_same (srtK_sorted _) hc.2)
                rw [List.map_map] at this
                exact this
              have rq : Reps T μ H ((srtK (ys.zip ps)).map (·.1)) ((bs.mergeSort (W.dataLe false fun b => b.2.2)).map (·.1)) := by
                rw [← eq]
                exact reps_tri fun b hb => (g5 b (sp.mem_iff.mp hb)).1
              obtain ⟨z1, z2⟩ := newL_ok r rq o
              obtain ⟨e, he⟩ := sortedAll_at s.heap its (List.toArray out)
              exact ⟨.ref (s.heap.objs.size + 1), _, I.laid (t' := s.toks) (o := .lst ((bs.mergeSort (W.dataLe false fun b => b.2.2)).map (·.1))) (fun b o => sortedAll_old) (Nat.le_succ _) ⟨z1, out, e, each_vals ge, he⟩, rfl, z2 _ (I.hok.fresh (Nat.le_succ _))⟩
          rcases e2 with e2 | e2
          · obtain ⟨its, rvv, pt, hz⟩ := I.tuple (by rw [hK]; exact e2)
            obtain ⟨bs, g1, g2, g4, g6, g7, k⟩ := fin its rvv hz
            have hLn : its.length ≤ sizeLine := by rw [← rvv.length]; exact hz
            refine call_function_entry_kw (kw := []) kind_sorted plain_sorted entry_sorted (args_sorted1 _) ?_
            unfold Builtin.«sorted»
            refine wpAny_bind (m := checkCount "sorted" 1 1 _) (wpAny_pure (wpAny_bind (collect_tup pt (wpAny_bind (wpAny_newList ?_ hLn)) hLn)))
            have hsz : ((s.heap.push (seqObj "list" #[] 0)).update s.heap.objs.size (Obj.mapSeq (· ++ its.toArray))).objs.size = s.heap.objs.size + 1 := by
              rw [Heap.size_update, size_push']
            refine (show wpAny _ _ _ _ _ { s with heap := W.copyHeap s.heap its } from ?_)
            rw [hsz]
            have al' : W.AllAlike (bs.map fun b => b.2.2) := by rw [g4]; exact al
            have so' : W.Sortable (bs.map fun b => b.2.2) := by rw [g4]; exact so
            have er' : W.EachIs (fun v (b : Tr) => ∃ as, Reads (W.sortingHeap (W.copyHeap s.heap its) (s.heap.objs.size + 1) its) v b.2.2 as) its bs := g2.mono fun _ _ ⟨as, q⟩ => ⟨as, PyProof.Rows.Reads.keeps (fun _ _ => W.sorting_copy_old) q⟩
            refine wpAny_bind (wpAny_holding (wpAny_call_entry_kw slot_list_sort ⟨_, W.copyHeap_at s.heap its, rfl⟩ entry_list_sort (wpAny_mono (W.list_sort_vals (P := fun f s' => f = .done (.ret .none) ∧ EP X pins σ Q (.ref (s.heap.objs.size + 1)) s') (s := { s with heap := W.copyHeap s.heap its }) (W.copyHeap_at s.heap its)
              (W.SortsAt.data (s := { s with heap := W.sortingHeap (W.copyHeap s.heap its) (s.heap.objs.size + 1) its }) (W.each_map (R := fun v d => ∃ as, Reads (W.sortingHeap (W.copyHeap s.heap its) (s.heap.objs.size + 1) its) v d as) (fun b : Tr => b.2.2) er') al' so' (W.bound_map g7)) hLn ⟨rfl, k _ (by rw [W.sortVals_length false rfl]; exact g1.length) (W.sortVals_data false g1 er' al')⟩) (fun f s' hf => ?_) fun _ _ e => e) (args_list_sort _)))
            obtain ⟨rfl, hq⟩ := hf
            exact ⟨_, rfl, wpAny_pure ⟨_, rfl, hq⟩⟩
          · obtain ⟨its, rvv, pl, hz⟩ := I.list (by rw [hK]; exact e2)
            obtain ⟨bs, g1, g2, g4, g6, g7, k⟩ := fin its rvv hz
            exact W.sorted_data (enc := fun b : Tr => b.2.2) pl.isList g1 g2 (by rw [g4]; exact al) (by rw [g4]; exact so) g6 g7 k
        · exact o.elim
      · exact o.elim
    · exact o.elim
  · exact o.elim
end
/-! ### min of a list of data -/
theorem minD_mem : ∀ (xs : List PyData) (x : PyData), W.minD x xs ∈ x :: xs
  | [], x => List.mem_cons_self
  | y :: ys, x => by
    unfold W.minD
    rw [List.foldl_cons]
    have := minD_mem ys (if W.dataLt y x then y else x)
    unfold W.minD at this
    split
    · rename_i h
      rw [if_pos h] at this
      rcases List.mem_cons.mp this with z | z
      · rw [z]; exact List.mem_cons_of_mem _ List.mem_cons_self
      · exact List.mem_cons_of_mem _ (List.mem_cons_of_mem _ z)
    · rename_i h
      rw [if_neg h] at this
      rcases List.mem_cons.mp this with z | z
      · rw [z]; exact List.mem_cons_self
      · exact List.mem_cons_of_mem _ (List.mem_cons_of_mem _ z)
section
variable {X : Cx} {T : Tb} {μ μ' : Mu} {H H' : Hp} {h : Bs} {σ : Sg} {ρ : Ev}
def minS (ds : List D) (h : Bs) : R D := match ds with
  | [d] => (match lstOf h d with
    | some (x :: xs) => (match mapO (py pyN h) (x :: xs) with
      | some (p :: ps) => if canSort (p :: ps) then (match ((x :: xs).zip (p :: ps)).find? fun z => PyData.eqv z.2 (W.minD p ps) with
        | some z => if ((x :: xs).zip (p :: ps)).all fun y => !PyData.eqv y.2 (W.minD p ps) || beqD y.1 z.1 then .ok z.1 h else .no
        | none => .no) else .no
      | _ => .no)
    | _ => .no)
  | _ => .no
theorem minS_calm {ds : List D} : Calm (minS ds h) := by
  unfold minS
  repeat' split
  all_goals (intro x h' z; cases z)
theorem mapO_get {α β : Type} {f : α → Option β} : ∀ {xs : List α} {ys : List β} {i : Nat} {x : α}, mapO f xs = some ys → xs[i]? = some x → ∃ y, ys[i]? = some y ∧ f x = some y
  | [], _, _, _, _, e => by simp at e
  | x :: xs, ys, 0, z, h, e => by
    obtain ⟨y, r, e1, e2, rfl⟩ := mapO_some h
    simp at e; subst e
    exact ⟨y, rfl, e1⟩
  | x :: xs, ys, i + 1, z, h, e => by
    obtain ⟨y, r, e1, e2, rfl⟩ := mapO_some h
    obtain ⟨w, g1, g2⟩ := mapO_get (i := i) e2 (by simpa using e)
    exact ⟨w, by simpa using g1, g2⟩
theorem cv_minS (hK : X.K = T.K) (hc : X.calm = true) (hu : X.A.units + 65 < cLine) : CallR X (.builtin "min") (rDn T minS) := by
  intro pins s σ H xs us Q I rs ⟨μ, h, ds, r, rd, o⟩
  unfold minS at o
  split at o
  · rename_i d
    obtain ⟨v, rfl, rv⟩ := rd.is1
    obtain ⟨u, rfl, ru⟩ := rs.one
    split at o
    · rename_i x ys hy
      split at o
      · rename_i p ps hp
        split at o
        · rename_i hcs
          split at o
          · rename_i z hz
            split at o
            · rename_i ha
              obtain ⟨a, vs, rfl, e2, e3⟩ := r.lstOf rv hy
              cases ru
              obtain ⟨al, so⟩ := canSort_ok hcs
              obtain ⟨its, rvv, pl, hz2⟩ := I.list (by rw [hK]; exact e2)
              obtain ⟨bs, g1, g2, g3, g4, g5⟩ := tri_of hK I r e3 hp rvv
              obtain ⟨as, ra⟩ := W.each_readsAll (fun b : Tr => b.2.2) g2
              rw [g4] at ra
              have nn : ∀ q ∈ p :: ps, q ≠ .none := fun q hq => by
                rcases so with so | so
                · obtain ⟨x, r, e⟩ := so q hq; rw [e]; exact fun z => by cases z
                · exact (so q hq).1
              have dep : PyData.depthAll (p :: ps) ≤ 12 := by
                have key : ∀ l : List PyData, (∀ q ∈ l, q.depth ≤ 12) → PyData.depthAll l ≤ 12 := by
                  intro l
                  induction l with
                  | nil => intro _; simp [PyData.depthAll]
                  | cons q l ih =>
                    intro hq
                    simp only [PyData.depthAll]
                    have h1 := hq q List.mem_cons_self
                    have h2 := ih fun y hy => hq y (List.mem_cons_of_mem _ hy)
                    omega
                refine key _ fun q hq => ?_
                rw [← g4] at hq
                obtain ⟨b, hb, rfl⟩ := List.mem_map.mp hq
                exact (g5 b hb).2
              refine W.min_list_data (I.ok.hd hc) pl.isList (by simpa using ra) ⟨fun x hx y hy => al x hx y hy, nn⟩ (by omega) fun i w h' tk bs' hi hr kp => ?_
              have hi' : its[i]? = some w := by simpa using hi
              have hlen : i < (x :: ys).length := by rw [e3.length, rvv.length]; exact (List.getElem?_eq_some_iff.mp hi').1
              have hx : (x :: ys)[i]? = some (x :: ys)[i] := List.getElem?_eq_getElem hlen
              obtain ⟨wv, ew, rw'⟩ := e3.get hx
              obtain ⟨w', ew', rel⟩ := rvv.get ew
              rw [hi'] at ew'; cases ew'
              obtain ⟨q, eq, epy⟩ := mapO_get hp hx
              have k := py_ok r _ _ _ _ rw' epy
              obtain ⟨cs, rd2⟩ := Dp.reads I q wv w (by rw [hK]; exact k.1) rel
              have hqm : q ∈ p :: ps := List.mem_of_getElem? eq
              have e0 : q = W.minD p ps := W.alike_unique _ _ _ _ _ (al _ hqm _ (minD_mem ps p)) (PyProof.Rows.Reads.keeps kp rd2) hr
              have hmem : ((x :: ys)[i], q) ∈ (x :: ys).zip (p :: ps) := by
                refine List.mem_of_getElem? (i := i) ?_
                rw [List.getElem?_zip_eq_some]
                exact ⟨hx, eq⟩
              have hb := List.all_eq_true.mp ha _ hmem
              simp only [Bool.or_eq_true, Bool.not_eq_true'] at hb
              have hD : (x :: ys)[i] = z.1 := by
                rcases hb with hb | hb
                · rw [e0, W.eqv_refl_alike _ (al _ (minD_mem ps p) _ (minD_mem ps p))] at hb; cases hb
                · exact beqD_eq _ _ hb
              rw [hD] at rw'
              exact ⟨wv, H, I.kept (t' := tk) kp, rel, o μ H wv Stp.refl r rw'⟩
            · exact o.elim
          · exact o.elim
        · exact o.elim
      · exact o.elim
    · exact o.elim
  · exact o.elim
/-! ### < <= > >= -/
def cmpS (pi : Int → Int → Bool) (pd : PyData → PyData → Bool) (d e : D) (h : Bs) : R D := match d, e with
  | .int i, .int j => .ok (.bl (pi i j)) h
  | _, _ => (match py pyN h d, py pyN h e with
    | some p, some q => if (pats.any fun t => fits t p && fits t q) then .ok (.bl (pd p q)) h else .no
    | _, _ => .no)
theorem cmpS_calm {pi : Int → Int → Bool} {pd : PyData → PyData → Bool} {d e : D} : Calm (cmpS pi pd d e h) := by
  unfold cmpS
  repeat' split
  all_goals (intro x h' z; cases z)
theorem ov_cmpS {op : CmpOp} {pi : Int → Int → Bool} {pd : PyData → PyData → Bool} (hK : X.K = T.K) (hu : X.A.units + 65 < cLine) (hop : OpR X (compareOp op) (rI0 fun i j => .bl (pi i j)))
    (hd : ∀ (A : Around) (E : Value → Shared → Prop) (s : Shared) (a b : Value) (da db : PyData) (as bs : List Addr) (Q : Value → Shared → Prop), Reads s.heap a da as → Reads s.heap b db bs → W.alike da db = true → da ≠ .none → A.units + min da.depth db.depth < cLine → Q (.bool (pd da db)) s → wpAny (model X.prog X.w) A (compareOp op a b) Q E s) :
    OpR X (compareOp op) (rD2 T (cmpS pi pd)) := by
  intro pins s σ H x y v u Q I rx ry ⟨μ, h, d, e, r, rd, re, o⟩
  unfold cmpS at o
  split at o
  · simp only [Rep] at rd re
    exact hop pins s σ H x y v u Q I rx ry ⟨_, _, rd, re, o μ H _ Stp.refl r (by simp only [Rep])⟩
  · split at o
    · rename_i p q hp hq
      split at o
      · rename_i hf
        obtain ⟨t, _, ht⟩ := List.any_eq_true.mp hf
        simp only [Bool.and_eq_true] at ht
        have k1 := py_ok r _ d x p rd hp
        have k2 := py_ok r _ e y q re hq
        obtain ⟨as, r1⟩ := Dp.reads I p x v (by rw [hK]; exact k1.1) rx
        obtain ⟨bs, r2⟩ := Dp.reads I q y u (by rw [hK]; exact k2.1) ry
        refine hd X.A X.xe s v u p q as bs _ r1 r2 (fits_alike t p q ht.1 ht.2) (fun z => ?_) (by have := k1.2.1; have : p.depth ≤ 12 := this; omega) ⟨.bl (pd p q), H, I, rfl, o μ H _ Stp.refl r (by simp only [Rep])⟩
        rw [z] at ht
        cases t <;> simp [fits] at ht
      · exact o.elim
    · exact o.elim
end
section
variable {Z : Cfg} {t : Tx} {k : Nat} {N : List Str} {sc : Scope} {raw : Option Scope} {X : Cx}
abbrev ltS := cmpS (fun i j => decide (i < j)) W.dataLt
abbrev leS := cmpS (fun i j => decide (i ≤ j)) (fun p q => !W.dataLt q p)
abbrev gtS := cmpS (fun i j => decide (j < i)) (fun p q => W.dataLt q p)
abbrev geS := cmpS (fun i j => decide (j ≤ i)) (fun p q => !W.dataLt p q)
theorem C_ltS : CF .Lt ltS := ⟨fun _ _ _ => cmpS_calm, fun h => ov_cmpS h.K h.units op_lt fun A E s a b da db as bs Q r1 r2 al nn hu q => W.lt_data r1 r2 al nn hu q⟩
theorem C_leS : CF .LtE leS := ⟨fun _ _ _ => cmpS_calm, fun h => ov_cmpS h.K h.units op_le fun A E s a b da db as bs Q r1 r2 al nn hu q => W.le_data r1 r2 al nn hu q⟩
theorem C_gtS : CF .Gt gtS := ⟨fun _ _ _ => cmpS_calm, fun h => ov_cmpS h.K h.units op_gt fun A E s a b da db as bs Q r1 r2 al nn hu q => W.gt_data r1 r2 al nn hu q⟩
theorem C_geS : CF .GtE geS := ⟨fun _ _ _ => cmpS_calm, fun h => ov_cmpS h.K h.units op_ge fun A E s a b da db as bs Q r1 r2 al nn hu q => W.ge_data r1 r2 al nn hu q⟩
theorem B_sortS {bx : Bool} : BF "sorted" "sorted" (sortS bx) := ⟨fun _ _ => sortS_calm, by decide +kernel, fun h => cv_sortS h.K h.units⟩
/-- min: numbers, or a list of data -/
def minDS (ds : List D) (h : Bs) : R D := match minD ds h with
  | .no => minS ds h
  | r => r
theorem B_minS : BF "min" "min" minDS := ⟨fun ds h x h' z => by
    unfold minDS at z
    cases q : minD ds h with
    | no => rw [q] at z; exact minS_calm x h' z
    | ok a b => rw [q] at z; cases z
    | ex a b => exact B_min.cf ds h a b q, by decide +kernel, fun {Z t k N sc raw X W} h => by
    intro pins s σ H xs us Q I rs ⟨μ, hh, ds, r, rd, o⟩
    unfold minDS at o
    cases q : minD ds hh with
    | no => rw [q] at o; exact cv_minS h.K h.calm h.units pins s σ H xs us Q I rs ⟨μ, hh, ds, r, rd, o⟩
    | ok a b => rw [q] at o; exact B_min.run h pins s σ H xs us Q I rs ⟨μ, hh, ds, r, rd, by rw [q]; exact o⟩
    | ex a b => exact absurd q (B_min.cf ds hh a b)⟩
/-- sorted: numbers, or data -/
def sortDS (bx : Bool) (ds : List D) (h : Bs) : R D := match sortedD bx ds h with
  | .no => sortS bx ds h
  | r => r
theorem B_sortDS {bx : Bool} : BF "sorted" "sorted" (sortDS bx) := ⟨fun ds h x h' z => by
    unfold sortDS at z
    cases q : sortedD bx ds h with
    | no => rw [q] at z; exact sortS_calm x h' z
    | ok a b => rw [q] at z; cases z
    | ex a b => exact B_sorted.cf ds h a b q, by decide +kernel, fun {Z t k N sc raw X W} h => by
    intro pins s σ H xs us Q I rs ⟨μ, hh, ds, r, rd, o⟩
    unfold sortDS at o
    cases q : sortedD bx ds hh with
    | no => rw [q] at o; exact cv_sortS h.K h.units pins s σ H xs us Q I rs ⟨μ, hh, ds, r, rd, o⟩
    | ok a b => rw [q] at o; exact B_sorted.run h pins s σ H xs us Q I rs ⟨μ, hh, ds, r, rd, by rw [q]; exact o⟩
    | ex a b => exact absurd q (B_sorted.cf ds hh a b)⟩
end
end VI
end
section
namespace VI
open PySem PySem.Spec PyProof.Rows L2
/-! zip of a list with a tuple, in a loop -/
def ItzM (K : PySem.W.Frag) (a b : Addr) : It :=
  ⟨fun i H => ∃ (xs ys : List V) (x y : V), SqL K H a xs ∧ SqT K H b ys ∧ xs[i]? = some x ∧ ys[i]? = some y,
    fun i H v H' => ∃ T x y, v = .ref T ∧ H T = none ∧ H' = upd H T (.tup [x, y]) ∧ (∀ xs, SqL K H a xs → xs[i]? = some x) ∧ ∀ ys, SqT K H b ys → ys[i]? = some y,
    fun i H => ∃ xs ys : List V, SqL K H a xs ∧ SqT K H b ys ∧ i ≤ xs.length ∧ i ≤ ys.length ∧ (xs.length ≤ i ∨ ys.length ≤ i)⟩
theorem zsep {z TI TO i1 i2 a b : Addr} (D : ZipApart z TI TO i1 i2 a b) : ZipSep2 z TI TO i1 i2 [i1, a] [i2, b] where
  TIz := D.TIz
  TOz := D.TOz
  TITO := D.TITO
  TIi1 := D.TIi1
  mem1 := by simp
  zf1 := by simp [Ne.symm D.i1z, Ne.symm D.l1z]
  Tf1 := by simp [D.TOi1, Ne.symm D.l1TO]
  TIi2 := D.TIi2
  mem2 := by simp
  zf2 := by simp [Ne.symm D.i2z, Ne.symm D.l2z]
  Tf2 := by simp [D.TOi2, Ne.symm D.l2TO]
  sep1_2 := by simp [D.i12, Ne.symm D.l2i1]
  sep2_1 := by simp [Ne.symm D.i12, Ne.symm D.l1i2]
theorem turn_zipM {P : Program} {w : World} {K : PySem.W.Frag} {elts : List Expr} {kk : Nat} {tpos : Pos} {a b z TI TO i1 i2 : Addr} (D : ZipApart z TI TO i1 i2 a b) :
    Turn P w K (.Tuple elts kk tpos) (ItzM K a b) [z, TI, TO, i1, i2] z (fun i h => IsZip h z TI TO .none ∧ IsPair h TI (.ref i1) (.ref i2) ∧ (∃ x y, IsPair h TO x y) ∧ h.IsListIter i1 a i ∧ h.IsTupleIter i2 b i) where
  mem := by simp
  obj := fun i h st c hc => by
    obtain ⟨hz, hTI, ⟨x, y, hTO⟩, ⟨o1, e1, _, d1⟩, ⟨o2, e2, _, d2⟩⟩ := st
    have e' : c = z ∨ c = TI ∨ c = TO ∨ c = i1 ∨ c = i2 := by simpa using hc
    rcases e' with q | q | q | q | q
    · rw [q]; exact ⟨_, hz, fun v q => nomatch q⟩
    · rw [q]; exact ⟨_, hTI, fun v q => nomatch q⟩
    · rw [q]; exact ⟨_, hTO, fun v q => nomatch q⟩
    · rw [q]; exact ⟨o1, e1, fun v q => by rw [d1] at q; cases q⟩
    · rw [q]; exact ⟨o2, e2, fun v q => by rw [d2] at q; cases q⟩
  keep := fun i h h' st k => by
    obtain ⟨hz, hTI, ⟨x, y, hTO⟩, h1, h2⟩ := st
    exact ⟨k z (by simp) _ hz, k TI (by simp) _ hTI, ⟨x, y, k TO (by simp) _ hTO⟩, h1.at fun o q => k i1 (by simp) o q, h2.at fun o q => k i2 (by simp) o q⟩
  item := by
    intro X hP hw hK hc i pins s σ H E I hf st hg
    subst hP hw hK
    obtain ⟨hz, hTI, ⟨x0, y0, hTO⟩, h1, h2⟩ := st
    obtain ⟨xs, ys, x, y, hqx, hqy, hx, hy⟩ := hg
    obtain ⟨its, rv, p, _⟩ := I.list hqx
    obtain ⟨its2, rv2, p2, _⟩ := I.tuple hqy
    obtain ⟨u, hu, ru⟩ := rv.get hx
    obtain ⟨u2, hu2, ru2⟩ := rv2.get hy
    have hzl : z < s.heap.objs.size := Heap.lt_size hz
    have hh := I.ok.hd hc
    have hd1 := Draws.list (prog := X.prog) (w := X.w) (A := X.A.in1) hh i1 a D.l1i1 its.toArray
    have hd2 := Draws.tuple (prog := X.prog) (w := X.w) (A := X.A.in1) hh i2 b D.l2i2 its2.toArray
    refine wpAny_pyNext_zipD2_item (zsep D) hd1 hd2 hz hTI hTO ⟨h1, p.isList⟩ ⟨h2, p2⟩ (by
      have := (List.getElem?_eq_some_iff.mp hu).1
      simpa using this) (by
      have := (List.getElem?_eq_some_iff.mp hu2).1
      simpa using this) fun v1 v2 h' tk y1 y2 z' TO' r1 r2 hT hsz hk => ?_
    obtain ⟨h1', _⟩ := r1
    obtain ⟨h2', _⟩ := r2
    obtain rfl : v1 = u := by simpa [hu] using y1.symm
    obtain rfl : v2 = u2 := by simpa [hu2] using y2.symm
    refine ⟨_, rfl, wpAny_letOwnedTupleGo_zip (s := { s with heap := h', toks := tk }) z' fun h'' z'' sb => ?_⟩
    have hT2 : h''.get? s.heap.objs.size = some { cls := .type "tuple", data := .seq #[v1, v2] } := (sb.2 _ (Nat.ne_of_gt hzl)).trans hT
    have new : ObjOk X.prog X.w (upd H s.heap.objs.size (.tup [x, y])) h'' s.heap.objs.size (.tup [x, y]) :=
      ⟨by show 2 ≤ sizeLine; decide, [v1, v2], .cons ru (.cons ru2 .nil), ⟨_, hT2, rfl, _, rfl⟩⟩
    have I1 : Inv X pins σ (upd H s.heap.objs.size (.tup [x, y])) { s with heap := h'', toks := tk } :=
      I.turnedNew (t' := tk) (ch := [z, TI, TO, i1, i2]) (fun c o hb q => (sb.2 c (fun q' => hb (by simp [q']))).trans (hk c o (fun q' => hb (by simp [q'])) (fun q' => hb (by simp [q'])) (fun q' => hb (by simp [q'])) (fun q' => hb (by simp [q'])) q)) hf (Nat.le_refl _) new
    refine ⟨.ref s.heap.objs.size, _, I1, rfl, ⟨_, x, y, rfl, I.hok.fresh (Nat.le_refl _), rfl, fun l hl => by rw [I.list_inj hl hqx]; exact hx, fun l hl => by rw [I.tuple_inj hl hqy]; exact hy⟩, ⟨z'', ?_, ⟨v1, v2, ?_⟩, ?_, ?_⟩, fun c hcm => ?_⟩
    · exact (sb.2 _ D.TIz).trans (hk _ _ D.TIz D.TITO D.TIi1 D.TIi2 hTI)
    · exact (sb.2 _ D.TOz).trans TO'
    · exact h1'.at fun o q => (sb.2 _ D.i1z).trans q
    · exact h2'.at fun o q => (sb.2 _ D.i2z).trans q
    · have hlt : c < s.heap.objs.size := by
        have e' : c = z ∨ c = TI ∨ c = TO ∨ c = i1 ∨ c = i2 := by simpa using hcm
        rcases e' with q | q | q | q | q
        · rw [q]; exact hzl
        · rw [q]; exact Heap.lt_size hTI
        · rw [q]; exact Heap.lt_size hTO
        · rw [q]; obtain ⟨_, e1, _⟩ := h1; exact Heap.lt_size e1
        · rw [q]; obtain ⟨_, e2, _⟩ := h2; exact Heap.lt_size e2
      rw [upd_ne (Nat.ne_of_lt hlt)]
      exact (hf c hcm).1
  done := by
    intro X hP hw hK hc i pins s σ H E I hf st hg
    subst hP hw hK
    obtain ⟨hz, hTI, ⟨x0, y0, hTO⟩, h1, h2⟩ := st
    obtain ⟨xs, ys, hqx, hqy, b1, b2, hend⟩ := hg
    obtain ⟨its, rv, p, _⟩ := I.list hqx
    obtain ⟨its2, rv2, p2, _⟩ := I.tuple hqy
    have l1 := rv.length
    have l2 := rv2.length
    have hh := I.ok.hd hc
    have hd1 := Draws.list (prog := X.prog) (w := X.w) (A := X.A.in1) hh i1 a D.l1i1 its.toArray
    have hd2 := Draws.tuple (prog := X.prog) (w := X.w) (A := X.A.in1) hh i2 b D.l2i2 its2.toArray
    exact wpAny_pyNext_zipD2_end (zsep D) hd1 hd2 hz hTI hTO ⟨h1, p.isList⟩ ⟨h2, p2⟩ (by simp; omega) (by simp; omega) (by simp; omega) fun h' tk hk => ⟨rfl, I.turnedL (t' := tk) (ch := [z, TI, TO, i1, i2]) (fun c o hb q =>
      hk c o (fun q' => hb (by simp [q'])) (fun q' => hb (by simp [q'])) (fun q' => hb (by simp [q'])) (fun q' => hb (by simp [q'])) q) hf⟩
  self := fun A i s Q E st h => wpAny_pyIter_zip st.1 h
def iZipM (K : PySem.W.Frag) (ta : TA) : TI := fun σ H R => ta σ H fun vs H1 => ∃ a b xs ys, vs = [.ref a, .ref b] ∧ SqL K H1 a xs ∧ SqT K H1 b ys ∧ R (ItzM K a b) H1
theorem pi_zipM {X : Cx} {e e2 : Expr} {ta : TA} {p pos tpos : Pos} {elts : List Expr} {kk : Nat} (hg : Gl X "zip") (hm : X.mg "zip" = none) (ha : PA X [e, e2] ta)
    (hs : starEach [e, e2] X.env = (false, eval e X.env) :: starEach [e2] X.env) (hpl : (backTo pos (starEach [e2] X.env)).any (·.1) = false) :
    PI X (.Tuple elts kk tpos) (.Call (.Name "zip" p) [e, e2] [] pos) (iZipM X.K ta) := by
  refine ⟨fun pins s σ H R I h => ?_⟩
  refine Call_ (ld_blt I hg hm PyProof.Rows.boot_zip (PyProof.Rows.callWith_type1 (thn (ha.run pos pins s σ H _ I h) fun us s1 ⟨vs, H1, I1, r1, q1⟩ => ?_) hs hpl))
  obtain ⟨a, b, xs, ys, ex, hqx, hqy, q⟩ := q1
  subst ex
  cases r1 with
  | cons r rr =>
    cases rr with
    | cons r' rr =>
      cases rr
      cases r
      cases r'
      have fresh5 : ∀ c, c ∈ [s1.heap.objs.size + 4, s1.heap.objs.size + 2, s1.heap.objs.size + 3, s1.heap.objs.size, s1.heap.objs.size + 1] → FpOk X pins H1 c := fun c hcm => by
        have e' : c = s1.heap.objs.size + 4 ∨ c = s1.heap.objs.size + 2 ∨ c = s1.heap.objs.size + 3 ∨ c = s1.heap.objs.size ∨ c = s1.heap.objs.size + 1 := by simpa using hcm
        have hle : s1.heap.objs.size ≤ c := by omega
        exact I1.fpOk hle (I1.hok.fresh hle)
      obtain ⟨its, rv, p1, _⟩ := I1.list hqx
      obtain ⟨its2, rv2, p2, _⟩ := I1.tuple hqy
      obtain ⟨o2, ho2, _⟩ := id p2
      refine zip_begins2 (begins_list a its.toArray) (begins_tuple b its2.toArray) p1.isList p2 fun h' hz hTI hTO g1 g2 hsz hk => wpAny_pyIter_zip hz ?_
      have I2 : Inv X pins σ H1 { s1 with heap := h' } := I1.kept (t' := s1.toks) hk
      exact ⟨s1.heap.objs.size + 4, [s1.heap.objs.size + 4, s1.heap.objs.size + 2, s1.heap.objs.size + 3, s1.heap.objs.size, s1.heap.objs.size + 1], _, _, H1, rfl, I2, turn_zipM (PySem.W.ktu_apart s1.heap.objs.size a b p1.lt (Heap.lt_size ho2)), ⟨hz, hTI, ⟨_, _, hTO⟩, ⟨_, g1, rfl, rfl⟩, ⟨_, g2, rfl, rfl⟩⟩, fresh5, q⟩
theorem walk_zipM {K : PySem.W.Frag} {a b : Addr} {xs ys : List V} {n : Nat} (hn : n = min xs.length ys.length) : Walk (ItzM K a b) n (fun H => SqL K H a xs ∧ SqT K H b ys) (YPair (fun i => xs[i]?) (fun i => ys[i]?)) := by
  subst hn
  refine ⟨fun i _ hi q => ?_, fun _ q => ⟨xs, ys, q.1, q.2, by omega, by omega, by omega⟩, fun i H v H' _ q y => ?_⟩
  · have h1 : i < xs.length := by omega
    have h2 : i < ys.length := by omega
    exact ⟨xs, ys, xs[i], ys[i], q.1, q.2, by simp [h1], by simp [h2]⟩
  · obtain ⟨t, x, z, h1, h2, h3, h4, h5⟩ := y
    exact ⟨t, x, z, h1, h2, h3, h4 xs q.1, h5 ys q.2⟩
def itZipM (ds : List D) (h : Bs) : R Iu := match ds with
  | [d, e] => if !isTupD d && isTupD e then (match itSeq d h, itSeq e h with
    | .ok (xs, none) _, .ok (ys, none) _ => .ok (zipL xs ys, none) h
    | _, _ => .no) else .no
  | _ => .no
section
variable {X : Cx} {T : Tb} {W : WX} {μ μ' : Mu} {H H' : Hp} {h : Bs} {σ : Sg} {ρ : Ev}
theorem piv_zipM {e e2 : Expr} {p pos tpos : Pos} {elts : List Expr} {kk : Nat} {sa : SA} (hK : X.K = T.K) (hg : Gl X "zip") (hm : X.mg "zip" = none) (hs : PySem.W.isStarred e = false) (hs2 : PySem.W.isStarred e2 = false) (ha : PA X [e, e2] (tA' T W sa)) :
    PI X (.Tuple elts kk tpos) (.Call (.Name "zip" p) [e, e2] [] pos) (tI' T W (siArg itZipM sa)) :=
  PI.imp (pi_zipM hg hm ha (star_no hs) (back_no (by simp [noStars, hs2]))) fun σ H Q ⟨μ, ρ, h, r, e, o⟩ => by
    refine ⟨μ, ρ, h, r, e, OutA.mono (OutI.bindA o) ?_⟩
    rintro v H1 ⟨μ1, ds, h1, s1, r1, rv, o1⟩
    unfold itZipM at o1
    split at o1
    · rename_i d d2
      obtain ⟨w, w2, rfl, rw', rw2⟩ := rv.is2
      split at o1
      · rename_i ht
        simp only [Bool.and_eq_true, Bool.not_eq_true'] at ht
        split at o1
        · rename_i xs hx' ys hy' q q2
          obtain ⟨rfl, _, a, vs, e1, e4, e5⟩ := seq_stays r1 rw' q
          obtain ⟨rfl, _, b, ws, f1, f4, f5⟩ := seq_stays r1 rw2 q2
          subst e1 f1
          refine ⟨a, b, vs, ws, rfl, ?_⟩
          rcases e5 with ⟨t1, e5, e6⟩ | ⟨t1, e5, e6⟩
          · rcases f5 with ⟨t2, f5, f6⟩ | ⟨t2, f5, f6⟩
            · rw [t2] at ht; exact absurd ht.2 (by decide)
            · refine ⟨by rw [hK]; exact e5, by rw [hK]; exact f5, ?_⟩
              rw [hK]
              exact o1.nolk r1 (wk_pair (walk_zipM (K := T.K) (a := a) (b := b) rfl) (by rw [zipL_length, e4.length, f4.length]) (fun E μ' H' hE s => ⟨e6 E μ' H' hE s, f6 E μ' H' hE s⟩) (zip_items e4 f4))
          · rw [t1] at ht; exact absurd ht.1 (by decide)
        · exact o1.elim
      · exact o1.elim
    · exact o1.elim
/-- zip of two lists, two tuples, a list and a tuple -/
def itZipX (ds : List D) (h : Bs) : R Iu := match itZip ds h with
  | .no => itZipM ds h
  | r => r
theorem piv_zipX {e e2 : Expr} {p pos tpos : Pos} {elts : List Expr} {kk : Nat} {sa : SA} (hK : X.K = T.K) (hg : Gl X "zip") (hm : X.mg "zip" = none) (hs : PySem.W.isStarred e = false) (hs2 : PySem.W.isStarred e2 = false) (ha : PA X [e, e2] (tA' T W sa)) :
    PI X (.Tuple elts kk tpos) (.Call (.Name "zip" p) [e, e2] [] pos) (tI' T W (siArg itZipX sa)) := by
  refine ⟨fun pins s σ H Q I ⟨μ, ρ, h, r, e, o⟩ => ?_⟩
  have h1 := piv_zip (elts := elts) (kk := kk) (tpos := tpos) (p := p) (pos := pos) hK hg hm hs hs2 ha
  have h2 := piv_zipM (elts := elts) (kk := kk) (tpos := tpos) (p := p) (pos := pos) hK hg hm hs hs2 ha
  cases q : sa ρ h with
  | no => exact h1.run pins s σ H Q I ⟨μ, ρ, h, r, e, by unfold siArg at o ⊢; rw [q] at o ⊢; exact o⟩
  | ex x h' => exact h1.run pins s σ H Q I ⟨μ, ρ, h, r, e, by unfold siArg at o ⊢; rw [q] at o ⊢; exact o⟩
  | ok ds h' =>
    cases q2 : itZip ds h' with
    | no => exact h2.run pins s σ H Q I ⟨μ, ρ, h, r, e, by
        unfold siArg at o ⊢
        rw [q] at o ⊢
        have o' : OutI T W σ μ H Q (itZipX ds h') := o
        unfold itZipX at o'
        rw [q2] at o'
        exact o'⟩
    | ex x h3 => exact h1.run pins s σ H Q I ⟨μ, ρ, h, r, e, by
        unfold siArg at o ⊢
        rw [q] at o ⊢
        have o' : OutI T W σ μ H Q (itZipX ds h') := o
        unfold itZipX at o'
        rw [q2] at o'
        show OutI T W σ μ H Q (itZip ds h')
        rw [q2]
        exact o'⟩
    | ok x h3 => exact h1.run pins s σ H Q I ⟨μ, ρ, h, r, e, by
        unfold siArg at o ⊢
        rw [q] at o ⊢
        have o' : OutI T W σ μ H Q (itZipX ds h') := o
        unfold itZipX at o'
        rw [q2] at o'
        show OutI T W σ μ H Q (itZip ds h')
        rw [q2]
        exact o'⟩
end
section
variable {Z : Cfg} {t : Tx} {k : Nat} {N : List Str} {sc : Scope} {raw : Option Scope} {X : Cx} {W : WX} {pos p : Pos} {a b : Expr}
theorem i_zipX {tpos : Pos} {elts : List Expr} {kk : Nat} {s : SA} (h : XO Z t k N sc raw X W) (g : (glC sc "zip" && t.fr.contains "zip" && noStars [a, b]) = true) (ha : PA X [a, b] (tA' Z.T W s)) : PI X (.Tuple elts kk tpos) (.Call (.Name "zip" p) [a, b] [] pos) (tI' Z.T W (siArg itZipX s)) := by
  simp only [Bool.and_eq_true, noStars, List.all_cons, List.all_nil, Bool.not_eq_true', Bool.and_true] at g
  exact piv_zipX h.K (h.gl g.1.1).1 (h.fr g.1.2) g.2.1 g.2.2 ha
end
end VI
end
section
namespace VI
open PySem PySem.Spec PyProof.Rows L2
/-! own special methods: len(x), x == y, x[i] -/
abbrev MTab := List (Nat × (List D → Bs → R D))
section
variable {X : Cx} {T : Tb} {W : WX} {μ μ' : Mu} {H H' : Hp} {h : Bs} {σ : Sg}
theorem takesN {X : Cx} : Takes X noW := fun _ _ x => by
  obtain ⟨_, _, _, _, _, _, cls, d, _, _, _, _, _, _, _, _, z⟩ := x
  exact z.elim
/-- a def's call, somewhere below the running body -/
theorem run_sub {k : Nat} {A : Around} {f : Addr} {fd : FuncData} {ps : List Str} {cf : List D → Bs → R D} {pins : List (Addr × Obj)} {σ : L2.St} {H : Hp} {s : Shared} {Q : VK} {us : List Value} {vs : List V}
    (F : FnOk X.prog X.w X.K X.mg X.base (CX X.prog X.w) k f fd ps (spF T cf)) (hr : Room k A) (hA : A.frames = X.A.frames) (hb : Binds X.K fd ps []) (I : Inv X pins σ H s) (r : Vals vs us) (h : spF T cf vs H Q (fun _ _ _ => False)) :
    wpAny (model X.prog X.w) A (call (.ref f) us) (EP X pins σ Q) X.xe s := by
  have hl : us.length = ps.length := by rw [← r.length]; exact F.len _ _ _ _ h
  have e0 : Env0 X.prog X.w X.K X.mg X.base A X.stack s H := by
    have e := I.env0
    exact ⟨by rw [hA]; exact e.frames, e.mod, e.bs, e.bsz, e.funs, e.frf, e.hok, e.bare⟩
  refine wpAny_call (codeAny_mono (F.run A X.stack s H ⟨us, []⟩ us vs Q (fun _ _ _ => False) hr e0 (by
    have := hb s us I.kIn (by simpa using hl)
    simpa using this) r h) fun r s' hq => ?_)
  cases r with
  | error e => exact passAt takesN σ pins H s e s' I hq
  | ok fl =>
    cases fl with
    | ret u => exact I.after hq
    | next => exact False.elim hq
    | brk => exact False.elim hq
    | cont => exact False.elim hq
/-- what is asked of the table -/
def MtX (X : Cx) (T : Tb) (m : Str) (k : Nat) (l : MTab) : Prop := ∀ c cf, l.lookup c = some cf → ∃ C f fd ps, T.cls c = some C ∧ Meth X.K C m f ∧ FnOk X.prog X.w X.K X.mg X.base (CX X.prog X.w) k f fd ps (spF T cf) ∧ Binds X.K fd ps [] ∧ PySem.W.fnIn X.K f = true
/-- len(x), by the class's __len__ -/
def lenO (l : MTab) (ds : List D) (h : Bs) : R D := match ds with
  | [d] => (match insOf h d with
    | some (c, _, _) => (match l.lookup c with
      | some cf => (match cf [d] h with
        | .ok (.int n) h' => if 0 ≤ n ∧ n < 2 ^ 62 then .ok (.int n) h' else .no
        | _ => .no)
      | none => .no)
    | none => lenD [d] h)
  | _ => .no
theorem lenO_calm {l : MTab} {ds : List D} : Calm (lenO l ds h) := by
  intro x h' z; unfold lenO at z
  split at z
  · split at z
    · split at z
      · split at z
        · split at z <;> cases z
        · cases z
      · cases z
    · exact lenD_calm x h' z
  · cases z
theorem cv_lenO {k : Nat} {l : MTab} (hK : X.K = T.K) (hr : Room (k + 1) X.A) (M : MtX X T "__len__" k l) : CallR X (.builtin "len") (rDn T (lenO l)) := by
  intro pins s σ H xs us Q I rs ⟨μ, h, ds, r, rd, o⟩
  unfold lenO at o
  split at o
  · rename_i d
    split at o
    · rename_i c fs ys hi
      split at o
      · rename_i cf hcf
        obtain ⟨v, rfl, rv⟩ := rd.is1
        obtain ⟨a, C, dx, vs, rfl, e2, e3, e4, e5⟩ := r.insOf rv hi
        obtain ⟨C', f, fd, ps, f1, f3, F, hb, hfn⟩ := M c cf hcf
        rw [e2] at f1; cases f1
        obtain ⟨u, rfl, ru⟩ : ∃ u, us = [u] ∧ RelV (.ref a) u := by
          cases rs with
          | cons ru r2 => cases r2; exact ⟨_, rfl, ru⟩
        obtain rfl : u = Value.ref a := ru
        obtain ⟨mA, J, _⟩ := ins_get I.hok e3
        obtain ⟨od, J, _⟩ := J.look
        obtain ⟨m, hF⟩ := I.fr
        refine PySem.W.len_K hF I.ok.mod.kin J f3.at_ f3.fn ?_
        have sp : spF T cf [.ref a] H (fun v H' => ∃ n : Int, v = .int n ∧ (0 ≤ n ∧ n < 2 ^ 62) ∧ Q (.int n) H') (fun _ _ _ => False) := by
          refine ⟨μ, h, [d], r, Reps.one rv, ?_⟩
          cases q : cf [d] h with
          | no => rw [q] at o; exact o.elim
          | ex x h' => rw [q] at o; exact o.elim
          | ok z h' =>
            rw [q] at o
            cases z <;> first | exact o.elim | skip
            rename_i n
            simp only at o
            split at o
            · rename_i hn
              intro μ' H' v st r' rv'
              simp only [Rep] at rv'
              exact ⟨n, rv', hn, o μ' H' _ st r' (by simp only [Rep])⟩
            · exact o.elim
        refine wpAny_mono (run_sub (vs := [.ref a]) F hr.in1 rfl hb I (.cons rfl .nil) sp) (fun u s' z => ?_) fun _ _ x => x
        obtain ⟨v, H', I', rv', n, rfl, hn, hq⟩ := z
        obtain ⟨t, rfl⟩ := (show ∃ t, u = Value.int n t from rv')
        exact ⟨⟨hn.1, by omega⟩, .int n, H', I'.kept fun _ _ e => e, ⟨_, rfl⟩, hq⟩
      · exact o.elim
    · exact cv_len hK pins s σ H xs us Q I rs ⟨μ, h, [d], r, rd, o⟩
  · exact o.elim
/-- x == y, by the class's __eq__, both of one class -/
def eqO (l : MTab) (d e : D) (h : Bs) : R D := match insOf h d with
  | some (c, _, _) => (match insOf h e with
    | some (c', _, _) => if c = c' then (match l.lookup c with
      | some cf => (match cf [d, e] h with
        | .ok (.bl b) h' => .ok (.bl b) h'
        | _ => .no)
      | none => .no) else .no
    | none => .no)
  | none => eqD false d e h
theorem eqO_calm {l : MTab} {d e : D} : Calm (eqO l d e h) := by
  intro x h' z; unfold eqO at z
  split at z
  · split at z
    · split at z
      · split at z
        · split at z <;> cases z
        · cases z
      · cases z
    · cases z
  · exact eqD_calm x h' z
theorem ov_eqO {k : Nat} {l : MTab} (hK : X.K = T.K) (hr : Room k X.A) (M : MtX X T "__eq__" k l) : OpR X (compareOp .Eq) (rD2 T (eqO l)) := by
  intro pins s σ H x y v u Q I rx ry ⟨μ, h, d, e, r, rd, re, o⟩
  unfold eqO at o
  split at o
  · rename_i c fs ys hi
    split at o
    · rename_i c' fs' ys' hi'
      split at o
      · rename_i hcc
        subst hcc
        split at o
        · rename_i cf hcf
          obtain ⟨a, C, dx, vs, rfl, e2, e3, e4, e5⟩ := r.insOf rd hi
          obtain ⟨a', C', dx', vs', rfl, e2', e3', e4', e5'⟩ := r.insOf re hi'
          rw [e2] at e2'; cases e2'
          obtain ⟨C', f, fd, ps, f1, f3, F, hb, hfn⟩ := M c cf hcf
          rw [e2] at f1; cases f1
          obtain rfl : v = Value.ref a := rx
          obtain rfl : u = Value.ref a' := ry
          obtain ⟨mA, J, _⟩ := ins_get I.hok e3
          obtain ⟨od, J, _⟩ := J.look
          obtain ⟨mA', J', _⟩ := ins_get I.hok e3'
          obtain ⟨od', J', _⟩ := J'.look
          obtain ⟨m, hF⟩ := I.fr
          show wpAny (model X.prog X.w) X.A (richCompare .Eq (.ref a) (.ref a')) (EP X pins σ Q) X.xe s
          refine PySem.W.cmp_K (op := .Eq) (tb := .ref C) hr.units0 hF I.ok.mod.kin J J'.type (by simp [PySem.W.notFirst]) f3.at_ f3.fn ?_
          have sp : spF T cf [.ref a, .ref a'] H (fun v H' => ∃ b : Bool, v = .bl b ∧ Q (.bl b) H') (fun _ _ _ => False) := by
            refine ⟨μ, h, [d, e], r, Reps.cons rd (Reps.one re), ?_⟩
            cases q : cf [d, e] h with
            | no => rw [q] at o; exact o.elim
            | ex x h' => rw [q] at o; exact o.elim
            | ok z h' =>
              rw [q] at o
              cases z <;> first | exact o.elim | skip
              rename_i b
              intro μ' H' v st r' rv'
              simp only [Rep] at rv'
              exact ⟨b, rv', o μ' H' _ st r' (by simp only [Rep])⟩
          refine wpAny_mono (run_sub (vs := [.ref a, .ref a']) F hr rfl hb I (.cons rfl (.cons rfl .nil)) sp) (fun u s' z => ?_) fun _ _ x => x
          obtain ⟨v, H', I', rv', b, rfl, hq⟩ := z
          obtain rfl : u = Value.bool b := rv'
          exact ⟨.bl b, H', I', rfl, hq⟩
        · exact o.elim
      · exact o.elim
    · exact o.elim
  · exact ov_eq hK (by have := hr.un; omega) pins s σ H x y v u Q I rx ry ⟨μ, h, d, e, r, rd, re, o⟩
/-- x[i], by the class's __getitem__ -/
def ixO (l : MTab) (d e : D) (h : Bs) : R D := match insOf h d with
  | some (c, _, _) => (match l.lookup c with
      | some cf => (match cf [d, e] h with
        | .ok z h' => .ok z h'
        | _ => .no)
      | none => .no)
  | none => ixD d e h
theorem ixO_calm {l : MTab} {d e : D} : Calm (ixO l d e h) := by
  intro x h' z; unfold ixO at z
  split at z
  · split at z
    · split at z <;> cases z
    · cases z
  · exact ixD_calm x h' z
theorem sub_plain {b : Expr} (hs : noSlice b = true) (o i : Value) : subscripted b true o i = runValue (.builtin "lifetime.subscript" ⟨[o, i], []⟩) := by
  cases b <;> first | rfl | (simp [noSlice] at hs; done)
theorem pv_ixO {k : Nat} {l : MTab} {a b : Expr} {sa sb : SV} {pos : Pos} (hK : X.K = T.K) (hr : Room (k + 1) X.A) (M : MtX X T "__getitem__" k l) (hs : noSlice b = true) (ha : PE X a (tV T W sa)) (hb : PE X b (tV T W sb)) : PE X (.Subscript a b pos) (tV T W (sOp (ixO l) sa sb)) := by
  refine PE.imp (t := tOp (rD2 T (ixO l)) (tV T W sa) (tV T W sb)) ⟨fun pins s σ H Q I h => ?_⟩ (op2_imp fun _ _ _ => ixO_calm)
  refine Subscript_ (binT ha hb I h fun v u s2 x y H2 I2 rx ry q => ?_)
  obtain ⟨μ, h, d, e, r, rd, re, o⟩ := q
  unfold ixO at o
  split at o
  · rename_i c fs ys hi
    split at o
    · rename_i cf hcf
      obtain ⟨a, C, dx, vs, rfl, e2, e3, e4, e5⟩ := r.insOf rd hi
      obtain ⟨C', f, fd, ps, f1, f3, F, hb, hfn⟩ := M c cf hcf
      rw [e2] at f1; cases f1
      obtain rfl : v = Value.ref a := rx
      obtain ⟨mA, J, _⟩ := ins_get I2.hok e3
      obtain ⟨od, J, _⟩ := J.look
      obtain ⟨m, hF⟩ := I2.fr
      refine PySem.W.sub_K hF I2.ok.mod.kin J f3.at_ hfn f3.fn ?_ (sub_plain hs _ _)
      refine run_sub (vs := [.ref a, y]) F hr.in1 rfl hb I2 (.cons rfl (.cons ry .nil)) ⟨μ, h, [d, e], r, Reps.cons rd (Reps.one re), ?_⟩
      cases q : cf [d, e] h with
      | no => rw [q] at o; exact o.elim
      | ex x h' => rw [q] at o; exact o.elim
      | ok z h' =>
        rw [q] at o
        exact o
    · exact o.elim
  · exact ov_ix hK a b pins s2 σ H2 x y v u Q I2 rx ry ⟨μ, h, d, e, r, rd, re, o⟩ (plainIx hs _ _)
end
section
variable {Z : Cfg} {t : Tx} {k j : Nat} {N : List Str} {sc : Scope} {raw : Option Scope} {X : Cx} {W : WX} {pos p : Pos} {a b c : Expr} {sa sb s3 : SV} {l : MTab}
theorem MtL.x {m : Str} (M : MtL Z m j l) (h : XO Z t k N sc raw X W) : MtX X Z.T m j l := fun c cf z => by
  obtain ⟨C, f, fd, ps, h1, h2, h3, h4, h5, h6⟩ := M c cf z
  exact ⟨C, f, fd, ps, h1, by rw [h.K]; exact h3, by rw [h.prog, h.w, h.K, h.mg, h.base]; exact h4, by rw [h.K]; exact h5, by rw [h.K]; exact h6⟩
theorem v_lenO {e : Expr} {es : List Expr} {s : SA} (h : XO Z t k N sc raw X W) (M : MtL Z "__len__" j l) (hj : Nat.ble (j + 1) k = true) (g : (glC sc "len" && t.fr.contains "len" && noStars (e :: es)) = true) (ha : PA X (e :: es) (tA' Z.T W s)) :
    PE X (.Call (.Name "len" p) (e :: es) [] pos) (tV Z.T W (sCall (lenO l) s)) := by
  simp only [Bool.and_eq_true] at g
  obtain ⟨⟨g1, g2⟩, g3⟩ := g
  obtain ⟨a, b, c⟩ := h.gl g1
  exact pv_callB (fun _ _ => lenO_calm) (cv_lenO h.K (h.room.mono (Nat.le_of_ble_eq_true hj)) (M.x h)) a (h.fr g2) B_len.boot c b g3 ha
theorem v_eqO (h : XO Z t k N sc raw X W) (M : MtL Z "__eq__" j l) (hj : Nat.ble j k = true) (hb' : behindInMarks .Eq b = false) (ha : PE X a (tV Z.T W sa)) (hb : PE X b (tV Z.T W sb)) : PE X (.Compare a [.Eq] [b] pos) (tV Z.T W (sOp (eqO l) sa sb)) :=
  pv_cmp (pc_v (fun _ _ _ => eqO_calm) (ov_eqO h.K (h.room.mono (Nat.le_of_ble_eq_true hj)) (M.x h)) ha hb) hb'
theorem t_eqO (h : XO Z t k N sc raw X W) (M : MtL Z "__eq__" j l) (hj : Nat.ble j k = true) (hb' : behindInMarks .Eq b = false) (ha : PE X a (tV Z.T W sa)) (hb : PE X b (tV Z.T W sb)) : PT X (.Compare a [.Eq] [b] pos) (tB' Z.T W (sTru (sOp (eqO l) sa sb))) :=
  pvt_cmp (pc_v (fun _ _ _ => eqO_calm) (ov_eqO h.K (h.room.mono (Nat.le_of_ble_eq_true hj)) (M.x h)) ha hb) hb'
theorem v_ixO (h : XO Z t k N sc raw X W) (M : MtL Z "__getitem__" j l) (hj : Nat.ble (j + 1) k = true) (hs : noSlice b = true) (ha : PE X a (tV Z.T W sa)) (hb : PE X b (tV Z.T W sb)) : PE X (.Subscript a b pos) (tV Z.T W (sOp (ixO l) sa sb)) :=
  pv_ixO h.K (h.room.mono (Nat.le_of_ble_eq_true hj)) (M.x h) hs ha hb
theorem v_rgT {p2 q : Pos} (h : XO Z t k N sc raw X W) (g : (glC sc "tuple" && t.fr.contains "tuple" && glC sc "range" && t.fr.contains "range" && noStars [a]) = true) (ha : PE X a (tV Z.T W sa)) : PE X (.Call (.Name "tuple" p) [.Call (.Name "range" p2) [a] [] q] [] pos) (tV Z.T W (sUn rgT sa)) := by
  simp only [Bool.and_eq_true] at g
  refine PE.imp (pe_tupRg h.calm (h.gl g.1.1.1.1).1 (h.fr g.1.1.1.2) (prg_1 (h.gl g.1.1.2).1 (h.fr g.1.2) ha (na_one g.2))) fun σ H Q ⟨μ, ρ, hh, r, e, o⟩ => ⟨μ, ρ, hh, r, e, OutV.mono (OutV.bind o) ?_⟩
  rintro v H1 ⟨μ1, d, h1, s1, r1, rv, o1⟩
  unfold rgT at o1
  split at o1
  · split at o1
    · rename_i n hn
      simp only [Rep] at rv
      subst rv
      have e3 : (n - 0).toNat = n.toNat := by omega
      have q := newT_ok r1 (vs := rgV 0 n) (by have := rng_reps (T := Z.T) (μ := μ1) (H := H1) 0 n; rw [e3] at this; exact this) o1
      exact ⟨n, rfl, ⟨by decide, by decide, hn.1, hn.2.1, by rw [e3]; exact hn.2.2⟩, q.2⟩
    · exact o1.elim
  · exact o1.elim
/-! ### sorted(set(tuple)) -/
def srtSet (bx : Bool) (d : D) (h : Bs) : R D := match d with
  | .tup xs => (match intsD xs with
    | some ns => if ns.length < 64 then newL bx ((sortI (dedI ns)).map .int) h else .no
    | none => .no)
  | .tpl xs => (match intsD xs with
    | some ns => if ns.length < 64 then newL bx ((sortI (dedI ns)).map .int) h else .no
    | none => .no)
  | _ => .no
theorem ded_mem (k : Int) : ∀ ns : List Int, k ∈ dedI ns ↔ k ∈ ns
  | [] => Iff.rfl
  | n :: ns => by
    simp only [dedI]
    have ih := ded_mem k ns
    split
    · rename_i hn
      rw [ih, List.mem_cons]
      constructor
      · exact .inr
      · rintro (rfl | z)
        · simpa using hn
        · exact z
    · rw [List.mem_cons, List.mem_cons, ih]
theorem ded_nodup : ∀ ns : List Int, (dedI ns).Nodup
  | [] => .nil
  | n :: ns => by
    simp only [dedI]
    split
    · exact ded_nodup ns
    · rename_i hn
      exact List.nodup_cons.mpr ⟨fun z => hn (by simpa using (ded_mem n ns).mp z), ded_nodup ns⟩
theorem set_is {ns l : List Int} (h1 : l.Pairwise (· < ·)) (h2 : ∀ k : Int, k ∈ l ↔ decide (k ∈ ns) = true) : l = sortI (dedI ns) := by
  refine PySem.W.ksm_same (List.Perm.trans ((List.perm_ext_iff_of_nodup (List.nodup_iff_pairwise_ne.mpr (h1.imp fun z e => by omega)) (ded_nodup ns)).mpr fun k => ?_) (sortI_perm _).symm) (h1.imp fun z => by omega) (sortI_sorted _)
  rw [h2, ded_mem, decide_eq_true_eq]
def tSs (K : PySem.W.Frag) (ta : TE) : TE := fun σ H Q => ta σ H fun x H1 => ∃ (l : Addr) (ns : List Int), x = .ref l ∧ SqT K H1 l (ns.map V.int) ∧ ns.length < 64 ∧ ∀ p, H1 p = none → Q (.ref p) (upd H1 p (.lst ((sortI (dedI ns)).map V.int)))
theorem pe_ss {ta : TE} {p2 q : Pos} (hg : Gl X "sorted") (hm : X.mg "sorted" = none) (hg2 : Gl X "set") (hm2 : X.mg "set" = none) (ha : PE X a ta) (hc : X.calm = true)
    (na : starEach [a] X.env = (false, eval a X.env) :: starEach [] X.env) : PE X (.Call (.Name "sorted" p) [.Call (.Name "set" p2) [a] [] q] [] pos) (tSs X.K ta) := by
  refine ⟨fun pins s σ H Q I h => ?_⟩
  refine Call_ (ld_blt I hg hm boot_sorted ?_)
  refine PyProof.Rows.callWith_builtin1 (PyProof.Rows.args_cons ?_ rfl) rfl rfl
  refine Call_ (ld_blt I hg2 hm2 PyProof.Rows.boot_set ?_)
  refine PyProof.Rows.callWith_type1 (PyProof.Rows.args_cons (thn (ha.run pins s σ H _ I h) fun v s1 ⟨x, H1, I1, r1, q1⟩ => PyProof.Rows.args_nil ?_) na) na rfl
  obtain ⟨l, ns, rfl, hq, hl, q1⟩ := q1
  cases r1
  obtain ⟨its, rv, pt, hz⟩ := I1.tuple hq
  have hi : IntsAre its.toArray.toList ns := by simpa using RZ.intsAre_vals rv
  refine call_set_tupI ns (I1.ok.hd hc) (show s1.heap.IsTuple l its.toArray from pt) hi (by unfold scanBound; omega) fun h' tk c R1 hcn k => ?_
  refine PyProof.Rows.args_nil ?_
  have I2 : Inv X pins σ H1 { s1 with heap := h', toks := tk } := I1.kept k
  refine sorted_set R1 (I2.ok.hd hc) (by omega) fun s' p out c' ns' k' g o hp hg hi' hs hm hl' => ?_
  obtain rfl := set_is hs hm
  have hn : H1 p = none := I2.hok.fresh hp
  have hlen : ((sortI (dedI ns)).map V.int).length ≤ sizeLine := by rw [List.length_map, hl', sizeLine_eq]; omega
  have J := I2.call (h' := s'.heap) (g' := s'.gens) (d' := s'.drawn) (t' := s'.toks) (H' := upd H1 p (.lst ((sortI (dedI ns)).map V.int))) (ch := []) (Un.laid k' hp hn) (I2.hok.laid k' hp ⟨hlen, out.toList, c', vals_of_ints hi', hg⟩) (by rw [g]; exact I2.bare) (fun _ z => nomatch z)
  have e : s' = { s1 with heap := s'.heap, gens := s'.gens, drawn := s'.drawn, toks := s'.toks } := by
    cases s'
    cases s1
    cases o
    rfl
  rw [e]
  exact ⟨.ref p, _, J, rfl, q1 p hn⟩
theorem v_ss {bx : Bool} {p2 q : Pos} (h : XO Z t k N sc raw X W) (g : (glC sc "sorted" && t.fr.contains "sorted" && glC sc "set" && t.fr.contains "set" && noStars [a]) = true) (ha : PE X a (tV Z.T W sa)) : PE X (.Call (.Name "sorted" p) [.Call (.Name "set" p2) [a] [] q] [] pos) (tV Z.T W (sUn (srtSet bx) sa)) := by
  simp only [Bool.and_eq_true] at g
  refine PE.imp (pe_ss (h.gl g.1.1.1.1).1 (h.fr g.1.1.1.2) (h.gl g.1.1.2).1 (h.fr g.1.2) ha h.calm (na_one g.2)) fun σ H Q ⟨μ, ρ, hh, r, e, o⟩ => ⟨μ, ρ, hh, r, e, OutV.mono (OutV.bind o) ?_⟩
  rintro v H1 ⟨μ1, d, h1, s1, r1, rv, o1⟩
  have fin : ∀ {xs : List D} {ns : List Int} {l : Addr} {vs : List V}, v = .ref l → SqT X.K H1 l vs → Reps Z.T μ1 H1 xs vs → intsD xs = some ns → ns.length < 64 → OutV Z.T W σ μ1 H1 Q (newL bx ((sortI (dedI ns)).map .int) h1) →
      ∃ (l : Addr) (ns : List Int), v = .ref l ∧ SqT X.K H1 l (ns.map V.int) ∧ ns.length < 64 ∧ ∀ p, H1 p = none → Q (.ref p) (upd H1 p (.lst ((sortI (dedI ns)).map V.int))) := by
    intro xs ns l vs e1 e2 e3 e4 e5 o2
    rw [intsD_eq e4] at e3
    rw [e3.intsOf] at e2
    exact ⟨l, ns, e1, e2, e5, (newL_ok r1 (Reps.ints _) o2).2⟩
  unfold srtSet at o1
  split at o1
  · split at o1
    · split at o1
      · rename_i xs _ ns hn hl
        simp only [Rep] at rv
        obtain ⟨a, vs, e1, e2, _, e3⟩ := rv
        exact fin e1 (.inl (.inl e2)) e3 hn hl o1
      · exact o1.elim
    · exact o1.elim
  · split at o1
    · split at o1
      · rename_i xs _ ns hn hl
        simp only [Rep] at rv
        obtain ⟨a, o, vs, e1, e2, _, _, e3⟩ := rv
        exact fin e1 (.inl (.inr ⟨o, e2⟩)) e3 hn hl o1
      · exact o1.elim
    · exact o1.elim
  · exact o1.elim
theorem C_is : CF .Is (isB false) := ⟨fun _ _ _ => isB_calm, fun h => ov_isB⟩
theorem C_isnot : CF .IsNot (isB true) := ⟨fun _ _ _ => isB_calm, fun h => ov_notB⟩
end
end VI
end
section
namespace VI
open PySem PySem.Spec PyProof.Rows L2
namespace Std2
open Std
/-! the draws of the laws that number by places -/
def number : SS := (ssCons (ssAsg (sIte (sOp (eqD true) (sVar 0) (sLst false saNil)) (sSl false (sVar 0) soNone (soSome (sK (.int 60)))) (sLst false (saCons (sK (.int 7)) saNil))) (sgName 2))
  (ssCons (ssAsg (sOp (addD false) (sOp ixD (sVar 2) (sOp modD (sVar 1) (sCall lenD (saCons (sVar 2) saNil)))) (sOp (mulD false) (sK (.int 31)) (sOp fdivD (sVar 1) (sCall lenD (saCons (sVar 2) saNil))))) (sgName 3))
  (ssCons (ssAsg (sOp (addD false) (sOp (mulD false) (sOp (addD false) (sOp (addD false) (sOp modD (sCall intD (saCons (sVar 3) saNil)) (sK (.int 1000003))) (sOp (mulD false) (sK (.int 977)) (sVar 1))) (sK (.int 13))) (sK (.int 48271))) (sOp modD (sCall intD (saCons (sOp fdivD (sVar 3) (sK (.int 1000003))) saNil)) (sK (.int 999983)))) (sgName 4))
  (ssCons (ssRet (sOp modD (sOp (mulD false) (sOp modD (sVar 4) (sK (.int 2147483647))) (sK (.int 65537))) (sK (.int 4294967291))))
  ssNil))))
def fNumber : List D → Bs → R D := runFn 2 5 number
def cells (ns : List Int) : List Int := if ns = [] then [7] else ns.take 60
theorem number_ok {ns : List Int} (hl : ns.length ≤ 63) {i : Int} (h0 : 0 ≤ i) (h1 : i < 2 ^ 64) (h : Bs) : ∃ z, fNumber [.scr ns, .int i] h = .ok (.int z) h := by
  have hc : ∀ h : Bs, (sIte (sOp (eqD true) (sVar 0) (sLst false saNil)) (sSl false (sVar 0) soNone (soSome (sK (.int 60)))) (sLst false (saCons (sK (.int 7)) saNil))) [some (.scr ns), some (.int i), none, none, none] h = .ok (.lst ((cells ns).map .int)) h := by
    intro h
    cases ns with
    | nil => rfl
    | cons n ms =>
      have e1 : (sOp (eqD true) (sVar 0) (sLst false saNil)) [some (.scr (n :: ms)), some (.int i), none, none, none] h = .ok (.bl true) h := rfl
      simp only [sIte, sTru, e1, bind_ok, truth]
      have e2 : cutD ((n :: ms).map D.int) none (some 60) = ((n :: ms).take 60).map D.int := by
        have := cut_hi (xs := (n :: ms).map D.int) (n := 60)
        rw [show ((60 : Nat) : Int) = 60 from rfl] at this
        rw [this, List.map_take]
      show newL false (cutD ((n :: ms).map D.int) none (some 60)) h = _
      rw [e2, newL_f (by rw [List.length_map, sizeLine_eq]; have := List.length_take_le 60 (n :: ms); omega)]
      rfl
  have q : 0 < (cells ns).length ∧ (cells ns).length ≤ 60 := by
    unfold cells
    split
    · simp
    · rename_i e
      have : 0 < ns.length := List.length_pos_iff.mpr e
      rw [List.length_take]
      omega
  obtain ⟨q1, q2⟩ := q
  obtain ⟨cs, hcs⟩ : ∃ cs, cs = cells ns := ⟨_, rfl⟩
  rw [← hcs] at q1 q2 hc
  obtain ⟨c, hix⟩ : ∃ c, L2.atI (cs.map D.int) (i % (cs.length : Int)) = some (.int c) := by
    obtain ⟨x, e, m⟩ := atI_mod (cs.map D.int) (by simpa using q1) i
    obtain ⟨c, _, rfl⟩ := List.mem_map.mp m
    exact ⟨c, by simpa using e⟩
  have hlog : ∀ a : Int, 0 ≤ a → a < 2 ^ 100 → a.natAbs.log2 ≤ 100 := fun a h1 h2 => log2_lt (by omega) h2
  have g1 : 0 ≤ i / (cs.length : Int) ∧ i / (cs.length : Int) ≤ i := ⟨Int.ediv_nonneg h0 (by omega), Int.ediv_le_self _ h0⟩
  have hlc : ((cs.length : Int)).natAbs.log2 < 9000 := Nat.lt_of_le_of_lt (hlog _ (by omega) (by omega)) (by decide)
  obtain ⟨cell, hcell⟩ : ∃ cell, cell = c + 31 * (i / (cs.length : Int)) := ⟨_, rfl⟩
  obtain ⟨low, hlow⟩ : ∃ z, z = cell % 1000003 := ⟨_, rfl⟩
  obtain ⟨high, hhigh⟩ : ∃ z, z = cell / 1000003 % 999983 := ⟨_, rfl⟩
  have b1 : 0 ≤ low ∧ low < 1000003 := by subst hlow; exact ⟨Int.emod_nonneg _ (by decide), Int.emod_lt_of_pos _ (by decide)⟩
  obtain ⟨mx, hmx⟩ : ∃ z, z = ((low + 977 * i + 13) * 48271 + high) % 2147483647 := ⟨_, rfl⟩
  have b4 : 0 ≤ mx ∧ mx < 2147483647 := by subst hmx; exact ⟨Int.emod_nonneg _ (by decide), Int.emod_lt_of_pos _ (by decide)⟩
  have m1 : ∀ h, mulD false (.int 31) (.int (i / (cs.length : Int))) h = .ok (.int (31 * (i / (cs.length : Int)))) h := fun h => mulI (by have := hlog (i / cs.length) g1.1 (by omega); have := hlog 31 (by decide) (by decide); omega)
  have m2 : ∀ h, mulD false (.int 977) (.int i) h = .ok (.int (977 * i)) h := fun h => mulI (by have := hlog i h0 (by omega); have := hlog 977 (by decide) (by decide); omega)
  have m3 : ∀ h, mulD false (.int (low + 977 * i + 13)) (.int 48271) h = .ok (.int ((low + 977 * i + 13) * 48271)) h := fun h => mulI (by have := hlog (low + 977 * i + 13) (by omega) (by omega); have := hlog 48271 (by decide) (by decide); omega)
  have m7 : ∀ h, mulD false (.int mx) (.int 65537) h = .ok (.int (mx * 65537)) h := fun h => mulI (by have := hlog mx (by omega) (by omega); have := hlog 65537 (by decide) (by decide); omega)
  refine ⟨mx * 65537 % 4294967291, ?_⟩
  refine run_rt (d := .int _) rfl ?_ rfl
  show number [some (.scr ns), some (.int i), none, none, none] (inB h) = _
  unfold number
  simp only [ssCons, ssAsg, hc, toF_ok, Fbind_nx, sgName, toF'_ok, List.set_cons_succ, List.set_cons_zero, sOp, sVar, List.getElem?_cons_succ, List.getElem?_cons_zero, bind_ok, sCall, saCons, saNil, sK, intD, lenD, seqOf, lstOf, List.length_map, modI (j := (cs.length : Int)) (by omega), ixD, hix,
    fdivI (j := (cs.length : Int)) ⟨by omega, hlc⟩, m1, addD]
  rw [← hcell]
  simp only [sOp, sVar, List.getElem?_cons_succ, List.getElem?_cons_zero, bind_ok, sCall, saCons, saNil, sK, intD, modI (j := 1000003) (by decide), fdivI (j := 1000003) (by decide), modI (j := 999983) (by decide), m2, addD]
  rw [← hlow, ← hhigh]
  simp only [m3, bind_ok, addD, toF_ok, toF'_ok, Fbind_nx, sgName, List.set_cons_succ, List.set_cons_zero, List.getElem?_cons_succ, List.getElem?_cons_zero, ssRet, sOp, sVar, sK, modI (j := 2147483647) (by decide)]
  refine ret_ok (op_ok (h1 := inB h) (h2 := inB h) (op_ok (h1 := inB h) (h2 := inB h) (op_ok (h1 := inB h) (h2 := inB h) rfl rfl (by rw [modI (j := 2147483647) (by decide), ← hmx])) rfl (m7 _)) rfl (modI (by decide)))
end Std2
end VI
end
section
namespace VI
open PySem PySem.Spec PyProof.Rows L2
/-! t[::-1] of a tuple -/
section
variable {prog : Program} {w : World} {A : Around} {E : Value → Shared → Prop} {s : Shared}
theorem rev_pick (xs : Array Value) : ((List.range xs.size).filterMap fun (m : Nat) => xs[(((xs.size : Int) - 1) + (m : Int) * (-1)).toNat]?).toArray = xs.toList.reverse.toArray := by
  congr 1
  have e : ∀ m, m ∈ List.range xs.size → xs[(((xs.size : Int) - 1) + (m : Int) * (-1)).toNat]? = xs.toList.reverse[m]? := by
    intro m hm
    have hm := List.mem_range.mp hm
    rw [List.getElem?_reverse (by rw [Array.length_toList]; exact hm), Array.length_toList, Array.getElem?_toList]
    congr 1
    omega
  have e2 : (List.range xs.size).filterMap (fun (m : Nat) => xs[(((xs.size : Int) - 1) + (m : Int) * (-1)).toNat]?) = (List.range xs.size).filterMap fun m => xs.toList.reverse[m]? := by
    have cg : ∀ (l : List Nat) (f g : Nat → Option Value), (∀ m ∈ l, f m = g m) → l.filterMap f = l.filterMap g := by
      intro l f g
      induction l with
      | nil => intro _; rfl
      | cons x l ih =>
        intro q
        rw [List.filterMap_cons, List.filterMap_cons, q x List.mem_cons_self, ih fun m hm => q m (List.mem_cons_of_mem _ hm)]
    exact cg _ _ _ e
  rw [e2]
  have key : ∀ l : List Value, (List.range l.length).filterMap (fun m => l[m]?) = l := by
    intro l
    induction l with
    | nil => rfl
    | cons x l ih =>
      rw [List.length_cons, List.range_succ_eq_map, List.filterMap_cons, List.filterMap_map]
      simp only [List.getElem?_cons_zero]
      congr 1
  have hk := key xs.toList.reverse
  rw [List.length_reverse, Array.length_toList] at hk
  exact hk
theorem applied_rev {sl : Addr} {vl vu vs : Value} {n : Nat} {Q : Int × Int × Nat → Shared → Prop} (hs : s.heap.IsSliceOf sl vl vu vs) (pl : IsPart vl none) (pu : IsPart vu none) (ps : IsPart vs (some (-1)))
    (h : Q ((n : Int) - 1, -1, n) s) : wpAny (model prog w) A (Builtin.Slice.sliceApplied (.ref sl) (pure (n : Int))) Q E s := by
  obtain ⟨os, hos, hcs, hds⟩ := id hs
  unfold Builtin.Slice.sliceApplied Builtin.Slice.sliceFields
  refine wpAny_bind (wpAny_bind (wpAny_field hos hds (x := vl) rfl (wpAny_bind (wpAny_field hos hds (x := vu) rfl (wpAny_bind (wpAny_field hos hds (x := vs) rfl (wpAny_pure ?_)))))))
  refine wpAny_bind (HT.slicePart_ ps ?_)
  show wpAny _ _ (if ((-1 : Int) == 0) = true then _ else _) _ _ s
  rw [if_neg (by decide)]
  refine wpAny_bind (HT.slicePart_ pl (wpAny_bind (HT.slicePart_ pu (wpAny_bind (wpAny_pure ?_)))))
  show wpAny _ _ (match Builtin.Slice.sliceAdjust none none (-1) (n : Int) with | (lo, hi) => pure (lo, (-1 : Int), Builtin.Slice.slicePlaces lo hi (-1))) _ _ s
  have e : Builtin.Slice.sliceAdjust none none (-1) (n : Int) = ((n : Int) - 1, -1) := by
    unfold Builtin.Slice.sliceAdjust
    simp
  rw [e]
  have e2 : Builtin.Slice.slicePlaces ((n : Int) - 1) (-1) (-1) = n := by
    unfold Builtin.Slice.slicePlaces
    have h1 : ¬ ((-1 : Int) > 0) := by omega
    simp only [h1, if_false, Int.neg_neg, Int.ediv_one]
    split <;> omega
  show wpAny _ _ (pure ((n : Int) - 1, (-1 : Int), Builtin.Slice.slicePlaces ((n : Int) - 1) (-1) (-1))) _ _ s
  rw [e2]
  exact wpAny_pure h
theorem getItem_tuple_rev {t sl : Addr} {items : Array Value} {vl vu vs : Value} {Q : Value → Shared → Prop} (ht : IsTup s.heap t items) (hs : s.heap.IsSliceOf sl vl vu vs) (pl : IsPart vl none) (pu : IsPart vu none) (ps : IsPart vs (some (-1)))
    (h : Q (.ref s.heap.objs.size) { s with heap := s.heap.push { cls := .type "tuple", data := .seq items.toList.reverse.toArray } })
    (hsz : items.size ≤ sizeLine) : wpAny (model prog w) A (getItem (.ref t) (.ref sl)) Q E s := by
  have htake : sizeOk (.seq items.toList.reverse.toArray) := by
    show items.toList.reverse.toArray.size ≤ sizeLine
    rw [List.size_toArray, List.length_reverse, Array.length_toList]
    exact hsz
  obtain ⟨os, hos, hcs, hds⟩ := id hs
  have hTs : s.TypeIs (.ref sl) "slice" := ⟨os, hos, hcs⟩
  unfold getItem
  try with_reducible refine wpAny_holding ?_
  first | refine wpAny_bind (wpAny_pure ?_) | skip
  refine wpAny_bind (wpAny_sequenceKey ht.typeIs (by decide) ?_)
  refine wpAny_bind (wpAny_callSpecial?_slot (name := Str.ofString "__getitem__") ht.typeIs PyProof.Rows.slot_tuple_getitem
    (wpAny_call_entry PyProof.Rows.slot_tuple_getitem ht.typeIs entry_tuple_getitem ?_ (args_tuple_getitem _ _)))
  show wpAny _ _ (Builtin.Tuple.tupleItemsOf (.ref t) >>= _) _ _ s
  refine wpAny_bind (tupleItemsOf_ ht ?_)
  refine wpAny_bind (wpAny_typeOf hTs ?_)
  rw [if_pos (by decide)]
  refine wpAny_bind (applied_rev hs pl pu ps ?_)
  have hno : ¬ ((((items.size : Int) - 1) == 0 && (-1 : Int) == 1 && items.size == items.size) = true) := by
    intro q
    rw [Bool.and_eq_true, Bool.and_eq_true] at q
    exact absurd q.1.2 (by decide)
  show wpAny _ _ (if (((items.size : Int) - 1) == 0 && (-1 : Int) == 1 && items.size == items.size) = true then _ else _) _ _ s
  rw [if_neg hno, rev_pick]
  first
    | exact wpAny_bind (m := Builtin.Tuple.tupleExact _) (wpAny_newObj_type (wpAny_pure ⟨_, rfl, wpAny_pure h⟩) htake)
    | exact wpAny_bind (m := Builtin.Tuple.tupleExact _) (wpAny_newObj_type (wpAny_bind (wpAny_pure (wpAny_pure ⟨_, rfl, wpAny_pure h⟩))) htake)
    | exact wpAny_bind (wpAny_bind (m := Builtin.Tuple.tupleExact _) (wpAny_newObj_type (wpAny_pure (wpAny_pure ⟨_, rfl, wpAny_pure h⟩)) htake))
    | exact wpAny_bind (wpAny_bind (m := Builtin.Tuple.tupleExact _) (wpAny_newObj_type (wpAny_pure ⟨_, rfl, wpAny_pure h⟩) htake))
end
section
variable {X : Cx}
def tRevT (K : PySem.W.Frag) (te : TE) : TE := fun σ H Q => te σ H fun x H1 => ∃ a xs, x = .ref a ∧ SqT K H1 a xs ∧ ToP H1 xs.reverse Q
theorem pe_revT {e : Expr} {te : TE} {k : Nat} {p1 p2 p3 pos : Pos} (he : PE X e te) : PE X (.Subscript e (.Slice none none (some (.UnaryOp .USub (.Constant (.int 1) k p1) p2)) p3) pos) (tRevT X.K te) := by
  refine ⟨fun pins s σ H Q I h => ?_⟩
  refine Subscript_ (thn (he.run pins s σ H _ I h) fun v s1 ⟨x, H1, I1, r1, q1⟩ => ?_)
  obtain ⟨a, xs, ex, hx, q⟩ := q1
  subst ex
  cases r1
  have hst : PO X (some (.UnaryOp .USub (.Constant (.int 1) k p1) p2)) (tPart (tUn (rU fun i => .int (-i)) (tC (.int 1)))) := po_some (pe_un un_neg pe_int)
  refine wpAny_Slice (thn (po_none.run pins s1 σ H1 (fun o H2 => o = none ∧ H2 = H1) I1 ⟨rfl, rfl⟩) fun vl s2 ⟨l, H2, I2, pl, el, e2⟩ => ?_)
  subst el e2
  refine thn (po_none.run pins s2 σ H2 (fun o H3 => o = none ∧ H3 = H2) I2 ⟨rfl, rfl⟩) fun vu s3 ⟨u, H3, I3, pu, eu, e3⟩ => ?_
  subst eu e3
  refine thn (hst.run pins s3 σ H3 (fun o H4 => o = some (-1) ∧ H4 = H3) I3 ⟨1, rfl, -1, rfl, rfl, rfl⟩) fun vs s4 ⟨o, H4, I4, ps, eo, e4⟩ => ?_
  subst eo e4
  have I5 : Inv X pins σ H4 { s4 with heap := s4.heap.push { cls := .type "slice", data := .fields #[vl, vu, vs] } } := I4.kept (t' := s4.toks) fun b ob q => Heap.get?_push_of_some _ q
  obtain ⟨its, r, ht, hz⟩ := I5.tuple hx
  have hlen := r.length
  show wpAny (model X.prog X.w) X.A (subscriptTail e (.Slice none none (some (.UnaryOp .USub (.Constant (.int 1) k p1) p2)) p3) (.ref a) (.ref s4.heap.objs.size)) (EP X pins σ Q) X.xe { s4 with heap := s4.heap.push { cls := .type "slice", data := .fields #[vl, vu, vs] } }
  refine tail_any (ops := [.ref a, .ref s4.heap.objs.size]) ht.typeIs (PyProof.Rows.slot_tuple_getitem.lookup) ?_ (by with_unfolding_all rfl)
  refine getItem_tuple_rev ht (Heap.IsSliceOf.new _ vl vu vs) pl pu ps ?_ (by rw [List.size_toArray]; omega)
  exact laidP I5 (by rw [List.length_reverse]; exact hz) r.reverse q
variable {T : Tb} {W : WX}
def revX (bx : Bool) (d : D) (h : Bs) : R D := match d with
  | .tpl xs => newP xs.reverse h
  | _ => revD bx d h
theorem pv_revX {bx : Bool} {e : Expr} {k : Nat} {p1 p2 p3 pos : Pos} {s : SV} (hK : X.K = T.K) (he : PE X e (tV T W s)) : PE X (.Subscript e (.Slice none none (some (.UnaryOp .USub (.Constant (.int 1) k p1) p2)) p3) pos) (tV T W (sUn (revX bx) s)) := by
  refine ⟨fun pins s' σ H Q I ⟨μ, ρ, h, r, e, o⟩ => ?_⟩
  have h1 := pv_rev (bx := bx) (k := k) (p1 := p1) (p2 := p2) (p3 := p3) (pos := pos) hK he
  have h2 := pe_revT (k := k) (p1 := p1) (p2 := p2) (p3 := p3) (pos := pos) he
  cases q : s ρ h with
  | no => exact h1.run pins s' σ H Q I ⟨μ, ρ, h, r, e, by unfold sUn at o ⊢; rw [q] at o ⊢; exact o⟩
  | ex x h' => exact h1.run pins s' σ H Q I ⟨μ, ρ, h, r, e, by unfold sUn at o ⊢; rw [q] at o ⊢; exact o⟩
  | ok d h' =>
    by_cases hd : ∃ xs, d = .tpl xs
    · obtain ⟨xs, rfl⟩ := hd
      refine h2.run pins s' σ H Q I ⟨μ, ρ, h, r, e, ?_⟩
      have o1 := OutV.bind (show OutV T W σ μ H Q ((s ρ h).bind fun d h => revX bx d h) from o)
      rw [q] at o1 ⊢
      intro μ1 H1 v s1 r1 rv
      obtain ⟨a, ob, vs, e1, e2, e3, e4, e5⟩ := rv.tplOf
      have o2 : OutV T W σ μ1 H1 Q (newP xs.reverse h') := by
        unfold sUn at o
        rw [q] at o
        exact OutV.step (show OutV T W σ μ H Q (newP xs.reverse h') from o) s1
      exact ⟨a, vs, e1, SqT.fz e2, (newP_ok r1 e5.reverse o2).2⟩
    · refine h1.run pins s' σ H Q I ⟨μ, ρ, h, r, e, ?_⟩
      unfold sUn at o ⊢
      rw [q] at o ⊢
      have e5 : revX bx d h' = revD bx d h' := by
        cases d with
        | tpl xs => exact absurd ⟨xs, rfl⟩ hd
        | _ => rfl
      show OutV T W σ μ H Q (revD bx d h')
      rw [← e5]
      exact o
end
end VI
end
section
namespace VI
open PySem PySem.Spec PyProof.Rows L2
/-! more plain evaluation -/
section
variable {ρ : Ev} {h h1 h2 : Bs} {a b : Bool} {sa sb sc : SV}
theorem or_ok (e1 : sa ρ h = .ok (.bl a) h) (e2 : a = false → sb ρ h = .ok (.bl b) h) : sOr sa sb ρ h = .ok (.bl (a || b)) h := by
  unfold sOr sTru
  rw [e1]
  cases a with
  | true => rfl
  | false => rw [Bool.false_or]; simp -implicitDefEqProofs only [bind_ok, truth, e2 rfl, Bool.false_eq_true, if_false]
theorem and_ok (e1 : sa ρ h = .ok (.bl a) h) (e2 : a = true → sb ρ h = .ok (.bl b) h) : sAnd sa sb ρ h = .ok (.bl (a && b)) h := by
  unfold sAnd sTru
  rw [e1]
  cases a with
  | false => rfl
  | true => rw [Bool.true_and]; simp -implicitDefEqProofs only [bind_ok, truth, e2 rfl, if_true]
theorem not_ok (e1 : sa ρ h = .ok (.bl a) h1) : sNot sa ρ h = .ok (.bl (!a)) h1 := by
  simp -implicitDefEqProofs only [sNot, sTru, e1, bind_ok, truth]
theorem tru_ok (e1 : sa ρ h = .ok (.bl a) h1) : sTru sa ρ h = .ok a h1 := by
  simp -implicitDefEqProofs only [sTru, e1, bind_ok, truth]
theorem if_ok {t u : SS} (e : sa ρ h = .ok (.bl a) h1) : ssIf sa t u ρ h = if a then t ρ h1 else u ρ h1 := by
  cases a with
  | true => rw [if_t e]; rfl
  | false => rw [if_f e]; rfl
theorem lt_okL {f g : D → List D → Bs → R D} {so : SV} {sx : SA} {o : D} {xs : List D} {r : R D} (e1 : sLt f g so sx ρ h = r) : sLt f g so sx ρ h = r := e1
theorem tupP_ok {sx : SA} {xs : List D} (e1 : sx ρ h = .ok xs h1) (hl : xs.length ≤ sizeLine) : sTupP sx ρ h = .ok (.tpl xs) h1 := by
  simp -implicitDefEqProofs only [sTupP, e1, bind_ok, newP, hl, if_true]
theorem lst_ok {sx : SA} {xs : List D} (e1 : sx ρ h = .ok xs h1) (hl : xs.length ≤ sizeLine) : sLst false sx ρ h = .ok (.lst xs) h1 := by
  simp -implicitDefEqProofs only [sLst, e1, bind_ok, newL_f hl]
theorem any_bls {bs : List Bool} : anyD' [.lst (bs.map .bl)] h = .ok (.bl (bs.any id)) h := by
  simp only [anyD, lstOf, blsD_map]
theorem for_rt {it : SI} {g : SG} {b : SS} {d : D} {xs : List D} (e1 : it ρ h = .ok (xs, none) h1) (e2 : loopS g b xs ρ h1 = .rt d h2) : ssFor it g b ρ h = .rt d h2 := by
  simp -implicitDefEqProofs only [ssFor, e1, toF_ok, lockO_none, e2]
  rfl
theorem cons_rt {s t : SS} {d : D} (e : s ρ h = .rt d h1) : ssCons s t ρ h = .rt d h1 := by
  simp -implicitDefEqProofs only [ssCons, e, Fbind_rt]
theorem loop_rt {g : SG} {body : SS} {d r : D} {ds : List D} {ρ1 : Ev} (e1 : g d ρ h = .ok ρ1 h1) (e2 : body ρ1 h1 = .rt r h2) : loopS g body (d :: ds) ρ h = .rt r h2 := by
  simp -implicitDefEqProofs only [loopS, e1, e2]
theorem lc2_emb {α β : Type} {g g1 : SG} {it1 : SI} {own1 : List Nat} {el : SV} (E : α → D) (E1 : β → D) (F : α → β → D) (m : List β) : ∀ (l : List α), (∀ a ∈ l, ∃ ρ1, g (E a) ρ h = .ok ρ1 h ∧ it1 ρ1 h = .ok (m.map E1, none) h ∧ ∀ b ∈ m, ∃ ρ2, g1 (E1 b) (wipeE ρ1 own1) h = .ok ρ2 h ∧ el ρ2 h = .ok (F a b) h) →
    lcS2 g (fun _ h => .ok true h) it1 own1 g1 (fun _ h => .ok true h) el ρ (l.map E) h = .ok (l.flatMap fun a => m.map (F a)) h
  | [], _ => rfl
  | d :: ds, H => by
    obtain ⟨ρ1, e1, e2, e3⟩ := H d List.mem_cons_self
    have ih := lc2_emb E E1 F m ds fun x hx => H x (List.mem_cons_of_mem _ hx)
    have e4 := lc_emb1 (g := g1) (el := el) (ρ := wipeE ρ1 own1) (h := h) E1 (F d) m e3
    simp -implicitDefEqProofs only [List.map_cons, lcS2, e1, e2, lockO_none, e4, unlO_none, ih]
    rfl
theorem lc2_ok {own own1 : List Nat} {it it1 : SI} {g g1 : SG} {tt tt1 : SB} {el : SV} {xs ys : List D} (e1 : it ρ h = .ok (xs, none) h) (e2 : lcS2 g tt it1 own1 g1 tt1 el (wipeE ρ own) xs h = .ok ys h) (hl : ys.length ≤ sizeLine) : sLc2 false own own1 it g tt it1 g1 tt1 el ρ h = .ok (.lst ys) h := by
  simp -implicitDefEqProofs only [sLc2, e1, bind_ok, lockO_none, e2, unlR_ok, unlO_none, newL_f hl]
end
/-- pairs as the walks of zip and enumerate give them -/
def pT (p : Int × Int) : D := .tup [.int p.1, .int p.2]
theorem zip_ints : ∀ (X c : List Int), zipL (X.map .int) (c.map .int) = (X.zip c).map pT
  | [], _ => by simp [zipL]
  | _ :: _, [] => by simp [zipL]
  | x :: X, y :: c => by
    simp only [List.map_cons, zipL, zip_ints X c, List.zip_cons_cons]
    rfl
theorem enum_ints : ∀ (c : List Int) (k : Nat), enumL k (c.map .int) = ((List.range' k c.length).map fun (i : Nat) => pT (i, c.getD (i - k) 0))
  | [], _ => rfl
  | x :: c, k => by
    rw [List.map_cons, enumL, enum_ints c (k + 1), List.length_cons, List.range'_succ, List.map_cons]
    congr 1
    · simp [pT]
    · refine List.map_congr_left fun i hi => ?_
      have := List.mem_range'_1.mp hi
      obtain ⟨j, rfl⟩ : ∃ j, i = k + 1 + j := ⟨i - (k + 1), by omega⟩
      rw [show k + 1 + j - (k + 1) = j by omega, show k + 1 + j - k = j + 1 by omega]
      rfl
end VI
end
section
namespace VI
open PySem PySem.Spec PyProof.Rows L2
/-! a, b, c = x, y, z -/
section
variable {X : Cx} {T : Tb} {W : WX} {μ : Mu} {H : Hp}
theorem Reps.is3 {x y z : D} {vs : List V} (h : Reps T μ H [x, y, z] vs) : ∃ u v w, vs = [u, v, w] ∧ Rep T μ H x u ∧ Rep T μ H y v ∧ Rep T μ H z w := by
  simp only [Reps] at h
  obtain ⟨u, r, rfl, h1, v, r2, rfl, h2, w, r3, rfl, h3, rfl⟩ := h
  exact ⟨u, v, w, rfl, h1, h2, h3⟩
theorem psv_par3 {i j l : Nat} {x y z : Str} {a b c : Expr} {px py pz pt pos : Pos} {kt k2 pt2} {sA : SA} (hc : X.calm = true) (hN : X.N.Nodup) (hi : X.N[i]? = some x) (hj : X.N[j]? = some y) (hl : X.N[l]? = some z) (hij : i ≠ j) (hil : i ≠ l) (hjl : j ≠ l)
    (hx : X.env.scope.names.lookup x = some .local) (hy : X.env.scope.names.lookup y = some .local) (hz : X.env.scope.names.lookup z = some .local) (ha : PA X [a, b, c] (tA' T W sA))
    (hw : swappedStores [.Tuple [.Name x px, .Name y py, .Name z pz] kt pt] (.Tuple [a, b, c] k2 pt2) X.env = pure (some [x, y, z])) :
    PS X (.Assign [.Tuple [.Name x px, .Name y py, .Name z pz] kt pt] (.Tuple [a, b, c] k2 pt2) pos) (tS' T W (ssAsg (sTup sA) (sgTup 3 (sgCons (sgName i) (sgCons (sgName j) (sgCons (sgName l) sgNil)))))) :=
  PS.imp (ps_par3 hc hN hi hj hl hij hil hjl hx hy hz ha hw rfl) fun D σ H ⟨μ, ρ, h, r, e, o⟩ => by
    refine ⟨μ, ρ, h, r, e, ?_⟩
    unfold ssAsg sTup at o
    cases q : sA ρ h with
    | no => rw [q] at o; exact o
    | ex x h1 => rw [q] at o; exact fun μ1 H1 c d s r1 rx => o μ1 H1 σ c d s r1 (e.step s) rx
    | ok ds h1 =>
      rw [q] at o
      simp only [R.bind, newT] at o
      split at o
      · simp only [R.toF, sgTup] at o
        split at o
        · rename_i hl
          match ds, hl, o with
          | [d1, d2, d3], _, o =>
            intro μ1 H1 vs s1 r1 rv
            obtain ⟨u, v, w, rfl, rv1, rv2, rv3⟩ := rv.is3
            exact ⟨u, v, w, rfl, o μ1 H1 _ s1 r1 ((((e.step s1).set rv1).set rv2).set rv3)⟩
        · exact o.elim
      · exact o.elim
end
section
variable {Z : Cfg} {t : Tx} {k : Nat} {N : List Str} {sc : Scope} {raw : Option Scope} {X : Cx} {W : WX} {x y z : Str} {a b c : Expr}
theorem s_par3 {i j l : Nat} {px py pz pt pos : Pos} {kt k2 pt2} {s : SA} (h : XO Z t k N sc raw X W) (gx : locC N sc raw i x = true) (gy : locC N sc raw j y = true) (gz : locC N sc raw l z = true)
    (hl : (decide (i ≠ j) && decide (i ≠ l) && decide (j ≠ l) && decide (sc.names.lookup x = some .local) && decide (sc.names.lookup y = some .local) && decide (sc.names.lookup z = some .local)) = true)
    (hw : swC [.Name x px, .Name y py, .Name z pz] [a, b, c] sc = some (some [x, y, z])) (ha : PA X [a, b, c] (tA' Z.T W s)) :
    PS X (.Assign [.Tuple [.Name x px, .Name y py, .Name z pz] kt pt] (.Tuple [a, b, c] k2 pt2) pos) (tS' Z.T W (ssAsg (sTup s) (sgTup 3 (sgCons (sgName i) (sgCons (sgName j) (sgCons (sgName l) sgNil)))))) := by
  simp only [Bool.and_eq_true, decide_eq_true_eq] at hl
  obtain ⟨⟨⟨⟨⟨a1, a2⟩, a3⟩, a4⟩, a5⟩, a6⟩ := hl
  exact psv_par3 h.calm h.nd' (h.loc gx).1 (h.loc gy).1 (h.loc gz).1 a1 a2 a3 (by rw [h.sc]; exact a4) (by rw [h.sc]; exact a5) (by rw [h.sc]; exact a6) ha (sw_of h.sc h.kd hw)
end
end VI
end
section
namespace VI
open PySem PySem.Spec PyProof.Rows L2
/-! plain evaluation: lists and tuples of whole numbers, boxes -/
abbrev pI (l : List Int) : D := .tpl (l.map .int)
def at' (l : List Int) (i : Nat) : Int := l.getD i 0
theorem at_get {l : List Int} {i : Nat} (h : i < l.length) : l[i]? = some (at' l i) := by
  unfold at'
  rw [List.getD_eq_getElem?_getD, List.getElem?_eq_getElem h]
  rfl
theorem at_mem {l : List Int} {i : Nat} (h : i < l.length) : at' l i ∈ l := List.mem_of_getElem? (at_get h)
theorem at_set (l : List Int) (i j : Nat) (v : Int) (hi : i < l.length) : at' (l.set i v) j = if i = j then v else at' l j := by
  unfold at'
  rw [List.getD_eq_getElem?_getD, List.getD_eq_getElem?_getD]
  by_cases e : i = j
  · subst e
    rw [List.getElem?_set_self hi, if_pos rfl]
    rfl
  · rw [List.getElem?_set_ne e, if_neg e]
theorem atI_nat {l : List Int} {i : Nat} (h : i < l.length) : atI (l.map D.int) (i : Int) = some (.int (at' l i)) := by
  unfold atI
  rw [List.length_map, show ixN l.length (i : Int) = some i by unfold ixN; rw [if_pos (by omega), if_pos (by omega)]; simp]
  show (List.map D.int l)[i]? = _
  simp only [List.getElem?_map, at_get h, Option.map_some]
theorem atI_neg {l : List Int} (h : 0 < l.length) : atI (l.map D.int) (-1) = some (.int (at' l (l.length - 1))) := by
  have e1 : ixN l.length (-1) = some (l.length - 1) := by
    unfold ixN
    rw [if_neg (by omega)]
    first
      | rw [if_pos (by omega)]; congr 1; omega
      | (split <;> first | omega | (congr 1; omega))
  unfold atI
  rw [List.length_map, e1]
  show (List.map D.int l)[l.length - 1]? = _
  simp only [List.getElem?_map, at_get (show l.length - 1 < l.length by omega), Option.map_some]
section
variable {h : Bs}
theorem ixS {d : D} {l : List Int} {i : Nat} (e : seqOf h d = some (l.map .int)) (hi : i < l.length) : ixD d (.int i) h = .ok (.int (at' l i)) h := by
  simp only [ixD, e, atI_nat hi]
theorem ixM {d : D} {l : List Int} (e : seqOf h d = some (l.map .int)) (hi : 0 < l.length) : ixD d (.int (-1)) h = .ok (.int (at' l (l.length - 1))) h := by
  simp only [ixD, e, atI_neg hi]
/-- a tuple or a list of whole numbers -/
def IsX (d : D) (X : List Int) : Prop := d = pI X ∨ d = lI X
theorem IsX.seq {d : D} {X : List Int} (i : IsX d X) : seqOf h d = some (X.map .int) := by
  rcases i with rfl | rfl <;> rfl
theorem IsX.len {d : D} {X : List Int} (i : IsX d X) : lenD [d] h = .ok (.int X.length) h := by
  rcases i with rfl | rfl <;> simp only [lenD, seqOf, lstOf, List.length_map]
theorem IsX.sum {d : D} {X : List Int} (i : IsX d X) : sumD [d] h = .ok (.int X.sum) h := by
  rcases i with rfl | rfl <;> simp only [sumD, seqOf, lstOf, intsD_map]
def minI : List Int → Int
  | [] => 0
  | x :: xs => minFold x xs
theorem IsX.min {d : D} {X : List Int} (i : IsX d X) (hX : X ≠ []) : minDS [d] h = .ok (.int (minI X)) h := by
  match X, hX with
  | x :: xs, _ =>
    rcases i with rfl | rfl <;> simp only [minDS, mmD, seqOf, lstOf, intsD_map] <;> rfl
theorem minF_ok : ∀ (xs : List Int) (x : Int), minFold x xs ∈ x :: xs ∧ ∀ q ∈ x :: xs, minFold x xs ≤ q
  | [], x => ⟨List.mem_cons_self, fun q hq => by rw [List.mem_singleton.mp hq]; exact Int.le_refl _⟩
  | y :: xs, x => by
    obtain ⟨a, b⟩ := minF_ok xs (min x y)
    have e : minFold x (y :: xs) = minFold (min x y) xs := rfl
    rw [e]
    have b0 := b _ List.mem_cons_self
    refine ⟨?_, fun q hq => ?_⟩
    · rcases List.mem_cons.mp a with z | z
      · rw [z]
        by_cases q : x ≤ y
        · rw [Int.min_eq_left q]; exact List.mem_cons_self
        · rw [Int.min_eq_right (by omega)]; exact List.mem_cons_of_mem _ List.mem_cons_self
      · exact List.mem_cons_of_mem _ (List.mem_cons_of_mem _ z)
    · rcases List.mem_cons.mp hq with z | z
      · rw [z]; omega
      · rcases List.mem_cons.mp z with z | z
        · rw [z]; omega
        · exact b q (List.mem_cons_of_mem _ z)
theorem minI_ok {X : List Int} (hX : X ≠ []) : minI X ∈ X ∧ ∀ q ∈ X, minI X ≤ q := by
  match X, hX with
  | x :: xs, _ => exact minF_ok xs x
theorem countP_int (x : Int) : ∀ l : List Int, (l.map PyData.int).countP (fun y => PyData.eqv y (.int x)) = l.count x
  | [] => rfl
  | y :: ys => by
    rw [List.map_cons, List.countP_cons, countP_int x ys, List.count_cons, eqv_int]
    congr 1
theorem py_pI (X : List Int) : py pyN h (pI X) = some (.tuple (X.map .int)) := by
  show (mapO (py _ h) (X.map .int)).map PyData.tuple = _
  rw [py_ints]
  rfl
/-- d.count(x) -/
theorem slt_ok {d : D} {F : List Int} {x : Int} {so : SV} {sx : SA} {ρ : Ev} (i : IsX d F) (e1 : so ρ h = .ok d h) (e2 : sx ρ h = .ok [.int x] h) : sLt cntL cntT so sx ρ h = .ok (.int (F.count x : Nat)) h := by
  unfold sLt
  rw [e1]
  rcases i with rfl | rfl
  · show (sx ρ h).bind _ = _
    rw [e2]
    show cntT (pI F) [.int x] h = _
    simp only [cntT, py_pI, show py pyN h (.int x) = some (.int x) from rfl, countP_int]
  · show (sx ρ h).bind _ = _
    rw [e2]
    show cntL (lI F) [.int x] h = _
    simp only [cntL, show py pyN h (lI F) = some (.list (F.map .int)) from py_lI F, show py pyN h (.int x) = some (.int x) from rfl, countP_int]
/-- a box of whole numbers -/
theorem get_box {b : Nat} {xs : List Int} {i : Nat} (e : h.bs[b]? = some (.lst false (xs.map .int))) (hi : i < xs.length) : getD (.ref b) (.int i) h = .ok (.int (at' xs i)) h := by
  simp only [getD, seqOf, lstOf, e, atI_nat hi]
theorem seq_box {b : Nat} {xs : List Int} (e : h.bs[b]? = some (.lst false (xs.map .int))) : seqOf h (.ref b) = some (xs.map .int) := by
  simp only [seqOf, lstOf, e]
theorem set_box {b : Nat} {xs : List Int} {i : Nat} {v : Int} (e : h.bs[b]? = some (.lst false (xs.map .int))) (hi : i < xs.length) (ok : okW h b (.int v) = true) : setD (.ref b) (.int i) (.int v) h = .ok .non (putL b ((xs.set i v).map .int) h) := by
  have : ixN xs.length (i : Int) = some i := by unfold ixN; rw [if_pos (by omega), if_pos (by omega)]; simp
  simp only [setD, e, List.length_map, this, ok, if_true, List.map_set]
theorem rng_ok {n : Nat} (hn : n < 2 ^ 24) : itRng1 [.int n] h = .ok ((List.range n).map (fun (i : Nat) => D.int i), none) h := by
  unfold itRng1
  show (if _ then R.ok (rngItems 0 ((n : Int)).toNat, none) h else .no) = _
  rw [if_pos (by constructor <;> omega), show ((n : Int)).toNat = n by omega]
  unfold rngItems
  congr 2
  refine List.map_congr_left fun i _ => ?_
  show D.int (0 + (i : Int)) = _
  rw [Int.zero_add]
theorem enum_ok {c : List Int} : itEnum2 [pI c] h = .ok ((List.range c.length).map fun (i : Nat) => pT ((i : Int), at' c i), none) h := by
  show R.ok (enumL 0 (c.map .int), none) h = _
  rw [enum_ints, List.range_eq_range']
  rfl
theorem isi_int (K : PySem.W.Frag) (ct : Ct) (x : Int) (u : Nat) (hu : u < 3) : isiD (tbC ct K) u (.int x) h = .ok (.bl (2 == u)) h := by
  have : u = 0 ∨ u = 1 ∨ u = 2 := by omega
  rcases this with rfl | rfl | rfl <;> rfl
def isNum (T : Tb) : SS := (ssCons (ssRet (sAnd (sUn (isiD T 2) (sVar 0)) (sAnd (sNot (sUn (isiD T 1) (sVar 0))) (sChn leS leS (sVar 1) (sVar 0) (sVar 2))))) ssNil)
theorem num_ok {K : PySem.W.Frag} {ct : Ct} {x a b : Int} : runFn 3 3 (isNum (tbC ct K)) [.int x, .int a, .int b] h = .ok (.bl (decide (a ≤ x) && decide (x ≤ b))) h := by
  refine run_rt rfl ?_ rfl
  have hsl : slots 3 [.int x, .int a, .int b] = [some (.int x), some (.int a), some (.int b)] := rfl
  rw [hsl]
  unfold isNum
  have e1 : (2 == 2) = true := rfl
  have e2 : (2 == 1) = false := rfl
  simp -implicitDefEqProofs only [ssCons, ssRet, sAnd, sNot, sTru, sUn, sVar, List.getElem?_cons_succ, List.getElem?_cons_zero, bind_ok, isi_int K ct x 2 (by decide), isi_int K ct x 1 (by decide), e1, e2, truth, if_true, Bool.not_false, sChn, leS, cmpS]
  by_cases q : a ≤ x
  · simp -implicitDefEqProofs only [q, decide_true, bind_ok, truth, toF_ok, Fbind_rt, Bool.true_and]
  · simp -implicitDefEqProofs only [q, decide_false, bind_ok, truth, toF_ok, Fbind_rt, Bool.false_and]
theorem chn_ok {sa sb sc : SV} {ρ : Ev} {x y z : Int} (e1 : sa ρ h = .ok (.int x) h) (e2 : sb ρ h = .ok (.int y) h) (e3 : sc ρ h = .ok (.int z) h) : sChn leS leS sa sb sc ρ h = .ok (.bl (decide (x ≤ y) && decide (y ≤ z))) h := by
  simp -implicitDefEqProofs only [sChn, e1, e2, bind_ok, leS, cmpS, truth]
  by_cases q : x ≤ y
  · simp -implicitDefEqProofs only [q, decide_true, bind_ok, truth, e3, Bool.true_and]
  · simp -implicitDefEqProofs only [q, decide_false, bind_ok, truth, Bool.false_and]
theorem lc_all {own : List Nat} {it : SI} {g : SG} {el : SV} {ρ : Ev} {l : List Int} {p : Int → Bool} (e1 : it ρ h = .ok (l.map .int, none) h) (H : ∀ x ∈ l, ∃ ρ1, g (.int x) (wipeE ρ own) h = .ok ρ1 h ∧ el ρ1 h = .ok (.bl (p x)) h) (hl : l.length ≤ sizeLine) :
    (sCall allD' (saCons (sLc false own it g (fun _ h => .ok true h) el) saNil)) ρ h = .ok (.bl (l.all p)) h := by
  have c1 : sLc false own it g (fun _ h => .ok true h) el ρ h = .ok (.lst ((l.map p).map .bl)) h := by
    refine lc_ok e1 ?_ (by rw [List.length_map, List.length_map]; exact hl)
    rw [List.map_map]
    exact lc_emb1 .int _ l H
  refine call_ok (cons_ok c1 rfl) ?_
  rw [all_bls, List.all_map]
  rfl
end
end VI
end
section
namespace VI
open PySem PySem.Spec PyProof.Rows L2 VI.Std
/-! plain evaluation: draws in comprehensions, cuts -/
section
variable {b : Nat} {ns : List Int} {k : Int} {h : Bs}
theorem drB_self (d : DrAt b ns k h) : drB b ns k h = h := by
  unfold drB
  have : h.bs.set b (.lst false [.scr ns, .int k]) = h.bs := by
    refine List.ext_getElem? fun i => ?_
    by_cases e : b = i
    · subst e
      rw [List.getElem?_set_self d.lt]
      exact d.symm
    · rw [List.getElem?_set_ne e]
  rw [this]
theorem dr_to (d : DrAt b ns k h) {c : Int} : DrAt b ns c (drB b ns c h) := d.to
/-- [take(draw, m) for .. in ..] -/
theorem draws_lc (hl : ns.length ≤ 63) {g : SG} {el : SV} {ρ : Ev} {m : Int} (hm : 0 < m) (H : ∀ d hh, ∃ ρ1, g d ρ hh = .ok ρ1 hh ∧ ∀ r h2, fTake [.ref b, .int m] hh = .ok (.int r) h2 → el ρ1 hh = .ok (.int r) h2) :
    ∀ (l : List D) (k : Int) (h : Bs), DrAt b ns k h → 0 ≤ k → k + l.length < 2 ^ 62 → ∃ X : List Int, X.length = l.length ∧ (∀ x ∈ X, 0 ≤ x ∧ x < m) ∧ lcS g (fun _ h => .ok true h) el ρ l h = .ok (X.map .int) (drB b ns (k + l.length) h)
  | [], k, h, d, _, _ => ⟨[], rfl, (fun _ h => by cases h), by simp [lcS, drB_self d]⟩
  | x :: l, k, h, d, k0, k1 => by
    rw [List.length_cons] at k1
    obtain ⟨r, r0, r1, e⟩ := take_ok hl d k0 (by omega) hm
    obtain ⟨X, a, bb, gg⟩ := draws_lc hl hm H l (k + 1) (drB b ns (k + 1) h) d.to (by omega) (by omega)
    obtain ⟨ρ1, e1, e2⟩ := H x h
    refine ⟨r :: X, by simp [a], fun y hy => ?_, ?_⟩
    · rcases List.mem_cons.mp hy with z | z
      · omega
      · exact bb y z
    · simp -implicitDefEqProofs only [lcS, e1, e2 _ _ e, gg]
      rw [List.length_cons, drB_drB, show k + 1 + (l.length : Int) = k + ((l.length + 1 : Nat) : Int) by omega]
      rfl
theorem lcm_ok {own : List Nat} {it : SI} {g : SG} {tt : SB} {el : SV} {ρ : Ev} {h1 h2 : Bs} {xs ys : List D} (e1 : it ρ h = .ok (xs, none) h1) (e2 : lcS g tt el (wipeE ρ own) xs h1 = .ok ys h2) (hl : ys.length ≤ sizeLine) : sLc false own it g tt el ρ h = .ok (.lst ys) h2 := by
  simp -implicitDefEqProofs only [sLc, e1, bind_ok, lockO_none, e2, unlR_ok, unlO_none, newL_f hl]
theorem tupP_of {xs : List D} (hl : xs.length ≤ sizeLine) : tuplePD [.lst xs] h = .ok (.tpl xs) h := by
  show newP xs h = _
  unfold newP
  rw [if_pos hl]
theorem rngN {n : Nat} (hn : n < 2 ^ 24) : itRng1 [.int n] h = .ok (rngItems 0 n, none) h := by
  unfold itRng1
  show (if _ then R.ok (rngItems 0 ((n : Int)).toNat, none) _ else .no) = _
  rw [if_pos (by constructor <;> omega), show ((n : Int)).toNat = n by omega]
theorem rngItems_len {n : Nat} : (rngItems 0 n).length = n := by simp [rngItems]
theorem minD2 {i j : Int} : minDS [.int i, .int j] h = .ok (.int (if j < i then j else i)) h := rfl
/-- cuts of lists and tuples of whole numbers -/
theorem sl_hi {d : D} {X : List Int} (i : IsX d X) {n : Nat} (hl : X.length ≤ sizeLine) : ∃ e, slD false d none (some (n : Int)) h = .ok e h ∧ IsX e (X.take n) ∧ (d = pI X → e = pI (X.take n)) ∧ (d = lI X → e = lI (X.take n)) := by
  have l2 : (X.take n).length ≤ sizeLine := by rw [List.length_take]; omega
  rcases i with rfl | rfl
  · refine ⟨pI (X.take n), ?_, .inl rfl, fun _ => rfl, (fun z => by cases z)⟩
    show newP (cutD _ _ _) h = _
    rw [cut_hi, ← List.map_take]
    unfold newP
    rw [if_pos (by rw [List.length_map]; exact l2)]
  · refine ⟨lI (X.take n), ?_, .inr rfl, (fun z => by cases z), fun _ => rfl⟩
    show newL false (cutD _ _ _) h = _
    rw [cut_hi, ← List.map_take, newL_f (by rw [List.length_map]; exact l2)]
theorem sl_lo {d : D} {X : List Int} (i : IsX d X) {n : Nat} (hl : X.length ≤ sizeLine) : ∃ e, slD false d (some (n : Int)) none h = .ok e h ∧ IsX e (X.drop n) ∧ (d = pI X → e = pI (X.drop n)) ∧ (d = lI X → e = lI (X.drop n)) := by
  have l2 : (X.drop n).length ≤ sizeLine := by rw [List.length_drop]; omega
  rcases i with rfl | rfl
  · refine ⟨pI (X.drop n), ?_, .inl rfl, fun _ => rfl, (fun z => by cases z)⟩
    show newP (cutD _ _ _) h = _
    rw [cut_from, ← List.map_drop]
    unfold newP
    rw [if_pos (by rw [List.length_map]; exact l2)]
  · refine ⟨lI (X.drop n), ?_, .inr rfl, (fun z => by cases z), fun _ => rfl⟩
    show newL false (cutD _ _ _) h = _
    rw [cut_from, ← List.map_drop, newL_f (by rw [List.length_map]; exact l2)]
theorem slP_hi {X : List Int} {n : Nat} (hl : X.length ≤ sizeLine) : slD false (pI X) none (some (n : Int)) h = .ok (pI (X.take n)) h := by
  obtain ⟨e, a, _, c, _⟩ := sl_hi (h := h) (X := X) (n := n) (.inl rfl) hl
  rw [a, c rfl]
theorem slP_lo {X : List Int} {n : Nat} (hl : X.length ≤ sizeLine) : slD false (pI X) (some (n : Int)) none h = .ok (pI (X.drop n)) h := by
  obtain ⟨e, a, _, c, _⟩ := sl_lo (h := h) (X := X) (n := n) (.inl rfl) hl
  rw [a, c rfl]
theorem slL_hi {X : List Int} {n : Nat} (hl : X.length ≤ sizeLine) : slD false (lI X) none (some (n : Int)) h = .ok (lI (X.take n)) h := by
  obtain ⟨e, a, _, _, c⟩ := sl_hi (h := h) (X := X) (n := n) (.inr rfl) hl
  rw [a, c rfl]
theorem slL_lo {X : List Int} {n : Nat} (hl : X.length ≤ sizeLine) : slD false (lI X) (some (n : Int)) none h = .ok (lI (X.drop n)) h := by
  obtain ⟨e, a, _, _, c⟩ := sl_lo (h := h) (X := X) (n := n) (.inr rfl) hl
  rw [a, c rfl]
theorem slOk {bx : Bool} {s : SV} {l u : SO} {ρ : Ev} {d : D} {lo hi : Option Int} {r : R D} (e1 : s ρ h = .ok d h) (e2 : l ρ h = .ok lo h) (e3 : u ρ h = .ok hi h) (e4 : slD bx d lo hi h = r) : sSl bx s l u ρ h = r := by
  simp -implicitDefEqProofs only [sSl, e1, e2, e3, e4, bind_ok]
theorem soOk {s : SV} {ρ : Ev} {i : Int} (e : s ρ h = .ok (.int i) h) : soSome s ρ h = .ok (some i) h := by
  simp -implicitDefEqProofs only [soSome, e, bind_ok]
theorem addL {X Y : List Int} (hl : X.length + Y.length ≤ sizeLine) : addD false (lI X) (lI Y) h = .ok (lI (X ++ Y)) h := by
  show newL false (X.map .int ++ Y.map .int) h = _
  rw [← List.map_append, newL_f (by rw [List.length_map, List.length_append]; exact hl)]
theorem addP {X Y : List Int} (hl : X.length + Y.length ≤ sizeLine) : addD false (pI X) (pI Y) h = .ok (pI (X ++ Y)) h := by
  show newP (X.map .int ++ Y.map .int) h = _
  rw [← List.map_append]
  unfold newP
  rw [if_pos (by rw [List.length_map, List.length_append]; exact hl)]
theorem eq_lI {l m : List Int} {neg : Bool} : eqD neg (lI l) (lI m) h = .ok (.bl (if neg then !decide (l = m) else decide (l = m))) h := by
  simp only [eqD, show py pyN h (lI l) = some (.list (l.map .int)) from py_lI l, show py pyN h (lI m) = some (.list (m.map .int)) from py_lI m, PyData.eqv, eqvAll_ints]
theorem eq_pI {l m : List Int} {neg : Bool} : eqD neg (pI l) (pI m) h = .ok (.bl (if neg then !decide (l = m) else decide (l = m))) h := by
  simp only [eqD, py_pI, PyData.eqv, eqvAll_ints]
end
end VI
end
section
namespace VI
open PySem PySem.Spec PyProof.Rows L2
/-! sorted(xs, key=lambda y: (len(y), y)) -/
abbrev lenB (y : Str) (p1 p2 p3 p4 pos : Pos) (k : Nat) : Expr := .Tuple [.Call (.Name "len" p1) [.Name y p2] [] p3, .Name y p4] k pos
section
variable {X : Cx} {σ : Sg} {H : Hp} {s : Shared} {pins : List (Addr × Obj)}
theorem len_turn {y q : Str} {p1 p2 p3 p4 pos : Pos} {k : Nat} {params : Arguments} {scope : Scope} {f c' a : Addr} {pm ctv : Value} {vs : List V} {ps : List PyData} (I : Inv X pins σ H s) (hr : Room 3 X.A) (S : FnScope [y] [y] scope) (hcl : scope.names.lookup y = some .local) (hg : scope.names.lookup ("len" : Str) = some NameKind.globalImplicit) (hm : X.mg "len" = none)
    (hd1 : (y == ("__debug__" : Str)) = false) (hd2 : (y == ("__classdict__" : Str)) = false) (hf : s.heap.get? f = some (PySem.W.kla_obj "<lambda>" q params (lenB y p1 p2 p3 p4 pos k) scope [] pm c' ctv)) (hco : H c' = some (LamX.CodeO c' q))
    (hb : ∀ u, bindArgs (PySem.W.kla_fn "<lambda>" q params (lenB y p1 p2 p3 p4 pos k) scope [] pm (.ref c') ctv) ⟨[u], []⟩ = pure [(y, u)])
    (ha : SqT X.K H a vs) (rd : Reads s.heap (.ref a) (.tuple ps) []) (hl : ps.length = vs.length) (hh : Heap) (tk : Nat) (kp : ∀ b o, s.heap.get? b = some o → hh.get? b = some o) :
    wpAny (model X.prog X.w) X.A.in1.in1 (call (.ref f) [.ref a]) (PySem.W.KeyPure (.tuple [.int ps.length, .tuple ps]) { s with heap := hh, toks := tk }) (fun _ _ => False) { s with heap := hh, toks := tk } := by
  have I1 : Inv X pins σ H { s with heap := hh, toks := tk } := I.kept kp
  obtain ⟨⟨oc, us, t, hoc, hdc, hvc⟩, _, _⟩ := I1.hok c' _ hco
  have e0 : Env0 X.prog X.w X.K X.mg X.base X.A.in1.in1 X.stack { s with heap := hh, toks := tk } H := I1.env0.in1.in1
  have hr1 : Room 1 X.A.in1.in1 := hr.in1.in1
  refine wpAny_call ?_
  refine PySem.W.kla_callFunE hr1.depth (kp _ _ hf) rfl S.co S.gen rfl ⟨c', oc, us, t, rfl, hoc, hdc, hvc⟩ ?_
  rw [hb]
  have hkind : ∀ x ∈ [(y, Value.ref a)], scope.names.lookup x.1 = some .local ∨ (scope.names.lookup x.1 = some .cell ∧ ((cellsFrom (hh.objs.size + 1) scope.names []).lookup x.1).isSome = true) := fun x hx => by
    rw [List.mem_singleton.mp hx]
    exact .inl hcl
  refine wpAny_pure (wpAny_newFunctionEnv_cells S.kind hkind fun env he s2 x => ?_)
  subst he
  have lim : Heap.NoLimit hh := e0.mod.nolimit.keeps fun b o e => (e0.bs b o e).1
  refine ⟨lim.keeps x.toInCall.keep, PySem.W.kla_codeExpr ?_⟩
  have J : Inv (cxOf (L2.CX X.prog X.w) X.prog X.w X.K X.mg X.base [y] q scope f (.ref c') X.A.in1.in1 X.stack { s with heap := hh, toks := tk } H (fun _ _ _ => False)) [] (L2.start [y] [V.ref a]) H s2 := inv_start (ps := [y]) (us := [.ref a]) S hr1.hd e0 rfl (.cons rfl .nil) x
  obtain ⟨h1, tk1, rfl, hk1⟩ := x.done
  have va : Vis scope y := .inl hcl
  have rdv : ∀ {s3 : Shared} {Q : Value → Shared → Prop} {E : Value → Shared → Prop} {p : Pos}, Inv (cxOf (L2.CX X.prog X.w) X.prog X.w X.K X.mg X.base [y] q scope f (.ref c') X.A.in1.in1 X.stack { s with heap := hh, toks := tk } H (fun _ _ _ => False)) [] (L2.start [y] [V.ref a]) H s3 → Q (.ref a) s3 →
      wpAny (model X.prog X.w) (X.A.in1.in1.deeper (envOfC q scope hh.objs.size f (.ref c'))) (eval (.Name y p) (envOfC q scope hh.objs.size f (.ref c'))) Q E s3 := fun {s3 Q E p} J3 hq => by
    obtain ⟨m, hn, hlk⟩ := J3.loc
    obtain ⟨u, ru, l⟩ := hlk 0 y (.ref a) rfl rfl va
    cases ru
    rcases l with ⟨hk, hm'⟩ | ⟨hk, c, hc, hcell⟩
    · exact wpAny_Name (wpAny_loadName_local J3.ok.kind hk hn hm' hq) hd1
    · exfalso
      have hk' : scope.names.lookup y = some .cell ∨ scope.names.lookup y = some .free := hk
      rw [hcl] at hk'
      rcases hk' with z | z <;> cases z
  obtain ⟨its, rvv, pl, hz⟩ := J.tuple ha
  have hn := line63
  have hlen : ((its.toArray.size : Nat) : Int) < 2 ^ 63 := by
    have := rvv.length
    rw [List.size_toArray]
    omega
  have es : its.toArray.size = ps.length := by rw [List.size_toArray, ← rvv.length, hl]
  refine wpAny_Tuple_spliced (Calls.spliced_cons ?_)
  refine wpAny_Call_Name_kw (ld_blt J hg hm rfl ?_)
  refine PyProof.Rows.callWith_builtin1 (Calls.spliced_cons (rdv J (Calls.spliced_nil ?_))) rfl rfl
  refine len_tuple pl hlen ?_
  refine Calls.spliced_cons (rdv (J.tok _) (Calls.spliced_nil ⟨by show 2 ≤ sizeLine; decide, ?_⟩))
  refine ⟨_, _, rfl, fun b o e => Heap.get?_push_of_some _ (hk1 b o e), ?_⟩
  rw [es]
  have r1 : Reads (h1.push { cls := .type "tuple", data := .seq [Value.int ((ps.length : Nat) : Int) (tk1 + 1), .ref a].toArray }) (.ref a) (.tuple ps) [] := PyProof.Rows.Reads.keeps (fun b o e => Heap.get?_push_of_some _ (hk1 b o (kp b o e))) rd
  exact .tuple (Heap.get?_push_size _ rfl) rfl rfl (.cons (.int _ _) (.cons r1 .nil))

/-- a lambda is made: its code object stands in the def's table, or is laid there now -/
theorem lam_new {c P : Addr} {q : Str} {tb : Array Value} {params : Arguments} {body : Expr} {scope : Scope} {lp : Pos} {Q E : Value → Shared → Prop} (I : Inv X pins σ H s) (B : LamX.TabB X.base X.mg c P) (ec : X.env.code = .ref c) (eq : X.env.qual ++ "<lambda>" = q)
    (hP : H P = some (.tbl tb)) (ht : TriplesOk tb.toList) (hc : ∀ (pos : Pos) (cv : Value), codeAmong pos tb.toList = some cv → ∃ d, cv = .ref d ∧ H d = some (LamX.CodeO d q)) (hdf : defaultsOf params X.env = ([], [])) (hfr : scope.names.all (fun y => !decide (y.2 = .free)) = true)
    (K0 : ∀ (f d : Addr) (pm ctv : Value) (s2 : Shared), Inv X pins σ H s2 → H d = some (LamX.CodeO d q) → s2.heap.get? f = some (PySem.W.kla_obj "<lambda>" q params body scope [] pm d ctv) → Q (.ref f) s2)
    (K1 : ∀ (f d : Addr) (pm ctv : Value) (tb2 : Array Value) (s2 : Shared), H d = none → Inv X pins σ (upd (upd H P (.tbl tb2)) d (LamX.CodeO d q)) s2 → TriplesOk tb2.toList → (∀ (pos : Pos) (cv : Value), codeAmong pos tb2.toList = some cv → codeAmong pos tb.toList = some cv ∨ cv = .ref d) →
      s2.heap.get? f = some (PySem.W.kla_obj "<lambda>" q params body scope [] pm d ctv) → Q (.ref f) s2) :
    wpAny (model X.prog X.w) X.A (eval (.Lambda params body scope lp) X.env) Q E s := by
  have nofree : ∀ y ∈ scope.names, y.2 ≠ .free := fun y hy => by
    have := List.all_eq_true.mp hfr y hy
    simpa using this
  have clo : ∀ (l : List (Str × NameKind)) (cs : List (Str × Addr)), (∀ y ∈ l, y.2 ≠ .free) → cloFrom cs l [] = [] := by
    intro l cs
    induction l with
    | nil => intro _; rfl
    | cons y l ih =>
      intro hy
      have h1 := hy y List.mem_cons_self
      have h2 := ih fun z hz => hy z (List.mem_cons_of_mem _ hz)
      obtain ⟨yn, yk⟩ := y
      cases yk <;> first | exact h2 | exact absurd rfl h1
  have hclo : closureFor scope X.env = pure [] := by
    rw [closure_ok (fun y hy z => absurd z (nofree y hy)), clo _ _ nofree]
  refine PySem.W.kla_eval hdf ?_
  rw [eq]
  have bP : s.heap.BuiltinsAt X.mg P := B.bm.keeps I.bk
  have oP : s.heap.get? P = some { cls := .none, data := .fields tb } := I.hok P _ hP
  cases z : codeAmong lp tb.toList with
  | some cv =>
    obtain ⟨d, rfl, hd⟩ := hc lp cv z
    exact PySem.W.kla_makeFunctionHit (mg := X.mg) (c := c) (P := P) (ps := tb) hclo I.ok.glob (I.mod.glob.keeps I.bk) ec (B.code.keeps I.bk) oP ht z bP fun ctv g tk hx _ => K0 g.objs.size d _ ctv _ (I.kept fun b o e => Heap.get?_push_of_some _ (hx b o e)) hd (Heap.get?_push_size _ rfl)
  | none =>
    refine PySem.W.kla_makeFunction (mg := X.mg) (c := c) (P := P) (ps := tb) hclo I.ok.glob (I.mod.glob.keeps I.bk) ec (B.code.keeps I.bk) oP ht z B.gP bP fun d ctv g tk hx hge hlt hrec htb => ?_
    obtain ⟨d2, oc, us, u, e2, hoc, hdt, hv⟩ := hrec
    cases e2
    have J := LamX.inv_table (t' := tk) (q := q) (more := #[rawInt lp.line, rawInt lp.col, .ref d]) (h' := g.push (PySem.W.kla_obj "<lambda>" q params body scope [] ((X.mg "__name__").getD .none) d ctv)) I hP (fun b o nb e => Heap.get?_push_of_some _ (hx b o nb e)) (Heap.get?_push_of_some _ htb) hge ⟨oc, us, u, Heap.get?_push_of_some _ hoc, hdt, hv⟩
    have eL : (tb ++ #[rawInt lp.line, rawInt lp.col, .ref d]).toList = tb.toList ++ [rawInt lp.line, rawInt lp.col, .ref d] := by simp
    refine K1 g.objs.size d _ ctv _ _ (I.hok.fresh hge) J ?_ (fun pos cv w => ?_) (Heap.get?_push_size _ rfl)
    · rw [eL]
      exact PySem.TriplesOk_snoc _ _ _ _ ht
    · rw [eL] at w
      exact LamX.among_app _ ht w
end
section
variable {X : Cx} {T : Tb} {W : WX} {μ μ' : Mu} {H H' : Hp} {h : Bs} {σ : Sg} {ρ : Ev}
theorem Rel.tabs (r : Rel T μ h H) {i t : Nat} {d : Addr} {tb : Array Value} (hi : h.bs[i]? = some (.tbl t)) (hd : H d = none) (ht : TriplesOk tb.toList) (hc : ∀ (pos : Pos) (cv : Value), codeAmong pos tb.toList = some cv → (∃ e, cv = .ref e ∧ H e = some (LamX.CodeO e (T.tab t).2) ∧ μ.no e) ∨ cv = .ref d) :
    Rel T μ h (upd (upd H (T.tab t).1 (.tbl tb)) d (LamX.CodeO d (T.tab t).2)) ∧ Stp μ H μ (upd (upd H (T.tab t).1 (.tbl tb)) d (LamX.CodeO d (T.tab t).2)) := by
  have hl : i < μ.ad.length := by rw [r.len]; exact (List.getElem?_eq_some_iff.mp hi).1
  obtain ⟨a1, tb0, e1, e2, e3⟩ := r.at_ i _ _ hi (List.getElem?_eq_getElem hl)
  have ad : μ.ad[i]? = some (T.tab t).1 := by rw [List.getElem?_eq_getElem hl, a1]
  rw [a1] at e1
  have ne : (T.tab t).1 ≠ d := ne_of_none e1 hd
  have comm : upd (upd H (T.tab t).1 (.tbl tb)) d (LamX.CodeO d (T.tab t).2) = upd (upd H d (LamX.CodeO d (T.tab t).2)) (T.tab t).1 (.tbl tb) := by
    funext b
    unfold upd
    by_cases h1 : b = d
    · subst h1
      rw [if_pos rfl, if_neg (Ne.symm ne), if_pos rfl]
    · by_cases h2 : b = (T.tab t).1
      · rw [if_neg h1, if_pos h2, if_pos h2]
      · rw [if_neg h1, if_neg h2, if_neg h2, if_neg h1]
  rw [comm]
  have s1 : Stp μ H μ (upd H d (LamX.CodeO d (T.tab t).2)) := Stp.laid hd
  have r1 : Rel T μ h (upd H d (LamX.CodeO d (T.tab t).2)) := r.laid hd
  have hlk : ∀ xs, h.bs[i]? ≠ some (.lst true xs) := fun xs z => by rw [hi] at z; cases z
  have nod : μ.no d := ⟨r.not' hd, fun z => by obtain ⟨⟨xs, q⟩, _⟩ := r.prh d z; rw [hd] at q; cases q⟩
  have r2 := r1.put (o := .tbl tb) (b := .tbl t) ad hlk (fun xs z => by cases z) ⟨rfl, tb, upd_same, ht, fun pos cv q => by
      rcases hc pos cv q with ⟨e, f1, f2, f3⟩ | z
      · refine ⟨e, f1, ?_, f3⟩
        rw [upd_ne (fun z => f3.1 (by rw [z]; exact List.mem_of_getElem? ad)), upd_ne (ne_of_none f2 hd)]
        exact f2
      · refine ⟨d, z, ?_, nod⟩
        rw [upd_ne (Ne.symm ne), upd_same]⟩ (fun k hk hik => True.intro)
  have same : ({ h with bs := h.bs.set i (.tbl t) } : Bs) = h := by
    have : h.bs.set i (.tbl t) = h.bs := by
      refine List.ext_getElem? fun j => ?_
      by_cases q : i = j
      · subst q
        rw [List.getElem?_set_self (by rw [← r.len]; exact hl), hi]
      · rw [List.getElem?_set_ne q]
    rw [this]
  rw [same] at r2
  exact ⟨r2, s1.trans (Stp.put (List.mem_of_getElem? ad) (r1.free ad hlk))⟩

def isI : PyData → Bool
  | .int _ => true
  | _ => false
def tupI : PyData → Bool
  | .tuple xs => xs.all isI
  | _ => false
def keyL : PyData → PyData
  | .tuple xs => .tuple [.int xs.length, .tuple xs]
  | p => p
def sortKD (ti : Nat) (bx : Bool) (d : D) (h : Bs) : R D := match h.bs[ti]? with
  | some (.tbl t) => if t = ti then (match lstOf h d with
    | some xs => (match mapO (py pyN h) xs with
      | some ps => if ps.all tupI && (canSort (ps.map keyL) && adjOk (srtK (xs.zip (ps.map keyL)))) then newL bx ((srtK (xs.zip (ps.map keyL))).map (·.1)) h else .no
      | none => .no)
    | none => .no) else .no
  | _ => .no
theorem isI_reads {hp : Heap} : ∀ {us : List Value} {ps : List PyData} {as : List Addr}, ReadsAll hp us ps as → ps.all isI = true → as = []
  | _, _, _, .nil, _ => rfl
  | _, _, _, .cons (d := d) (ds := ds) h1 h2, e => by
    rw [List.all_cons, Bool.and_eq_true] at e
    have e2 := isI_reads h2 e.2
    subst e2
    cases h1 <;> first | rfl | (simp [isI] at e)
theorem tupI_reads {hp : Heap} {v : Value} {p : PyData} {as : List Addr} (q : Reads hp v p as) (e : tupI p = true) : ∃ ps, p = .tuple ps ∧ as = [] := by
  cases q with
  | tuple h1 h2 h3 h4 => exact ⟨_, rfl, isI_reads h4 e⟩
  | _ => simp [tupI] at e
theorem mapO_len {α β : Type} {f : α → Option β} : ∀ {xs : List α} {ys : List β}, mapO f xs = some ys → ys.length = xs.length
  | [], ys, e => by simp only [mapO] at e; cases e; rfl
  | x :: xs, ys, e => by
    obtain ⟨y, zs, _, e2, rfl⟩ := mapO_some e
    simp [mapO_len e2]
theorem tup_sq {n : Nat} {d : D} {v : V} {ps : List PyData} {K : PySem.W.Frag} (q : Rep T μ H d v) (e : py n h d = some (.tuple ps)) : ∃ a vs, v = .ref a ∧ SqT K H a vs ∧ ps.length = vs.length := by
  cases n with
  | zero => simp [py] at e
  | succ n =>
    cases d with
    | tup xs =>
      simp only [Rep] at q
      obtain ⟨a, vs, rfl, e1, _, q⟩ := q
      simp only [py] at e
      cases z : mapO (py n h) xs with
      | none => rw [z] at e; cases e
      | some ys =>
        rw [z] at e
        cases e
        exact ⟨a, vs, rfl, .inl (.inl e1), by rw [mapO_len z, q.length]⟩
    | tpl xs =>
      simp only [Rep] at q
      obtain ⟨a, o, vs, rfl, e1, _, _, q⟩ := q
      simp only [py] at e
      cases z : mapO (py n h) xs with
      | none => rw [z] at e; cases e
      | some ys =>
        rw [z] at e
        cases e
        exact ⟨a, vs, rfl, .inl (.inr ⟨o, e1⟩), by rw [mapO_len z, q.length]⟩
    | lst xs => simp only [py] at e; cases z : mapO (py n h) xs <;> rw [z] at e <;> cases e
    | str x => simp only [py] at e; split at e <;> cases e
    | ref b =>
      simp only [py] at e
      split at e
      · rename_i xs _
        cases z : mapO (py n h) xs <;> rw [z] at e <;> cases e
      · cases e
    | _ => simp [py] at e
theorem pv_sortK {ti k : Nat} {bx : Bool} {a : Expr} {sa : SV} {y : Str} {p p1 p2 p3 p4 tp lp kp pos : Pos} {params : Arguments} {scope : Scope} {c : Addr} (hg : Gl X "sorted") (hm : X.mg "sorted" = none) (hml : X.mg "len" = none) (hK : X.K = T.K) (hr : Room 3 X.A) (ec : X.env.code = .ref c) (B : LamX.TabB X.base X.mg c (T.tab ti).1)
    (eq : X.env.qual ++ "<lambda>" = (T.tab ti).2) (S : FnScope [y] [y] scope) (hcl : scope.names.lookup y = some .local) (hgl : scope.names.lookup ("len" : Str) = some NameKind.globalImplicit) (hd1 : (y == ("__debug__" : Str)) = false) (hd2 : (y == ("__classdict__" : Str)) = false) (hdf : defaultsOf params X.env = ([], []))
    (hfr : scope.names.all (fun y => !decide (y.2 = .free)) = true) (hb' : ∀ (q : Str) (pm cv ctv u : Value), bindArgs (PySem.W.kla_fn "<lambda>" q params (lenB y p1 p2 p3 p4 tp k) scope [] pm cv ctv) ⟨[u], []⟩ = pure [(y, u)]) (hs : PySem.W.isStarred a = false) (ha : PE X a (tV T W sa)) :
    PE X (.Call (.Name "sorted" p) [a] [⟨some "key", .Lambda params (lenB y p1 p2 p3 p4 tp k) scope lp, kp⟩] pos) (tV T W (sUn (sortKD ti bx) sa)) := by
  refine ⟨fun pins s σ H Q I ⟨μ, ρ, h, r, e, o⟩ => ?_⟩
  refine wpAny_Call_Name_kw (ld_blt I hg hm rfl ?_)
  have he : starEach [a] X.env = [(false, eval a X.env)] := by rw [star_no hs]; rfl
  have hbk : backTo pos (starEach [a] X.env) = [(false, eval a X.env)] := by rw [he]; rfl
  refine PyProof.Rows.callWith_kw (kws := [⟨some "key", .Lambda params (lenB y p1 p2 p3 p4 tp k) scope lp, kp⟩]) ?_ (by rw [hbk]; rfl) (by rw [hbk]; rfl)
  rw [hbk]
  refine Calls.spliced_cons (thn (ha.run pins s σ H _ I ⟨μ, ρ, h, r, e, OutV.bind o⟩) fun u1 s1 ⟨v1, H1, I1, rv1, μ1, d, h1, st1, r1, rd, o1⟩ => Calls.spliced_nil ?_)
  show wpAny _ _ (evalAll [do let v ← eval (.Lambda params (lenB y p1 p2 p3 p4 tp k) scope lp) X.env; standAt pos; pure v]) _ _ s1
  unfold sortKD at o1
  split at o1
  · rename_i t ht
    split at o1
    · rename_i et
      subst et
      split at o1
      · rename_i ys hy
        split at o1
        · rename_i ps hp
          split at o1
          · rename_i hc
            simp only [Bool.and_eq_true] at hc
            obtain ⟨c1, c2, c3⟩ := hc
            obtain ⟨al, so⟩ := canSort_ok c2
            obtain ⟨a1, vs, rfl, e2, e3⟩ := r1.lstOf rd hy
            cases rv1
            have hl1 : t < μ1.ad.length := by rw [r1.len]; exact (List.getElem?_eq_some_iff.mp ht).1
            obtain ⟨q1, tb, q2, q3, q4⟩ := r1.at_ t _ _ ht (List.getElem?_eq_getElem hl1)
            rw [q1] at q2
            -- the call, the lambda made
            have go : ∀ (f d' : Addr) (pm ctv : Value) (H2 : Hp) (s2 : Shared), Inv X pins σ H2 s2 → Rel T μ1 h1 H2 → Stp μ1 H1 μ1 H2 → H2 d' = some (LamX.CodeO d' (T.tab t).2) → s2.heap.get? f = some (PySem.W.kla_obj "<lambda>" (T.tab t).2 params (lenB y p1 p2 p3 p4 tp k) scope [] pm d' ctv) →
                wpAny (model X.prog X.w) X.A (call (.builtin "sorted") [.ref a1] [(Str.ofString "key", .ref f)]) (EP X pins σ Q) X.xe s2 := by
              intro f d' pm ctv H2 s2 I2 r2 st2 hd' hf
              obtain ⟨a2, ws, ea, g2, g3⟩ := r2.lstOf (Rep.step st2 _ _ rd) hy
              cases ea
              obtain ⟨its, rvv, pl, hz⟩ := I2.list (by rw [hK]; exact g2)
              obtain ⟨bs, k1, k2, k3, k4, k5⟩ := tri_of hK I2 r2 g3 hp rvv
              have hl : bs.length = ws.length := by rw [rvv.length, k1.length]
              have kk : (bs.map fun b : Tr => keyL b.2.2) = ps.map keyL := by rw [← k4, List.map_map]; rfl
              have tI : ∀ b ∈ bs, tupI b.2.2 = true := fun b hb => List.all_eq_true.mp c1 _ (by rw [← k4]; exact List.mem_map.mpr ⟨b, hb, rfl⟩)
              have py1 : ∀ b ∈ bs, py pyN h1 b.2.1 = some b.2.2 := fun b hb => by
                have : b.2 ∈ ys.zip ps := by rw [← k3]; exact List.mem_map.mpr ⟨b, hb, rfl⟩
                obtain ⟨i, hi, ei⟩ := List.getElem_of_mem this
                have hi1 : i < ys.length := by rw [List.length_zip] at hi; omega
                have hi2 : i < ps.length := by rw [List.length_zip] at hi; omega
                rw [List.getElem_zip] at ei
                obtain ⟨z, z1, z2⟩ := mapO_get hp (List.getElem?_eq_getElem hi1)
                rw [List.getElem?_eq_getElem hi2] at z1
                rw [← ei]
                show py pyN h1 ys[i] = some ps[i]
                rw [Option.some.inj z1]
                exact z2
              have kb : PySem.W.EachIs (fun v (b : Tr) => RelV b.1 v ∧ (b ∈ bs → Reads s2.heap v b.2.2 [])) its bs := by
                have : ∀ {us : List Value} {cs : List Tr}, PySem.W.EachIs (fun v (b : Tr) => RelV b.1 v) us cs → PySem.W.EachIs (fun v (b : Tr) => ∃ as, Reads s2.heap v b.2.2 as) us cs → PySem.W.EachIs (fun v (b : Tr) => RelV b.1 v ∧ (b ∈ bs → Reads s2.heap v b.2.2 [])) us cs := by
                  intro us cs x1
                  induction x1 with
                  | nil => intro _; exact .nil
                  | cons z1 _ ih =>
                    intro x2
                    cases x2 with
                    | cons w1 w2 =>
                      refine .cons ⟨z1, fun hb => ?_⟩ (ih w2)
                      obtain ⟨as, q⟩ := w1
                      obtain ⟨_, _, rfl⟩ := tupI_reads q (tI _ hb)
                      exact q
                exact this k1 k2
              have hu := hr.un
              refine PySem.W.sorted_key_data (b := false) (fun b : Tr => keyL b.2.2) pl.isList kb (by rw [kk]; exact al) (by rw [kk]; exact so) (by rw [hl]; exact hz) (fun b hb => ?_) (PyProof.Rows.ksk_s1 _ _) (fun _ => PyProof.Rows.ksk_l1 _ _) (fun _ => PyProof.Rows.ksk_t1 _ _) (fun v b ⟨m1, m2⟩ hb hh tk kp => ?_) fun out c0 g tk kp hfr2 hD hlen ge => ?_
              · have d1 := (k5 b hb).2
                have d2 := tI b hb
                have : (keyL b.2.2).depth ≤ b.2.2.depth + 1 := by
                  generalize b.2.2 = w at d2
                  cases w with
                  | tuple xs => simp only [keyL, PyData.depth, PyData.depthAll]; omega
                  | _ => simp [tupI] at d2
                have : pyN = 12 := rfl
                omega
              · obtain ⟨qs, e5, _⟩ := tupI_reads (m2 hb) (tI b hb)
                have pyb := py1 b hb
                have rb := (k5 b hb).1
                have rdb := m2 hb
                rw [e5] at pyb rdb ⊢
                obtain ⟨ax, us, ev, sq, sl⟩ := tup_sq (K := X.K) rb pyb
                rw [ev] at m1
                cases m1
                exact len_turn I2 hr S hcl hgl hml hd1 hd2 hf hd' (fun u => hb' _ _ _ _ u) sq rdb sl hh tk kp
              · have sp : (bs.mergeSort (PySem.W.dataLe false fun b : Tr => keyL b.2.2)).Perm bs := List.mergeSort_perm _ _
                have z3 : bs.map (fun b : Tr => ((b.2.1, keyL b.2.2) : Kd)) = ys.zip (ps.map keyL) := by
                  have e7 : (bs.map (·.2)).map (fun q : D × PyData => ((q.1, keyL q.2) : Kd)) = (ys.zip ps).map (fun q : D × PyData => ((q.1, keyL q.2) : Kd)) := by rw [k3]
                  rw [List.map_map] at e7
                  rw [List.zip_map_right]
                  exact e7
                have ss : ((bs.mergeSort (PySem.W.dataLe false fun b : Tr => keyL b.2.2)).map (fun b : Tr => ((b.2.1, keyL b.2.2) : Kd))).Pairwise (fun a b => leK a b = true) := by
                  rw [List.pairwise_map]
                  exact List.pairwise_mergeSort (le := PySem.W.dataLe false fun b : Tr => keyL b.2.2) (fun a b c h1 h2 => leK_trans (a.2.1, keyL a.2.2) (b.2.1, keyL b.2.2) (c.2.1, keyL c.2.2) h1 h2) (fun a b => leK_total (a.2.1, keyL a.2.2) (b.2.1, keyL b.2.2)) bs
                have eq2 : (bs.mergeSort (PySem.W.dataLe false fun b : Tr => keyL b.2.2)).map (fun b => b.2.1) = (srtK (ys.zip (ps.map keyL))).map (·.1) := by
                  have := sort_uniq (A := (bs.mergeSort (PySem.W.dataLe false fun b : Tr => keyL b.2.2)).map (fun b : Tr => ((b.2.1, keyL b.2.2) : Kd))) (B := srtK (ys.zip (ps.map keyL))) (by rw [← z3]; exact (sp.map _).trans (srtK_perm _).symm) ss (srtK_sorted _) (adjOk_same (srtK_sorted _) c3)
                  rw [List.map_map] at this
                  exact this
                have rq : Reps T μ1 H2 ((srtK (ys.zip (ps.map keyL))).map (·.1)) ((bs.mergeSort (PySem.W.dataLe false fun b : Tr => keyL b.2.2)).map (·.1)) := by
                  rw [← eq2]
                  exact reps_tri fun b hb => (k5 b (sp.mem_iff.mp hb)).1
                obtain ⟨z1, z2⟩ := newL_ok r2 rq (OutV.step o1 st2)
                have ev : Vals ((bs.mergeSort (PySem.W.dataLe false fun b : Tr => keyL b.2.2)).map (·.1)) out := each_vals (ge.mono fun _ _ q => q.1)
                exact ⟨.ref (s2.heap.objs.size + 1), _, I2.laid (t' := tk) (o := .lst ((bs.mergeSort (PySem.W.dataLe false fun b : Tr => keyL b.2.2)).map (·.1))) kp (Nat.le_succ _) ⟨z1, out, c0, ev, hD⟩, rfl, z2 _ (I2.hok.fresh (Nat.le_succ _))⟩
            refine wpAny_evalAll_cons (wpAny_bind (lam_new (q := (T.tab t).2) I1 B ec eq q2 q3 (fun pos cv w => by obtain ⟨d2, f1, f2, _⟩ := q4 pos cv w; exact ⟨d2, f1, f2⟩) hdf hfr (fun f d' pm ctv s2 I2 hd' hf => ?_) fun f d' pm ctv tb2 s2 nd I2 ht2 hc2 hf => ?_))
            · exact wpAny_bind (wpAny_standAt (wpAny_pure (wpAny_evalAll_nil (go f d' pm ctv H1 s2 I2 r1 Stp.refl hd' hf))))
            · obtain ⟨r2, st2⟩ := r1.tabs ht nd ht2 fun pos cv w => by
                rcases hc2 pos cv w with z | z
                · obtain ⟨e0, f1, f2, f3⟩ := q4 pos cv z
                  exact .inl ⟨e0, f1, f2, f3⟩
                · exact .inr z
              exact wpAny_bind (wpAny_standAt (wpAny_pure (wpAny_evalAll_nil (go f d' pm ctv _ s2 I2 r2 st2 upd_same hf))))
          · exact o1.elim
        · exact o1.elim
      · exact o1.elim
    · exact o1.elim
  · exact o1.elim
end
end VI
end
section
namespace VI
open PySem PySem.Spec PyProof.Rows L2
/-! defs with lambdas: their tables -/
/-- the context of a def whose table is the ti-th -/
structure LX (Z : Cfg) (ti : Nat) (X : Cx) : Prop where
  code : ∃ c, X.env.code = .ref c ∧ LamX.TabB Z.base Z.mg c (Z.T.tab ti).1
  qual : X.env.qual ++ "<lambda>" = (Z.T.tab ti).2
def parArgs : Arguments → List Str := fun a => a.args.map (·.arg)
section
variable {Z : Cfg} {t : Tx} {k : Nat} {N : List Str} {sc : Scope} {raw : Option Scope} {X : Cx} {W : WX} {pos p : Pos} {a : Expr} {sa : SV} {x y : Str}
theorem v_sortK {ti kk : Nat} {bx : Bool} {p1 p2 p3 p4 tp lp kp : Pos} {params : Arguments} {scope : Scope} (h : XO Z t k N sc raw X W) (L : LX Z ti X) (hk : Nat.ble 3 k = true)
    (g : (glC sc "sorted" && (t.fr.contains "sorted" && t.fr.contains "len")) = true)
    (S : FnScope [y] [y] scope) (hl : scope.names.lookup y = some .local) (hgl : scope.names.lookup ("len" : Str) = some NameKind.globalImplicit) (hd : ((y == ("__debug__" : Str)) || (y == ("__classdict__" : Str))) = false)
    (hdf : ∀ env, defaultsOf params env = ([], [])) (hfr : scope.names.all (fun y => !decide (y.2 = .free)) = true)
    (hb : ∀ (q : Str) (pm cv ctv u : Value), bindArgs (PySem.W.kla_fn "<lambda>" q params (lenB y p1 p2 p3 p4 tp kk) scope [] pm cv ctv) ⟨[u], []⟩ = pure [(y, u)]) (hs : PySem.W.isStarred a = false) (ha : PE X a (tV Z.T W sa)) :
    PE X (.Call (.Name "sorted" p) [a] [⟨some "key", .Lambda params (lenB y p1 p2 p3 p4 tp kk) scope lp, kp⟩] pos) (tV Z.T W (sUn (sortKD ti bx) sa)) := by
  simp only [Bool.and_eq_true] at g
  rw [Bool.or_eq_false_iff] at hd
  obtain ⟨g1, _⟩ := h.gl g.1
  obtain ⟨c, e1, B⟩ := L.code
  exact pv_sortK g1 (by rw [h.mg]; exact h.z.fr _ g.2.1) (by rw [h.mg]; exact h.z.fr _ g.2.2) h.K (h.room.mono (Nat.le_of_ble_eq_true hk)) e1 (by rw [h.base, h.mg]; exact B) L.qual S hl hgl hd.1 hd.2 (hdf _) hfr hb hs ha
/-- a def, with its code object -/
theorem fn_soundC {T : Tb} {P : Program} {w : World} {mg : Str → Option Value} {base : Heap} {x qual : Str} {params : Arguments} {body : List Stmt} {scope : Scope} {dvs : List V} {kws : List (Str × V)} {f : Addr} {fd : FuncData} {N ps : List Str} {k : Nat} {ss : SS}
    (F : FunD T.K x qual params body scope dvs kws f fd) (S : FnScope N ps scope)
    (hb : ∀ (cdv : Value) (A : Around) (outer : List Env) (s : Shared) (H : Hp) (E : XK), fd.code = cdv → Room k (A.deeper (envOfC qual scope s.heap.objs.size f cdv)) →
      PSs (cxOf (CX P w) P w T.K mg base N qual scope f cdv A outer s H E) body (tS' T (fun c d _ H => E c d H) ss)) :
    FnOk P w T.K mg base (CX P w) (k + 1) f fd ps (spF T (runFn ps.length N.length ss)) := by
  obtain ⟨oc, od, dV, kV, doc, pm, an, cdv, ct, osl, rfl, lk, hcd, _, _⟩ := F.ex
  refine L2.fn_of lk hcd S (fun vs H Q E h => ?_) fun A outer s H vs Q E hr h => ⟨_, hb cdv A outer s H E rfl hr, ?_⟩
  · obtain ⟨μ, hh, ds, r, q, o⟩ := h
    unfold runFn at o
    split at o
    · rename_i hl
      rw [← q.length]; exact hl
    · exact o.elim
  · obtain ⟨μ, hh, ds, r, q, o⟩ := h
    unfold runFn at o
    split at o
    · exact ⟨μ.enter hh.bs.length, _, inB hh, r.enter, RepE.start (Reps.mv (μ := μ) (μ' := μ.enter hh.bs.length) (fun _ n => n) (fun _ _ e => e) _ _ q), fin_ok r o⟩
    · exact o.elim
/-- the def x of the text, with its table -/
def DefT (Z : Cfg) (x : Str) (ti : Nat) (st : Stmt) : Prop := ∃ (dn : He.Defn) (fd : FuncData), FunD Z.T.K x x (defArgs st) (defBody st) (defScope st) [] [] (He.fAd Z.T.K dn) fd ∧ Z.mg x = some (.ref (He.fAd Z.T.K dn)) ∧ (Z.T.tab ti) = ((He.cT Z.T.K dn).2, x ++ ".<locals>." ++ "<lambda>") ∧ LamX.TabB Z.base Z.mg (He.cT Z.T.K dn).1 (He.cT Z.T.K dn).2
theorem fn_ofT {ti : Nat} {x : Str} {st : Stmt} {N ps : List Str} {s : SS} (z : Z.Ok t) (Df : DefT Z x ti st) (S : FnScope N ps (defScope st))
    (hb : ∀ (kV doc pm : Value) (an : Option Addr) (cdv ct : Value) (us : List Value), us.length = ps.length → bindArgs (PySem.W.fnOf x x (defArgs st) (defBody st) (defScope st) .none kV doc pm an cdv ct) ⟨us, []⟩ = pure (ps.zip us))
    (B : ∀ (X : Cx) (W : WX), LX Z ti X → XO Z t k N (defScope st) none X W → PSs X (defBody st) (tS' Z.T W s)) : FnG Z x (k + 1) (runFn ps.length N.length s) := by
  obtain ⟨dn, fd, F, hm, et, TB⟩ := Df
  obtain ⟨oc, od, dV, kV, doc, pm, an, cdv, ct, osl, e1, lk, hcd, _, _⟩ := F.ex
  obtain ⟨c, rfl⟩ := He.codeIn_ref hcd
  have ec : fd.code = .ref c := by rw [e1]
  have e2 : (He.cT Z.T.K dn).1 = c := He.codeOf_eq lk ec
  refine ⟨_, fd, ps, fn_soundC F S fun cdv A outer s H E hc hr => B _ _ ⟨⟨c, ?_, ?_⟩, ?_⟩ ⟨z, rfl, rfl, rfl, rfl, rfl, rfl, S.nd, rfl, S.kind, fun _ _ => rfl, rfl, hr, takes_of rfl rfl rfl rfl, passes_of rfl⟩, hm, F.kp, F.bindsN hb⟩
  · show cdv = .ref c
    rw [← hc, ec]
  · rw [et, ← e2]
    exact TB
  · rw [et]
    rfl
end
/-! ### the hook with tables -/
def nodupA : List Addr → Bool
  | [] => true
  | a :: as => !as.contains a && nodupA as
theorem nodupA_ok : ∀ {as : List Addr}, nodupA as = true → as.Nodup
  | [], _ => .nil
  | a :: as, e => by
    simp only [nodupA, Bool.and_eq_true, Bool.not_eq_true'] at e
    refine List.nodup_cons.mpr ⟨fun z => ?_, nodupA_ok e.2⟩
    have : as.contains a = true := by simpa using z
    rw [this] at e
    cases e.1
def tabsA (c : Ct) (K : PySem.W.Frag) : List Addr := c.tab.map fun p => (He.cT K p.1).2
def obsT (n : Nat) (c : Ct) (fa : List He.Fa) (fn : List He.DefD) (g : Addr → Option Obj) : He.AlD × Bool := (obsC c fa fn (He.frT g (He.asD g n)), He.tabsB g (c.tab.map (·.1)) (He.frT g (He.asD g n)) && nodupA (tabsA c (He.frT g (He.asD g n))))
structure SaysT (c : Ct) (fa : List He.Fa) (fn : List He.DefD) (h : Heap) (K : PySem.W.Frag) : Prop where
  says : SaysC c fa fn K
  hd : ∀ p ∈ c.tab, PySem.W.codeHdIn K (He.cT K p.1).1 (He.cT K p.1).2 = true
  out : ∀ p ∈ c.tab, K.lookup (He.cT K p.1).2 = none
  empty : ∀ p ∈ c.tab, h.get? (He.cT K p.1).2 = some { cls := .none, data := .fields #[] }
  nd : (tabsA c K).Nodup
theorem saysT_of {n : Nat} {c : Ct} {fa : List He.Fa} {fn : List He.DefD} {h : Heap} (e : obsT n c fa fn h.get? = (He.valD fn, true)) : SaysT c fa fn h (He.frT h.get? (He.asD h.get? n)) := by
  have e1 := congrArg (fun z : He.AlD × Bool => z.1) e
  have e2 := He.ba (congrArg (fun z : He.AlD × Bool => z.2) e)
  have key : ∀ p ∈ c.tab, PySem.W.codeHdIn (He.frT h.get? (He.asD h.get? n)) (He.cT (He.frT h.get? (He.asD h.get? n)) p.1).1 (He.cT (He.frT h.get? (He.asD h.get? n)) p.1).2 = true ∧ ∃ o, h.get? (He.cT (He.frT h.get? (He.asD h.get? n)) p.1).2 = some o ∧ He.emptyTab o = true := fun p hp => by
    obtain ⟨h3, h4⟩ := He.ba (List.all_eq_true.mp e2.1 p.1 (List.mem_map.mpr ⟨p, hp, rfl⟩))
    refine ⟨h3, ?_⟩
    cases q : h.get? (He.cT (He.frT h.get? (He.asD h.get? n)) p.1).2 with
    | none => rw [q] at h4; cases h4
    | some o => rw [q] at h4; exact ⟨o, rfl, h4⟩
  refine ⟨e1, fun p hp => (key p hp).1, fun p hp => ?_, fun p hp => ?_, nodupA_ok e2.2⟩
  · obtain ⟨_, o, q, z⟩ := key p hp
    exact He.frT_none q z
  · obtain ⟨_, o, q, z⟩ := key p hp
    rw [q, He.emptyTab_eq z]
def hookT (n : Nat) (c : Ct) (fa : List He.Fa) (fn : List He.DefD) : PySem.W.Hook where
  α := He.AlD × Bool
  obs := fun s => obsT n c fa fn s.heap.get?
  val := fun _ => (He.valD fn, true)
  says := fun _ h => ∃ K : PySem.W.Frag, K.In h ∧ SaysT c fa fn h K
  of := fun _ _ e => ⟨_, He.frT_in, saysT_of e⟩
  keeps := fun _ _ _ ⟨K, hK, q⟩ k => ⟨K, PySem.W.Frag.In.keeps hK k, ⟨q.says, q.hd, q.out, fun p hp => k _ _ (q.empty p hp), q.nd⟩⟩
theorem obsT_eq {n : Nat} {c : Ct} {fa : List He.Fa} {fn : List He.DefD} {g : Addr → Option Obj} {s : Shared} (h : ∀ a, g a = s.heap.get? a) : obsT n c fa fn g = (hookT n c fa fn).obs s := by
  rw [show g = s.heap.get? from funext h] <;> rfl
/-! ### the end -/
def csT (c : Ct) (K : PySem.W.Frag) : List (Addr × Addr) := c.tab.map fun p => He.cT K p.1
theorem walk_t {l : PySem.W.OpenLaw} {n k : Nat} {q : Program} {loose : List Str} {XP : (Str → Option Value) → Heap → Prop} {YP : World → Heap → Prop} {d : DefRec} {x : Str} (c : Ct)
    (hn : l.most = some n) (hn2 : n ≤ sizeLine) (hdf : d.params.defaults = []) (hr : Room k callerA)
    (F : ∀ (w : World) (mg : Str → Option Value) (fa : Addr) (h : Heap), YP w h → h.Ns mainGlobals mg → mg d.name = some (.ref fa) →
      ∃ (K : PySem.W.Frag) (fa' : List He.Fa) (fn : List He.DefD) (fd : FuncData) (sp : Sp), K.In h ∧ SaysT c fa' fn h K ∧ (∀ (s : Shared) (u : Value), BindsTo s fd ⟨[u], []⟩ [(x, u)]) ∧
        (∀ (H : Hp) (a : Addr) (ns : List Int), ns.length ≤ n → (∀ p ∈ csT c K, H p.2 = some (.tbl #[])) → SqL K H a (ns.map V.int) → sp [.ref a] H (fun v _ => v = .bl true) fun _ _ _ => False) ∧
        ∀ base : Heap, K.In base → base.Ns mainGlobals mg → (∀ p ∈ csT c K, LamX.TabB base mg p.1 p.2) → FnOk l.prog w K mg base (CX l.prog w) k fa fd [x] sp) :
    PySem.W.WalkO q loose XP YP l.row.toRowW d [] (fun f vs => PySem.call f vs) := by
  refine LamX.walk_ofTsE (CX := fun w => CX l.prog w) (x := x) hn hn2 hdf hr (fun w mg fa h Y G hm => ?_) fun w H s e s' ⟨_, _, _, _, _, _, _, _, _, _, _, _, z⟩ => z
  obtain ⟨K, fa', fn, fd, sp, KX, S, hb, hsp, hF⟩ := F w mg fa h Y G hm
  have mem : ∀ {P : Addr × Addr → Prop}, (∀ p ∈ c.tab, P (He.cT K p.1)) → ∀ p ∈ csT c K, P p := fun {P} g p hp => by
    obtain ⟨z, hz, rfl⟩ := List.mem_map.mp hp
    exact g z hz
  exact ⟨K, KX, fd, csT c K, sp, mem (P := fun p => h.get? p.2 = some { cls := .none, data := .fields #[] }) S.empty, mem (P := fun p => K.lookup p.2 = none) S.out, mem (P := fun p => PySem.W.CodeHd h p.1 p.2) fun p hp => PySem.W.codeHd_of_K KX (S.hd p hp), hb, fun H a ns hl _ hH hS => hsp H a ns hl hH hS, hF⟩
abbrev bsT (n : Nat) : Bs := ⟨[], (List.range n).map .tbl⟩
theorem start_okT {c : Ct} {K : PySem.W.Frag} {H : Hp} {a : Addr} {ns : List Int} {cf : List D → Bs → R D} {h' : Bs} (nd : (tabsA c K).Nodup) (hT : ∀ p ∈ csT c K, H p.2 = some (.tbl #[])) (hS : SqL K H a (ns.map V.int)) (e : cf [.scr ns] (bsT c.tab.length) = .ok (.bl true) h') : spF (tbC c K) cf [.ref a] H (fun v _ => v = .bl true) fun _ _ _ => False := by
  have hTa : ∀ b ∈ tabsA c K, H b = some (.tbl #[]) := fun b hb => by
    obtain ⟨p, hp, rfl⟩ := List.mem_map.mp hb
    exact hT (He.cT K p.1) (List.mem_map.mpr ⟨p, hp, rfl⟩)
  refine ⟨⟨tabsA c K, [], [], []⟩, bsT c.tab.length, [.scr ns], ⟨rfl, fun _ h => by simp at h, fun _ h => by simp at h, fun b xs a' h1 h2 => ?_, by simp [tabsA], nd, fun i b a' h1 h2 => ?_, fun _ h => by simp at h, .nil, fun _ h => by simp at h⟩, .one ?_, ?_⟩
  · have h1 : ((List.range c.tab.length).map Bx.tbl)[b]? = some (.lst true xs) := h1
    rw [List.getElem?_map] at h1
    cases q : (List.range c.tab.length)[b]? <;> rw [q] at h1 <;> simp at h1
  · have h1 : ((List.range c.tab.length).map Bx.tbl)[i]? = some b := h1
    have h2 : (tabsA c K)[i]? = some a' := h2
    have hi : i < c.tab.length := by
      have := (List.getElem?_eq_some_iff.mp h1).1
      simpa using this
    rw [List.getElem?_map, List.getElem?_range hi] at h1
    cases h1
    unfold tabsA at h2
    rw [List.getElem?_map, List.getElem?_eq_getElem hi] at h2
    have e2 : (He.cT K (c.tab[i]).1).2 = a' := by simpa using h2
    refine ⟨?_, #[], ?_, True.intro, fun pos cv z => ?_⟩
    · show a' = (match c.tab[i]? with | some p => ((He.cT K p.1).2, p.2 ++ ".<locals>." ++ "<lambda>") | none => (0, "")).1
      rw [List.getElem?_eq_getElem hi]
      exact e2.symm
    · exact hTa a' (by rw [← e2]; exact List.mem_map.mpr ⟨c.tab[i], List.getElem_mem hi, rfl⟩)
    · have z : codeAmong pos [] = some cv := z
      simp [codeAmong] at z
  · simp only [Rep]
    refine ⟨a, rfl, ?_⟩
    rcases hS with h | h
    · refine .inl ⟨h, fun z => ?_, by simp⟩
      have := hTa a z
      rcases h with q | ⟨o, q⟩ <;> rw [this] at q <;> cases q
    · exact .inr h
  · rw [e]
    intro μ' H' v _ _ q
    simpa only [Rep] using q
end VI
end
section
namespace VI
open PySem PySem.Spec PyProof.Rows L2
/-! xs.clear(); != of objects with an __eq__ of their own -/
section
variable {X : Cx} {T : Tb} {μ μ' : Mu} {H H' : Hp} {h : Bs} {σ : Sg} {ρ : Ev}
def clrD (d : D) (ds : List D) (h : Bs) : R D := match d, ds with
  | .ref b, [] => (match h.bs[b]? with
    | some (.lst false _) => .ok .non (putL b [] h)
    | _ => .no)
  | _, _ => .no
theorem clrD_calm {d : D} {ds : List D} : Calm (clrD d ds h) := by
  intro x h' z; unfold clrD at z
  repeat' split at z
  all_goals cases z
theorem mv_clear : MtR X "list.clear" (rMt T clrD) := MtR.imp mt_clear fun x xs H Q ⟨μ, h, d, ds, r, rd, rds, o⟩ => by
  unfold clrD at o
  split at o
  · rename_i b
    simp only [Reps] at rds
    subst rds
    split at o
    · rename_i ys hb
      obtain ⟨a, vs, e1, e2, e3, q⟩ := r.boxAt hb rd
      obtain ⟨r', st⟩ := r.putL (ys := []) (vs := []) hb e1 .nil (fun k hk hb' hx => by simp [bels])
      exact ⟨a, vs, e2, rfl, e3, o μ _ .non st r' rep_nil⟩
    · exact o.elim
  · exact o.elim
theorem M_clear : LM "clear" "list.clear" clrD := ⟨fun _ _ _ => clrD_calm, PySem.F.slot_list_clear, PySem.F.type_list_clear, mv_clear⟩
end
section
variable {prog : Program} {w : World} {A : Around} {E : Value → Shared → Prop} {s : Shared} {K : PySem.W.Frag} {x C f : Addr} {ox : Obj} {od : Option Obj} {b tb : Value}
/-- x.__ne__ is object's: by x.__eq__ -/
theorem bound_ne {M : Model} {es : List Value} {Q : Option Value → Shared → Prop} (XK : K.In s.heap) (J : PySem.W.InstAt s.heap x ox C od) (hn : PySem.W.findIn K (.ref C) "__ne__" = some (some (.builtin "object.__ne__")))
    (g : wpAny M A (call (.builtin "object.__ne__") (.ref x :: es)) (fun v => Q (some v)) E s) : wpAny M A (callSpecialIfBound? (.ref x) "__ne__" es) Q E s := by
  have g2 : wpAny M A (call (.builtin "object.__ne__") ([.ref x] ++ es) >>= fun v => pure (some v)) Q E s := wpAny_bind (wpAny_mono g (fun _ _ z => wpAny_pure z) fun _ _ z => z)
  simp only [callSpecialIfBound?, bindSpecialIfBound?]
  refine wpAny_holding (wpAny_bind (wpAny_bind (wpAny_bind (J.type.here ((PySem.W.looks_findIn XK hn).here (wpAny_bind (wpAny_askSetting (wpAny_ite ?_))))))))
  split
  · exact wpAny_bind (wpAny_of_eq (F.cmp_object.ne.bind _) (wpAny_pure (by exact g2)))
  · exact wpAny_tryCatch (wpAny_bind (wpAny_of_eq (F.cmp_object.ne.bind _) (wpAny_pure (by exact g2))))
theorem entry_ne {Q : Fin → Shared → Prop} (XK : K.In s.heap) (J : PySem.W.InstAt s.heap x ox C od) (hu : A.units < cLine) (hs : PySem.W.findIn K (.ref C) "__eq__" = some (some (.ref f))) (hf : PySem.W.isFn K (.ref f) = true)
    (hc : wpAny (model prog w) A (call (.ref f) [.ref x, b]) (fun v s' => ∃ t : Bool, v = .bool t ∧ Q (.done (.ret (.bool (!t)))) s') E s) : wpAny (model prog w) A (Builtin.«object.__ne__» ⟨[.ref x, b], []⟩) Q E s := by
  unfold Builtin.«object.__ne__»
  repeat (first
    | with_reducible refine wpAny_cRoomFor hu ?_
    | (refine wpAny_bind (m := callSpecialIfBound? (.ref x) (Str.ofString "__eq__") [b]) (PySem.W.ifBound_K XK J hs hf (wpAny_mono hc (fun r s' hr => by
          obtain ⟨t, rfl, hq⟩ := hr
          repeat (first | exact hq | exact wpAny_pure hq | (refine wpAny_bind (m := truthy (.bool t)) (wpAny_truthy_bool ?_)) | wp_step)) fun _ _ e => e)))
    | wp_step)
theorem try_ne {Q : Option Value → Shared → Prop} (XK : K.In s.heap) (J : PySem.W.InstAt s.heap x ox C od) (hu : A.units + 1 < cLine) (hm : PySem.W.mroIn K C (.type "object") = some true) (hn : PySem.W.findIn K (.ref C) "__ne__" = some (some (.builtin "object.__ne__")))
    (hs : PySem.W.findIn K (.ref C) "__eq__" = some (some (.ref f))) (hf : PySem.W.isFn K (.ref f) = true) (hc : wpAny (model prog w) A.in1 (call (.ref f) [.ref x, b]) (fun v s' => ∃ t : Bool, v = .bool t ∧ Q (some (.bool (!t))) s') E s) :
    wpAny (model prog w) A (tryCompare (.ref x) "__ne__" b) Q E s := by
  unfold tryCompare
  refine wpAny_bind (bound_ne XK J hn (wpAny_call (codeAny_call_builtin F.cmp_object.ne.plain F.cmpEntry_ne (PySem.W.check_slot F.cmpKind_ne F.cmpSplit_ne (J.type.andThen (PySem.W.looks_mroIn XK hm)) (F.cmpArgs_ne _ _) (entry_ne XK J hu hs hf (wpAny_mono hc (fun v s' z => ?_) fun _ _ e => e))))))
  obtain ⟨t, rfl, hq⟩ := z
  first | exact ⟨t, rfl, wpAny_pure hq⟩ | exact ⟨t, rfl, wpAny_pure (wpAny_pure hq)⟩ | exact ⟨t, rfl, hq⟩
theorem rich_ne {Q : Value → Shared → Prop} (XK : K.In s.heap) (J : PySem.W.InstAt s.heap x ox C od) (Jb : PySem.W.Looks (model prog w) s.heap (typeOf b) (.ref C)) (hu : A.units + 1 < cLine) (hm : PySem.W.mroIn K C (.type "object") = some true) (hn : PySem.W.findIn K (.ref C) "__ne__" = some (some (.builtin "object.__ne__")))
    (hs : PySem.W.findIn K (.ref C) "__eq__" = some (some (.ref f))) (hf : PySem.W.isFn K (.ref f) = true) (hc : wpAny (model prog w) A.in1 (call (.ref f) [.ref x, b]) (fun v s' => ∃ t : Bool, v = .bool t ∧ Q (.bool (!t)) s') E s) :
    wpAny (model prog w) A (richCompare .NotEq (.ref x) b) Q E s := by
  have one : wpAny (model prog w) A (tryCompare (.ref x) "__ne__" b) (fun r s' => ∃ v, r = some v ∧ Q v s') E s :=
    try_ne XK J hu hm hn hs hf (wpAny_mono hc (fun v s' z => by obtain ⟨t, rfl, hq⟩ := z; exact ⟨t, rfl, _, rfl, hq⟩) fun _ _ e => e)
  unfold richCompare
  simp only [oneThing_ref, cmpInfo_NotEq]
  refine wpAny_holding (wpAny_bind (wpAny_cRoomFor (by omega) (wpAny_bind (J.type.here (wpAny_bind (Jb.here ?_))))))
  split
  · rename_i q
    simp at q
  · refine wpAny_bind (wpAny_pure ?_)
    simp only [Bool.false_eq_true, if_false]
    exact wpAny_bind (wpAny_mono one (fun r s' z => by obtain ⟨v, rfl, hq⟩ := z; exact wpAny_pure hq) fun _ _ e => e)
end
section
variable {X : Cx} {T : Tb} {W : WX} {μ μ' : Mu} {H H' : Hp} {h : Bs} {σ : Sg} {ρ : Ev}
/-- x != y, objects of one class, by __eq__ -/
def neO (l : MTab) (d e : D) (h : Bs) : R D := match insOf h d with
  | some (c, _, _) => (match insOf h e with
    | some (c', _, _) => if c = c' ∧ True then (match l.lookup c with
      | some cf => (match cf [d, e] h with
        | .ok (.bl b) h' => .ok (.bl (!b)) h'
        | _ => .no)
      | none => .no) else .no
    | none => .no)
  | none => eqD true d e h
theorem neO_calm {l : MTab} {d e : D} : Calm (neO l d e h) := by
  intro x h' z; unfold neO at z
  split at z
  · split at z
    · split at z
      · split at z
        · split at z <;> cases z
        · cases z
      · cases z
    · cases z
  · exact eqD_calm x h' z
theorem ov_neO {k : Nat} {l : MTab} (ok : T.Ok) (hK : X.K = T.K) (hr : Room (k + 1) X.A) (M : MtX X T "__eq__" k l) : OpR X (compareOp .NotEq) (rD2 T (neO l)) := by
  intro pins s σ H x y v u Q I rx ry ⟨μ, h, d, e, r, rd, re, o⟩
  unfold neO at o
  split at o
  · rename_i c fs ys hi1
    split at o
    · rename_i c' fs' ys' hi2
      split at o
      · rename_i hcc
        obtain ⟨hcc, _⟩ := hcc
        subst hcc
        split at o
        · rename_i cf hcf
          obtain ⟨a, C, dx, vs, rfl, e2, e3, e4, e5⟩ := r.insOf rd hi1
          obtain ⟨a', C', dx', vs', rfl, e2', e3', e4', e5'⟩ := r.insOf re hi2
          rw [e2] at e2'; cases e2'
          obtain ⟨C', f, fd, ps, f1, f3, F, hb, hfn⟩ := M c cf hcf
          rw [e2] at f1; cases f1
          obtain rfl : v = Value.ref a := rx
          obtain rfl : u = Value.ref a' := ry
          obtain ⟨mA, J, _⟩ := ins_get I.hok e3
          obtain ⟨od, J, _⟩ := J.look
          obtain ⟨mA', J', _⟩ := ins_get I.hok e3'
          obtain ⟨od', J', _⟩ := J'.look
          obtain ⟨n1, n2⟩ := ok.ne c C e2
          show wpAny (model X.prog X.w) X.A (richCompare .NotEq (.ref a) (.ref a')) (EP X pins σ Q) X.xe s
          have hu := hr.un
          refine rich_ne (K := X.K) I.kIn J J'.type (by omega) (by rw [hK]; exact n1) (by rw [hK]; exact n2) f3.at_ f3.fn ?_
          have sp : spF T cf [.ref a, .ref a'] H (fun v H' => ∃ b : Bool, v = .bl b ∧ Q (.bl (!b)) H') (fun _ _ _ => False) := by
            refine ⟨μ, h, [d, e], r, Reps.cons rd (Reps.one re), ?_⟩
            cases q : cf [d, e] h with
            | no => rw [q] at o; exact o.elim
            | ex x h' => rw [q] at o; exact o.elim
            | ok z h' =>
              rw [q] at o
              cases z <;> first | exact o.elim | skip
              rename_i b
              intro μ' H' v st r' rv'
              simp only [Rep] at rv'
              exact ⟨b, rv', o μ' H' _ st r' (by simp only [Rep])⟩
          refine wpAny_mono (run_sub (A := X.A.in1) (vs := [.ref a, .ref a']) F hr.in1 rfl hb I (.cons rfl (.cons rfl .nil)) sp) (fun u s' z => ?_) fun _ _ x => x
          obtain ⟨v, H', I', rv', b, rfl, hq⟩ := z
          obtain rfl : u = Value.bool b := rv'
          exact ⟨b, rfl, .bl (!b), H', I', rfl, hq⟩
        · exact o.elim
      · exact o.elim
    · exact o.elim
  · exact ov_ne hK (by have := hr.un; omega) pins s σ H x y v u Q I rx ry ⟨μ, h, d, e, r, rd, re, o⟩
end
section
variable {Z : Cfg} {t : Tx} {k j : Nat} {N : List Str} {sc : Scope} {raw : Option Scope} {X : Cx} {W : WX} {pos p : Pos} {a b c : Expr} {sa sb s3 : SV} {l : MTab}
theorem v_neO (h : XO Z t k N sc raw X W) (M : MtL Z "__eq__" j l) (hj : Nat.ble (j + 1) k = true) (hb' : behindInMarks .NotEq b = false) (ha : PE X a (tV Z.T W sa)) (hb : PE X b (tV Z.T W sb)) : PE X (.Compare a [.NotEq] [b] pos) (tV Z.T W (sOp (neO l) sa sb)) :=
  pv_cmp (pc_v (fun _ _ _ => neO_calm) (ov_neO h.z.ok h.K (h.room.mono (Nat.le_of_ble_eq_true hj)) (M.x h)) ha hb) hb'
theorem t_neO (h : XO Z t k N sc raw X W) (M : MtL Z "__eq__" j l) (hj : Nat.ble (j + 1) k = true) (hb' : behindInMarks .NotEq b = false) (ha : PE X a (tV Z.T W sa)) (hb : PE X b (tV Z.T W sb)) : PT X (.Compare a [.NotEq] [b] pos) (tB' Z.T W (sTru (sOp (neO l) sa sb))) :=
  pvt_cmp (pc_v (fun _ _ _ => neO_calm) (ov_neO h.z.ok h.K (h.room.mono (Nat.le_of_ble_eq_true hj)) (M.x h)) ha hb) hb'
end
end VI
end
section
namespace VI
open PySem PySem.Spec PyProof.Rows L2
/-! t[::-1] of a tuple, a tuple of the heap -/
section
variable {X : Cx}
def tRevU (K : PySem.W.Frag) (te : TE) : TE := fun σ H Q => te σ H fun x H1 => ∃ a xs, x = .ref a ∧ SqT K H1 a xs ∧ ∀ p, H1 p = none → Q (.ref p) (upd H1 p (.tup xs.reverse))
theorem pe_revU {e : Expr} {te : TE} {k : Nat} {p1 p2 p3 pos : Pos} (he : PE X e te) : PE X (.Subscript e (.Slice none none (some (.UnaryOp .USub (.Constant (.int 1) k p1) p2)) p3) pos) (tRevU X.K te) := by
  refine ⟨fun pins s σ H Q I h => Subscript_ (thn (he.run pins s σ H _ I h) fun v s1 ⟨x, H1, I1, r1, q1⟩ => ?_)⟩
  obtain ⟨a, xs, ex, hx, q⟩ := q1
  subst ex
  cases r1
  have hst : PO X (some (.UnaryOp .USub (.Constant (.int 1) k p1) p2)) (tPart (tUn (rU fun i => .int (-i)) (tC (.int 1)))) := po_some (pe_un un_neg pe_int)
  refine wpAny_Slice (thn (po_none.run pins s1 σ H1 (fun o H2 => o = none ∧ H2 = H1) I1 ⟨rfl, rfl⟩) fun vl s2 ⟨l, H2, I2, pl, el, e2⟩ => ?_)
  subst el e2
  refine thn (po_none.run pins s2 σ H2 (fun o H3 => o = none ∧ H3 = H2) I2 ⟨rfl, rfl⟩) fun vu s3 ⟨u, H3, I3, pu, eu, e3⟩ => ?_
  subst eu e3
  refine thn (hst.run pins s3 σ H3 (fun o H4 => o = some (-1) ∧ H4 = H3) I3 ⟨1, rfl, -1, rfl, rfl, rfl⟩) fun vs s4 ⟨o, H4, I4, ps, eo, e4⟩ => ?_
  subst eo e4
  have I5 : Inv X pins σ H4 { s4 with heap := s4.heap.push { cls := .type "slice", data := .fields #[vl, vu, vs] } } := I4.kept (t' := s4.toks) fun b ob q => Heap.get?_push_of_some _ q
  obtain ⟨its, r, ht, hz⟩ := I5.tuple hx
  have hlen := r.length
  show wpAny (model X.prog X.w) X.A (subscriptTail e (.Slice none none (some (.UnaryOp .USub (.Constant (.int 1) k p1) p2)) p3) (.ref a) (.ref s4.heap.objs.size)) (EP X pins σ Q) X.xe { s4 with heap := s4.heap.push { cls := .type "slice", data := .fields #[vl, vu, vs] } }
  refine tail_any (ops := [.ref a, .ref s4.heap.objs.size]) ht.typeIs (PyProof.Rows.slot_tuple_getitem.lookup) ?_ (by with_unfolding_all rfl)
  refine getItem_tuple_rev ht (Heap.IsSliceOf.new _ vl vu vs) pl pu ps ?_ (by rw [List.size_toArray]; omega)
  refine ⟨.ref _, upd H4 _ (.tup xs.reverse), I5.laid (t' := s4.toks) (fun _ _ z => Heap.get?_push_of_some _ z) (Nat.le_refl _) ⟨by rw [List.length_reverse]; exact hz, its.reverse, r.reverse, ?_⟩, rfl, q _ (I5.hok.fresh (Nat.le_refl _))⟩
  have e : its.toArray.toList.reverse = its.reverse := by simp
  rw [e]
  exact IsTup.new _ _
variable {T : Tb} {W : WX}
def revY (bx : Bool) (d : D) (h : Bs) : R D := match d with
  | .tup xs => newT xs.reverse h
  | _ => revX bx d h
theorem pv_revY {bx : Bool} {e : Expr} {k : Nat} {p1 p2 p3 pos : Pos} {s : SV} (hK : X.K = T.K) (he : PE X e (tV T W s)) : PE X (.Subscript e (.Slice none none (some (.UnaryOp .USub (.Constant (.int 1) k p1) p2)) p3) pos) (tV T W (sUn (revY bx) s)) := by
  refine ⟨fun pins s' σ H Q I ⟨μ, ρ, h, r, e, o⟩ => ?_⟩
  have h1 := pv_revX (bx := bx) (k := k) (p1 := p1) (p2 := p2) (p3 := p3) (pos := pos) hK he
  have h2 := pe_revU (k := k) (p1 := p1) (p2 := p2) (p3 := p3) (pos := pos) he
  cases q : s ρ h with
  | no => exact h1.run pins s' σ H Q I ⟨μ, ρ, h, r, e, by unfold sUn at o ⊢; rw [q] at o ⊢; exact o⟩
  | ex x h' => exact h1.run pins s' σ H Q I ⟨μ, ρ, h, r, e, by unfold sUn at o ⊢; rw [q] at o ⊢; exact o⟩
  | ok d h' =>
    by_cases hd : ∃ xs, d = .tup xs
    · obtain ⟨xs, rfl⟩ := hd
      refine h2.run pins s' σ H Q I ⟨μ, ρ, h, r, e, ?_⟩
      have o1 := OutV.bind (show OutV T W σ μ H Q ((s ρ h).bind fun d h => revY bx d h) from o)
      rw [q] at o1 ⊢
      intro μ1 H1 v s1 r1 rv
      obtain ⟨a, vs, e1, e2, e4, e5⟩ := rv.tupOf
      have o2 : OutV T W σ μ1 H1 Q (newT xs.reverse h') := by
        unfold sUn at o
        rw [q] at o
        exact OutV.step (show OutV T W σ μ H Q (newT xs.reverse h') from o) s1
      exact ⟨a, vs, e1, .inl (.inl e2), (newT_ok r1 e5.reverse o2).2⟩
    · refine h1.run pins s' σ H Q I ⟨μ, ρ, h, r, e, ?_⟩
      unfold sUn at o ⊢
      rw [q] at o ⊢
      have e5 : revY bx d h' = revX bx d h' := by
        cases d with
        | tup xs => exact absurd ⟨xs, rfl⟩ hd
        | _ => rfl
      show OutV T W σ μ H Q (revX bx d h')
      rw [← e5]
      exact o
end
end VI
end
section
namespace VI.Lay
open PySem PySem.Spec PyProof.Rows L2 VI VI.Std
/-! plain evaluation: sets of servers, items -/
section
variable (T : Tb)
def fNum : List D → Bs → R D := runFn 3 3 (isNum T)
def sSet : SS := (ssCons (ssIf (sOr (sNot (sUn (isiD T 4) (sVar 0))) (sNot (sCall allD' (saCons (sLc false [4] (siSeq (sVar 0)) (sgName 4) (fun _ h => .ok true h) (sCall (fNum T) (saCons (sVar 4) (saCons (sK (.int 0)) (saCons (sOp subD (sVar 1) (sK (.int 1))) saNil))))) saNil))))
  (ssCons (ssRet (sK (.bl false)))
  ssNil)
  ssNil)
  (ssCons (ssRet (sCall allD' (saCons (sLc false [2, 3] (siArg itZipX (saCons (sVar 0) (saCons (sSl false (sVar 0) (soSome (sK (.int 1))) soNone) saNil))) (sgTup 2 (sgCons (sgName 2) (sgCons (sgName 3) sgNil))) (fun _ h => .ok true h) (sOp ltS (sVar 2) (sVar 3))) saNil)))
  ssNil))
def fSet : List D → Bs → R D := runFn 2 5 (sSet T)
def sItem : SS := (ssCons (ssIf (sOr (sNot (sUn (isiD T 4) (sVar 0))) (sOr (sOp (eqD true) (sCall lenD (saCons (sVar 0) saNil)) (sK (.int 2))) (sNot (sCall (fSet T) (saCons (sOp ixD (sVar 0) (sK (.int 0))) (saCons (sVar 1) saNil))))))
  (ssCons (ssRet (sK (.bl false)))
  ssNil)
  ssNil)
  (ssCons (ssRet (sCall (fNum T) (saCons (sOp ixD (sVar 0) (sK (.int 1))) (saCons (sK (.int 1)) (saCons (sCall lenD (saCons (sOp ixD (sVar 0) (sK (.int 0))) saNil)) saNil)))))
  ssNil))
def fItem : List D → Bs → R D := runFn 2 2 (sItem T)
def sCommon : SS := (ssCons (ssRet (sCall tupleD (saCons (sLc false [2] (siSeq (sVar 0)) (sgName 2) (sTru (sOp (inD false) (sVar 2) (sVar 1))) (sVar 2)) saNil)))
  ssNil)
def fCommon : List D → Bs → R D := runFn 2 3 sCommon
def sOthers : SS := (ssCons (ssRet (sCall tupleD (saCons (sLc false [2] (siArg itRng1 (saCons (sVar 0) saNil)) (sgName 2) (sTru (sOp (inD true) (sVar 2) (sVar 1))) (sVar 2)) saNil)))
  ssNil)
def fOthers : List D → Bs → R D := runFn 2 3 sOthers
end
section
variable {K : PySem.W.Frag} {ct : Ct} {h : Bs} {X Y : List Int} {n : Nat}
theorem isi_tup {xs : List D} : isiD (tbC ct K) 4 (.tup xs) h = .ok (.bl true) h := rfl
theorem lt_ok {x y : Int} : ltS (.int x) (.int y) h = .ok (.bl (decide (x < y))) h := rfl
theorem ge_ok {x y : Int} : geS (.int x) (.int y) h = .ok (.bl (decide (y ≤ x))) h := rfl
theorem zipT {xs ys : List D} : itZipX [.tup xs, .tup ys] h = .ok (zipL xs ys, none) h := rfl
theorem slT_lo {n : Nat} (hl : X.length ≤ sizeLine) : slD false (tI X) (some (n : Int)) none h = .ok (tI (X.drop n)) h := by
  show newT (cutD _ _ _) h = _
  rw [cut_from, ← List.map_drop, newT_f (by rw [List.length_map, List.length_drop]; omega)]
theorem lenT {xs : List D} : lenD [.tup xs] h = .ok (.int xs.length) h := rfl
theorem lenTI : lenD [tI X] h = .ok (.int X.length) h := by
  show R.ok (D.int ((X.map D.int).length : Nat)) h = _
  rw [List.length_map]
/-- all of a comprehension of truth values -/
theorem all_emb {α : Type} {own : List Nat} {it : SI} {g : SG} {el : SV} {ρ : Ev} (E : α → D) (l : List α) (p : α → Bool) (e1 : it ρ h = .ok (l.map E, none) h) (H : ∀ a ∈ l, ∃ ρ1, g (E a) (wipeE ρ own) h = .ok ρ1 h ∧ el ρ1 h = .ok (.bl (p a)) h) (hl : l.length ≤ sizeLine) :
    (sCall allD' (saCons (sLc false own it g (fun _ h => .ok true h) el) saNil)) ρ h = .ok (.bl (l.all p)) h := by
  have c1 : sLc false own it g (fun _ h => .ok true h) el ρ h = .ok (.lst ((l.map p).map .bl)) h := by
    refine lc_ok e1 ?_ (by rw [List.length_map, List.length_map]; exact hl)
    rw [List.map_map]
    exact lc_emb1 E _ l H
  refine call_ok (cons_ok c1 rfl) ?_
  rw [all_bls, List.all_map]
  rfl
theorem any_emb {α : Type} {own : List Nat} {it : SI} {g : SG} {el : SV} {ρ : Ev} (E : α → D) (l : List α) (p : α → Bool) (e1 : it ρ h = .ok (l.map E, none) h) (H : ∀ a ∈ l, ∃ ρ1, g (E a) (wipeE ρ own) h = .ok ρ1 h ∧ el ρ1 h = .ok (.bl (p a)) h) (hl : l.length ≤ sizeLine) :
    (sCall anyD' (saCons (sLc false own it g (fun _ h => .ok true h) el) saNil)) ρ h = .ok (.bl (l.any p)) h := by
  have c1 : sLc false own it g (fun _ h => .ok true h) el ρ h = .ok (.lst ((l.map p).map .bl)) h := by
    refine lc_ok e1 ?_ (by rw [List.length_map, List.length_map]; exact hl)
    rw [List.map_map]
    exact lc_emb1 E _ l H
  refine call_ok (cons_ok c1 rfl) ?_
  rw [any_bls, List.any_map]
  rfl
/-- a filter, the items themselves -/
theorem fil_emb {α : Type} {own : List Nat} {it : SI} {g : SG} {tt : SV} {el : SV} {ρ : Ev} (E : α → D) (l : List α) (p : α → Bool) (e1 : it ρ h = .ok (l.map E, none) h) (H : ∀ a ∈ l, ∃ ρ1, g (E a) (wipeE ρ own) h = .ok ρ1 h ∧ tt ρ1 h = .ok (.bl (p a)) h ∧ el ρ1 h = .ok (E a) h) (hl : l.length ≤ sizeLine) :
    sLc false own it g (sTru tt) el ρ h = .ok (.lst ((l.filter p).map E)) h := by
  refine lc_ok e1 ?_ (by rw [List.length_map]; exact Nat.le_trans (List.length_filter_le _ _) hl)
  exact lc_emb E p E l fun a ha => by
    obtain ⟨ρ1, e2, e3, e4⟩ := H a ha
    exact ⟨ρ1, e2, tru_ok e3, fun _ => e4⟩
theorem tup_l (hl : X.length ≤ sizeLine) : tupleD [lI X] h = .ok (tI X) h := tuple_lst (by rw [List.length_map]; exact hl)
theorem set_ok (hX : SetN n X) (hl : X.length ≤ 1000) : fSet (tbC ct K) [tI X, .int n] h = .ok (.bl true) h := by
  have sz : (1000 : Nat) ≤ sizeLine := by decide
  refine run_rt rfl ?_ rfl
  show sSet (tbC ct K) [some (tI X), some (.int n), none, none, none] (inB h) = _
  unfold sSet
  have a1 : (X.all fun x => decide (0 ≤ x) && decide (x ≤ (n : Int) - 1)) = true := by
    rw [List.all_eq_true]
    intro x hx
    have := hX.lo x hx
    simp only [Bool.and_eq_true, decide_eq_true_eq]
    omega
  refine (cons_nx (h1 := inB h) (if_f (h1 := inB h) (or_ok (a := false) (b := false) (not_ok (a := true) rfl) fun _ => not_ok (a := true) ((all_emb (h := inB h) .int X (fun x => decide (0 ≤ x) && decide (x ≤ (n : Int) - 1)) rfl (fun x hx => ⟨_, rfl, call_ok (h1 := inB h) (xs := [.int x, .int 0, .int ((n : Int) - 1)]) rfl (num_ok (ct := ct) (K := K))⟩) (by omega)).trans (by rw [a1]))))).trans ?_
  have a2 : ((X.zip (X.drop 1)).all fun p => decide (p.1 < p.2)) = true := by
    rw [List.all_eq_true]
    intro p hp
    obtain ⟨i, hi, rfl⟩ := List.getElem_of_mem hp
    rw [List.getElem_zip, List.getElem_drop]
    have hi' : 1 + i < X.length := by rw [List.length_zip, List.length_drop] at hi; omega
    have := List.pairwise_iff_getElem.mp hX.up i (1 + i) (by omega) hi' (by omega)
    simpa using this
  refine ret_ok ((all_emb (h := inB h) pT (X.zip (X.drop 1)) (fun p => decide (p.1 < p.2)) (arg_ok (h1 := inB h) (xs := [tI X, tI (X.drop 1)]) (cons_ok (h1 := inB h) rfl (cons_ok (h1 := inB h) (slOk rfl (soOk rfl) rfl (slT_lo (n := 1) (by omega))) rfl)) (zipT.trans (by rw [zip_ints]))) (fun p hp => ⟨_, rfl, op_ok (x := .int p.1) (y := .int p.2) rfl rfl lt_ok⟩) (by rw [List.length_zip]; omega)).trans (by rw [a2]))
/-- an item: who holds it, how many copies are needed -/
abbrev It := List Int × Int
def itD (i : It) : D := .tup [tI i.1, .int i.2]
structure ItOk (n : Nat) (i : It) : Prop where
  set : SetN n i.1
  lo : 1 ≤ i.2
  hi : i.2 ≤ i.1.length
theorem SetN.len (hX : SetN n X) : X.length ≤ n := by
  have key : ∀ (l : List Int) (a b : Int), l.Pairwise (· < ·) → (∀ x ∈ l, a ≤ x ∧ x < b) → a ≤ b → (l.length : Int) ≤ b - a := by
    intro l
    induction l with
    | nil => intro a b _ _ h; simp; omega
    | cons x l ih =>
      intro a b hp hb hab
      rw [List.pairwise_cons] at hp
      have hx := hb x List.mem_cons_self
      have := ih (x + 1) b hp.2 (fun y hy => ⟨by have := hp.1 y hy; omega, (hb y (List.mem_cons_of_mem _ hy)).2⟩) (by omega)
      rw [List.length_cons]
      omega
  have := key X 0 n hX.up (fun x hx => hX.lo x hx) (by omega)
  omega
theorem item_ok {i : It} (hi : ItOk n i) (hn : n ≤ 100) : fItem (tbC ct K) [itD i, .int n] h = .ok (.bl true) h := by
  have sz : (1000 : Nat) ≤ sizeLine := by decide
  have hl := SetN.len hi.set
  refine run_rt rfl ?_ rfl
  show sItem (tbC ct K) [some (itD i), some (.int n)] (inB h) = _
  unfold sItem
  refine (cons_nx (h1 := inB h) (if_f (h1 := inB h) (or_ok (a := false) (b := false) (not_ok (a := true) rfl) fun _ => or_ok (a := false) (b := false) (op_ok (x := .int 2) (y := .int 2) (call_ok (h1 := inB h) (xs := [itD i]) rfl rfl) rfl rfl) fun _ => not_ok (a := true) (call_ok (h1 := inB h) (xs := [tI i.1, .int n]) rfl (set_ok hi.set (by omega)))))).trans ?_
  refine ret_ok ((call_ok (h1 := inB h) (xs := [.int i.2, .int 1, .int i.1.length]) (cons_ok (h1 := inB h) rfl (cons_ok (h1 := inB h) rfl (cons_ok (h1 := inB h) (call_ok (h1 := inB h) (xs := [tI i.1]) rfl lenTI) rfl))) (num_ok (ct := ct) (K := K))).trans ?_)
  rw [decide_eq_true hi.lo, decide_eq_true hi.hi]
  rfl
theorem common_ok (hX : X.length ≤ 1000) : fCommon [tI X, tI Y] h = .ok (tI (X.filter fun x => decide (x ∈ Y))) h := by
  have sz : (1000 : Nat) ≤ sizeLine := by decide
  refine run_rt rfl ?_ noD_tI
  show sCommon [some (tI X), some (tI Y), none] (inB h) = _
  unfold sCommon
  refine ret_ok (call_ok (cons_ok (fil_emb (h := inB h) .int X (fun x => decide (x ∈ Y)) rfl (fun x hx => ⟨_, rfl, op_ok (x := .int x) (y := tI Y) rfl rfl ((in_tI (neg := false)).trans rfl), rfl⟩) (by omega)) rfl) (tup_l (Nat.le_trans (List.length_filter_le _ _) (by omega))))
def rgI (n : Nat) : List Int := (List.range n).map fun (i : Nat) => (i : Int)
theorem rgI_len : (rgI n).length = n := by simp [rgI]
theorem mem_rgI {x : Int} : x ∈ rgI n ↔ 0 ≤ x ∧ x < n := by
  unfold rgI
  rw [List.mem_map]
  constructor
  · rintro ⟨a, ha, rfl⟩
    have := List.mem_range.mp ha
    omega
  · intro e
    exact ⟨x.toNat, List.mem_range.mpr (by omega), by omega⟩
theorem rng_I (hn : n < 2 ^ 24) : itRng1 [.int n] h = .ok ((rgI n).map .int, none) h := by
  rw [rng_ok hn]
  unfold rgI
  rw [List.map_map]
  rfl
def oth (n : Nat) (Y : List Int) : List Int := (rgI n).filter fun x => !decide (x ∈ Y)
theorem others_ok (hn : n ≤ 1000) : fOthers [.int n, tI Y] h = .ok (tI (oth n Y)) h := by
  have sz : (1000 : Nat) ≤ sizeLine := by decide
  refine run_rt rfl ?_ noD_tI
  show sOthers [some (.int n), some (tI Y), none] (inB h) = _
  unfold sOthers
  refine ret_ok (call_ok (cons_ok (fil_emb (h := inB h) .int (rgI n) (fun x => !decide (x ∈ Y)) (arg_ok (h1 := inB h) (xs := [.int n]) rfl (rng_I (by omega))) (fun x hx => ⟨_, rfl, op_ok (x := .int x) (y := tI Y) rfl rfl ((in_tI (neg := true)).trans rfl), rfl⟩) (by rw [rgI_len]; omega)) rfl) (tup_l (Nat.le_trans (List.length_filter_le _ _) (by rw [rgI_len]; omega))))
end
end VI.Lay
end
section
namespace VI.Lay
open PySem PySem.Spec PyProof.Rows L2 VI VI.Std
/-! all sets of servers, by length and then as tuples -/
def kX (X : List Int) : PyData := .tuple [.int (X.length : Nat), .tuple (X.map .int)]
def insX (X : List Int) : List (List Int) → List (List Int)
  | [] => [X]
  | Y :: Ys => if W.dataLt (kX Y) (kX X) then Y :: insX X Ys else X :: Y :: Ys
def srtX : List (List Int) → List (List Int)
  | [] => []
  | X :: Xs => insX X (srtX Xs)
def eX (X : List Int) : Kd := (tI X, kX X)
theorem insK_eX (X : List Int) : ∀ Ys, insK (eX X) (Ys.map eX) = (insX X Ys).map eX
  | [] => rfl
  | Y :: Ys => by
    rw [List.map_cons]
    show (if W.dataLt (kX Y) (kX X) then eX Y :: insK (eX X) (Ys.map eX) else _) = _
    rw [insK_eX X Ys]
    show _ = List.map eX (if W.dataLt (kX Y) (kX X) then Y :: insX X Ys else X :: Y :: Ys)
    split <;> rfl
theorem srtK_eX : ∀ Xs, srtK (Xs.map eX) = (srtX Xs).map eX
  | [] => rfl
  | X :: Xs => by
    rw [List.map_cons]
    show insK (eX X) (srtK (Xs.map eX)) = _
    rw [srtK_eX Xs, insK_eX]
    rfl
theorem insX_perm (X : List Int) : ∀ Ys, (insX X Ys).Perm (X :: Ys)
  | [] => .refl _
  | Y :: Ys => by
    unfold insX
    split
    · exact ((insX_perm X Ys).cons Y).trans (.swap X Y Ys)
    · exact .refl _
theorem srtX_perm : ∀ Xs, (srtX Xs).Perm Xs
  | [] => .refl _
  | X :: Xs => (insX_perm X _).trans ((srtX_perm Xs).cons X)
theorem toks_ints : ∀ X Y : List Int, W.keyToksAll (X.map .int) = W.keyToksAll (Y.map .int) → X = Y
  | [], [], _ => rfl
  | [], y :: Y, e => by simp [W.keyToksAll] at e
  | x :: X, [], e => by simp [W.keyToksAll] at e
  | x :: X, y :: Y, e => by
    simp only [List.map_cons, W.keyToksAll, W.keyToks, List.cons_append, List.nil_append, List.cons.injEq, Sum.inl.injEq, true_and] at e
    rw [e.1, toks_ints X Y e.2]
theorem toks_kX {X Y : List Int} (e : W.keyToks (kX X) = W.keyToks (kX Y)) : X = Y := by
  simp only [kX, W.keyToks, W.keyToksAll, List.cons_append, List.nil_append, List.cons.injEq, Sum.inl.injEq, true_and] at e
  exact toks_ints X Y (List.append_cancel_right e.2)
theorem beqDs_refl : ∀ X : List Int, beqDs (X.map .int) (X.map .int) = true
  | [] => by simp [beqDs]
  | x :: X => by simp [beqDs, beqD, beqDs_refl X]
theorem beqD_tI (X : List Int) : beqD (tI X) (tI X) = true := by simp [beqD, beqDs_refl X]
theorem adj_eX : ∀ Xs : List (List Int), (Xs.map eX).Pairwise (fun a b => leK a b = true) → adjOk (Xs.map eX) = true
  | [], _ => rfl
  | [_], _ => rfl
  | X :: Y :: Xs, hs => by
    rw [List.map_cons, List.map_cons] at hs ⊢
    rw [List.pairwise_cons] at hs
    have ih := adj_eX (Y :: Xs) (by rw [List.map_cons]; exact hs.2)
    rw [List.map_cons] at ih
    have h1 := hs.1 (eX Y) List.mem_cons_self
    simp only [adjOk, ih, Bool.and_true, Bool.or_eq_true]
    cases e : W.dataLt (eX X).2 (eX Y).2 with
    | true => exact .inl rfl
    | false =>
      refine .inr ?_
      have h2 : leK (eX Y) (eX X) = true := by unfold leK; rw [e]; rfl
      have : X = Y := toks_kX (leK_anti h1 h2)
      rw [this]
      exact beqD_tI Y
theorem leX_len {X Y : List Int} (e : leK (eX X) (eX Y) = true) : X.length ≤ Y.length := by
  refine Classical.byContradiction fun n => ?_
  have : W.dataLt (kX Y) (kX X) = true := by
    unfold W.dataLt kX
    simp only [W.keyToks, W.keyToksAll, List.cons_append, List.nil_append]
    rw [lex_cons, lex_cons]
    have e1 : itemOrd.blt (Sum.inl 1 : Int ⊕ List Nat) (Sum.inl 1) = false := rfl
    have e2 : itemOrd.blt (Sum.inl (Y.length : Int) : Int ⊕ List Nat) (Sum.inl (X.length : Int)) = true := by
      show decide ((Y.length : Int) < (X.length : Int)) = true
      exact decide_eq_true (by omega)
    rw [e1, e2]
    rfl
  have h2 : leK (eX X) (eX Y) = false := by unfold leK; show (!W.dataLt (kX Y) (kX X)) = false; rw [this]; rfl
  rw [h2] at e
  cases e
theorem srtX_len (Xs : List (List Int)) : (srtX Xs).Pairwise fun X Y => X.length ≤ Y.length := by
  have := srtK_sorted (Xs.map eX)
  rw [srtK_eX, List.pairwise_map] at this
  exact this.imp leX_len
abbrev lT (Xs : List (List Int)) : D := .lst (Xs.map fun X => tI X)
section
variable {h : Bs} {Xs : List (List Int)} {ti : Nat}
theorem py_tI' (X : List Int) : py 12 h (tI X) = some (.tuple (X.map .int)) := py_tI X
theorem py_Ts : ∀ Xs : List (List Int), mapO (py pyN h) (Xs.map fun X => tI X) = some (Xs.map fun X => .tuple (X.map .int))
  | [] => rfl
  | X :: Xs => by
    have e1 : py pyN h (tI X) = some (.tuple (X.map .int)) := py_tI X
    simp only [List.map_cons, mapO, e1, py_Ts Xs]
theorem isI_all (X : List Int) : (X.map PyData.int).all isI = true := by
  rw [List.all_eq_true]
  intro x hx
  obtain ⟨i, _, rfl⟩ := List.mem_map.mp hx
  rfl
theorem fits_ints (X : List Int) : (X.map PyData.int).all (fits .i) = true := by
  rw [List.all_eq_true]
  intro x hx
  obtain ⟨i, _, rfl⟩ := List.mem_map.mp hx
  rfl
theorem sortK_ok (ht : h.bs[ti]? = some (.tbl ti)) (hl : Xs.length ≤ sizeLine) : sortKD ti false (lT Xs) h = .ok (lT (srtX Xs)) h := by
  have keys : (Xs.map fun X => PyData.tuple (X.map .int)).map keyL = Xs.map kX := by
    rw [List.map_map]
    refine List.map_congr_left fun X _ => ?_
    show PyData.tuple [.int ((X.map PyData.int).length : Nat), .tuple (X.map .int)] = _
    rw [List.length_map]
    rfl
  have zips : (Xs.map fun X => tI X).zip (Xs.map kX) = Xs.map eX := by
    clear keys hl
    induction Xs with
    | nil => rfl
    | cons X Xs ih => simp only [List.map_cons, List.zip_cons_cons, ih]; rfl
  have c1 : (Xs.map fun X => PyData.tuple (X.map .int)).all tupI = true := by
    rw [List.all_eq_true]
    intro p hp
    obtain ⟨X, _, rfl⟩ := List.mem_map.mp hp
    exact isI_all X
  have c2 : canSort (Xs.map kX) = true := by
    unfold canSort
    rw [Bool.and_eq_true, Bool.or_eq_true]
    refine ⟨List.any_eq_true.mpr ⟨.two .i (.seq .i), by simp [pats], ?_⟩, .inl ?_⟩
    · rw [List.all_eq_true]
      intro p hp
      obtain ⟨X, _, rfl⟩ := List.mem_map.mp hp
      show (true && (X.map PyData.int).all (fits .i)) = true
      rw [fits_ints]
      rfl
    · rw [List.all_eq_true]
      intro p hp
      obtain ⟨X, _, rfl⟩ := List.mem_map.mp hp
      rfl
  have c3 : adjOk (srtK (Xs.map eX)) = true := by
    have := srtK_sorted (Xs.map eX)
    rw [srtK_eX] at this ⊢
    exact adj_eX _ this
  unfold sortKD
  simp only [ht, if_true, lstOf, py_Ts, keys, zips, c1, c2, c3, Bool.and_self]
  rw [srtK_eX, List.map_map, newL_f (by rw [List.length_map, (srtX_perm Xs).length_eq]; exact hl)]
  rfl
/-- subsets as the program lists them -/
def subs : Nat → List (List Int)
  | 0 => [[]]
  | k + 1 => subs k ++ (subs k).map fun X => X ++ [(k : Int)]
theorem subs_len : ∀ k, (subs k).length = 2 ^ k
  | 0 => rfl
  | k + 1 => by
    unfold subs
    rw [List.length_append, List.length_map, subs_len k, Nat.pow_succ]
    omega
theorem subs_ok : ∀ k, ∀ X ∈ subs k, SetN k X
  | 0, X, hX => by
    have : X = [] := by simpa [subs] using hX
    rw [this]
    exact ⟨.nil, by simp⟩
  | k + 1, X, hX => by
    unfold subs at hX
    rcases List.mem_append.mp hX with z | z
    · have := subs_ok k X z
      exact ⟨this.up, fun x hx => by have := this.lo x hx; omega⟩
    · obtain ⟨Y, hY, rfl⟩ := List.mem_map.mp z
      have := subs_ok k Y hY
      refine ⟨?_, fun x hx => ?_⟩
      · rw [List.pairwise_append]
        refine ⟨this.up, by simp, fun a ha b hb => ?_⟩
        rw [List.mem_singleton.mp hb]
        exact (this.lo a ha).2
      · rcases List.mem_append.mp hx with q | q
        · have := this.lo x q; omega
        · rw [List.mem_singleton.mp q]; omega
theorem subs_all : ∀ k, ∀ X, SetN k X → X ∈ subs k
  | 0, X, hX => by
    have : X = [] := by
      cases X with
      | nil => rfl
      | cons x X => have := hX.lo x List.mem_cons_self; omega
    rw [this]
    simp [subs]
  | k + 1, X, hX => by
    unfold subs
    rw [List.mem_append]
    by_cases q : (k : Int) ∈ X
    · refine .inr (List.mem_map.mpr ?_)
      have ne : X ≠ [] := fun z => by rw [z] at q; cases q
      have e := List.dropLast_concat_getLast ne
      have last : X.getLast ne = (k : Int) := by
        have l1 := (hX.lo _ (List.getLast_mem ne)).2
        rw [← e] at q
        rcases List.mem_append.mp q with z | z
        · have up := hX.up
          rw [← e, List.pairwise_append] at up
          have := up.2.2 _ z _ (List.mem_singleton.mpr rfl)
          omega
        · exact (List.mem_singleton.mp z).symm
      refine ⟨X.dropLast, subs_all k _ ⟨?_, fun x hx => ?_⟩, ?_⟩
      · exact hX.up.sublist (List.dropLast_sublist X)
      · have h1 := hX.lo x (List.dropLast_subset X hx)
        have up := hX.up
        rw [← e, List.pairwise_append] at up
        have := up.2.2 _ hx _ (List.mem_singleton.mpr rfl)
        rw [last] at this
        omega
      · rw [← last]
        exact e
    · refine .inl (subs_all k X ⟨hX.up, fun x hx => ?_⟩)
      have := hX.lo x hx
      have : x ≠ k := fun z => q (by rw [← z]; exact hx)
      omega
theorem subs_nodup : ∀ k, (subs k).Nodup
  | 0 => by simp [subs]
  | k + 1 => by
    unfold subs
    rw [List.nodup_append]
    refine ⟨subs_nodup k, ?_, fun X hX Y hY => ?_⟩
    · rw [List.nodup_iff_pairwise_ne, List.pairwise_map]
      exact (List.nodup_iff_pairwise_ne.mp (subs_nodup k)).imp fun ne e => ne (List.append_cancel_right e)
    · obtain ⟨Z, hZ, rfl⟩ := List.mem_map.mp hY
      intro e
      have := (subs_ok k X hX).lo (k : Int) (by rw [e]; simp)
      omega
def sets (n : Nat) : List (List Int) := srtX (subs n)
theorem mem_sets {n : Nat} {X : List Int} : X ∈ sets n ↔ SetN n X := by
  unfold sets
  rw [(srtX_perm _).mem_iff]
  exact ⟨subs_ok n X, subs_all n X⟩
theorem sets_nodup {n : Nat} : (sets n).Nodup := (srtX_perm _).symm.nodup (subs_nodup n)
theorem sets_len {n : Nat} : (sets n).length = 2 ^ n := by unfold sets; rw [(srtX_perm _).length_eq, subs_len]
theorem sets_up {n : Nat} : (sets n).Pairwise fun X Y => X.length ≤ Y.length := srtX_len _
end
end VI.Lay
end
section
namespace VI.Lay
open PySem PySem.Spec PyProof.Rows L2 VI VI.Std
section
variable {h : Bs} {X Y : List Int} {n ti : Nat} {K : PySem.W.Frag} {ct : Ct}
theorem star_ok {sa : SV} {sr : SA} {ρ : Ev} {x : D} {xs ys : List D} (e1 : sa ρ h = .ok x h) (e2 : seqOf h x = some xs) (e3 : sr ρ h = .ok ys h) : saStar sa sr ρ h = .ok (xs ++ ys) h := by
  unfold saStar
  rw [e1, bind_ok]
  simp only [e2, e3, bind_ok]
/-! ### all sets -/
def l1Sets : SS := (ssCons (ssAsg (sLst false (saStar (sVar 1) (saStar (sLc false [3] (siSeq (sVar 1)) (sgName 3) (fun _ h => .ok true h) (sTup (saStar (sVar 3) (saCons (sVar 2) saNil)))) saNil))) (sgName 1))
  ssNil)
def sSets (ti : Nat) : SS := (ssCons (ssAsg (sLst false (saCons (sTup saNil) saNil)) (sgName 1))
  (ssCons (ssFor (siArg itRng1 (saCons (sVar 0) saNil)) (sgName 2)
  l1Sets)
  (ssCons (ssRet (sUn (sortKD ti false) (sVar 1)))
  ssNil)))
def fSets (ti : Nat) : List D → Bs → R D := runFn 1 4 (sSets ti)
def l1Sets' : SS := (ssCons (ssAsg (sOp (addD false) (sVar 1) (sLc false [3] (siSeq (sVar 1)) (sgName 3) (fun _ h => .ok true h) (sOp (addD false) (sVar 3) (sTup (saCons (sVar 2) saNil))))) (sgName 1))
  ssNil)
def sSets' (ti : Nat) : SS := (ssCons (ssAsg (sLst false (saCons (sTup saNil) saNil)) (sgName 1))
  (ssCons (ssFor (siArg itRng1 (saCons (sVar 0) saNil)) (sgName 2)
  l1Sets')
  (ssCons (ssRet (sUn (sortKD ti false) (sVar 1)))
  ssNil)))
def fSets' (ti : Nat) : List D → Bs → R D := runFn 1 4 (sSets' ti)
theorem subs_small {k : Nat} (hk : k ≤ 8) : (subs k).length ≤ 256 := by
  rw [subs_len]
  exact Nat.pow_le_pow_right (by decide) hk
theorem subs_lens {k : Nat} {X : List Int} (hX : X ∈ subs k) : X.length ≤ k := SetN.len (subs_ok k X hX)
theorem addT {X Y : List Int} (hl : X.length + Y.length ≤ sizeLine) : addD false (tI X) (tI Y) h = .ok (tI (X ++ Y)) h := by
  show newT (X.map .int ++ Y.map .int) h = _
  rw [← List.map_append, newT_f (by rw [List.length_map, List.length_append]; exact hl)]
theorem addLT {A B : List (List Int)} (hl : A.length + B.length ≤ sizeLine) : addD false (lT A) (lT B) h = .ok (lT (A ++ B)) h := by
  show newL false (A.map (fun X => tI X) ++ B.map (fun X => tI X)) h = _
  rw [← List.map_append, newL_f (by rw [List.length_map, List.length_append]; exact hl)]
theorem sets_body {k : Nat} (hk : k < 8) {s0 : Option D} :
    l1Sets [s0, some (lT (subs k)), some (.int k), none] h = .nx [s0, some (lT (subs (k + 1))), some (.int k), none] h := by
  have sz : (1000 : Nat) ≤ sizeLine := by decide
  have s1 := subs_small (k := k) (by omega)
  have lc : (sLc false [3] (siSeq (sVar 1)) (sgName 3) (fun _ h => .ok true h) (sTup (saStar (sVar 3) (saCons (sVar 2) saNil)))) [s0, some (lT (subs k)), some (.int k), none] h = .ok (lT ((subs k).map fun X => X ++ [(k : Int)])) h := by
    refine lc_ok (xs := (subs k).map fun X => tI X) rfl ?_ (by rw [List.length_map, List.length_map]; omega)
    rw [List.map_map]
    refine lc_emb1 (fun X => tI X) _ _ fun X hX => ⟨[s0, some (lT (subs k)), some (.int k), some (tI X)], rfl, ?_⟩
    have := subs_lens hX
    have e : X.map D.int ++ [D.int k] = (X ++ [(k : Int)]).map .int := by simp
    exact tup_ok ((star_ok (x := tI X) rfl rfl (cons_ok (x := .int k) rfl rfl)).trans (by rw [e])) (by rw [List.length_map]; simp; omega)
  have e : (subs k).map (fun X => tI X) ++ (((subs k).map fun X => X ++ [(k : Int)]).map (fun X => tI X) ++ []) = (subs (k + 1)).map fun X => tI X := by
    rw [List.append_nil, ← List.map_append]
    rfl
  unfold l1Sets
  refine (cons_nx (asg_ok (lst_ok ((star_ok (x := lT (subs k)) rfl rfl (star_ok lc rfl rfl)).trans (by rw [e])) ?_) rfl)).trans rfl
  rw [List.length_map]
  have := subs_small (k := k + 1) (by omega)
  omega
theorem sets_body' {k : Nat} (hk : k < 8) {s0 : Option D} :
    l1Sets' [s0, some (lT (subs k)), some (.int k), none] h = .nx [s0, some (lT (subs (k + 1))), some (.int k), none] h := by
  have sz : (1000 : Nat) ≤ sizeLine := by decide
  have s1 := subs_small (k := k) (by omega)
  have lc : (sLc false [3] (siSeq (sVar 1)) (sgName 3) (fun _ h => .ok true h) (sOp (addD false) (sVar 3) (sTup (saCons (sVar 2) saNil)))) [s0, some (lT (subs k)), some (.int k), none] h = .ok (lT ((subs k).map fun X => X ++ [(k : Int)])) h := by
    refine lc_ok (xs := (subs k).map fun X => tI X) rfl ?_ (by rw [List.length_map, List.length_map]; omega)
    rw [List.map_map]
    refine lc_emb1 (fun X => tI X) _ _ fun X hX => ⟨[s0, some (lT (subs k)), some (.int k), some (tI X)], rfl, ?_⟩
    have := subs_lens hX
    exact op_ok (x := tI X) (y := tI [(k : Int)]) rfl (tup_ok (xs := [.int k]) rfl (show 1 ≤ sizeLine by decide)) (addT (by simp; omega))
  unfold l1Sets'
  refine (cons_nx (asg_ok (op_ok (x := lT (subs k)) rfl lc (addLT (by rw [List.length_map]; omega))) rfl)).trans rfl
theorem sets_loop {body : SS} (hb : ∀ k, k < 8 → ∀ s0, body [s0, some (lT (subs k)), some (.int k), none] h = .nx [s0, some (lT (subs (k + 1))), some (.int k), none] h) {s0 : Option D} : ∀ (m k : Nat) (x : Option D), k + m ≤ 8 → ∃ x',
    loopS (sgName 2) body ((List.range' k m).map fun (i : Nat) => D.int i) [s0, some (lT (subs k)), x, none] h = .nx [s0, some (lT (subs (k + m))), x', none] h
  | 0, k, x, _ => ⟨x, rfl⟩
  | m + 1, k, x, hk => by
    obtain ⟨x', e⟩ := sets_loop hb (s0 := s0) m (k + 1) (some (.int k)) (by omega)
    refine ⟨x', ?_⟩
    rw [List.range'_succ, List.map_cons, loop_step (ρ1 := [s0, some (lT (subs k)), some (.int k), none]) (h1 := h) rfl (hb k (by omega) s0), e, show k + 1 + m = k + (m + 1) by omega]
theorem noD_lT (Xs : List (List Int)) : noD (lT Xs) = true := by
  simp only [noD]
  rw [noDs_all]
  intro x hx
  obtain ⟨X, _, rfl⟩ := List.mem_map.mp hx
  exact noD_tI
theorem rng_r (hn : n < 2 ^ 24) : itRng1 [.int n] h = .ok ((List.range' 0 n).map (fun (i : Nat) => D.int i), none) h := by
  rw [rng_ok hn, List.range_eq_range']
theorem sets_ok (ht : h.bs[ti]? = some (.tbl ti)) (hn : n ≤ 8) : fSets ti [.int n] h = .ok (lT (sets n)) h := by
  have sz : (1000 : Nat) ≤ sizeLine := by decide
  refine run_rt rfl ?_ (noD_lT _)
  show sSets ti [some (.int n), none, none, none] (inB h) = _
  obtain ⟨x', e⟩ := sets_loop (h := inB h) (body := l1Sets) (fun k hk s0 => sets_body hk) (s0 := some (.int n)) n 0 none (by omega)
  rw [Nat.zero_add] at e
  unfold sSets
  refine (cons_nx (ρ1 := [some (.int n), some (lT (subs 0)), none, none]) (h1 := inB h) (asg_ok (lst_ok (xs := [.tup []]) (cons_ok (tup_ok rfl (Nat.zero_le _)) rfl) (show 1 ≤ sizeLine by decide)) rfl)).trans ?_
  refine (cons_nx (for_ok (h1 := inB h) (arg_ok (h1 := inB h) (xs := [.int n]) rfl (rng_r (by omega))) e)).trans ?_
  exact ret_ok (un_ok (x := lT (subs n)) rfl (sortK_ok ht (by have := subs_small hn; omega)))
theorem sets_ok' (ht : h.bs[ti]? = some (.tbl ti)) (hn : n ≤ 8) : fSets' ti [.int n] h = .ok (lT (sets n)) h := by
  have sz : (1000 : Nat) ≤ sizeLine := by decide
  refine run_rt rfl ?_ (noD_lT _)
  show sSets' ti [some (.int n), none, none, none] (inB h) = _
  obtain ⟨x', e⟩ := sets_loop (h := inB h) (body := l1Sets') (fun k hk s0 => sets_body' hk) (s0 := some (.int n)) n 0 none (by omega)
  rw [Nat.zero_add] at e
  unfold sSets'
  refine (cons_nx (ρ1 := [some (.int n), some (lT (subs 0)), none, none]) (h1 := inB h) (asg_ok (lst_ok (xs := [.tup []]) (cons_ok (tup_ok rfl (Nat.zero_le _)) rfl) (show 1 ≤ sizeLine by decide)) rfl)).trans ?_
  refine (cons_nx (for_ok (h1 := inB h) (arg_ok (h1 := inB h) (xs := [.int n]) rfl (rng_r (by omega))) e)).trans ?_
  exact ret_ok (un_ok (x := lT (subs n)) rfl (sortK_ok ht (by have := subs_small hn; omega)))
/-! ### a box of sets -/
def stB (h : Bs) (A : List (List Int)) : Bs := ⟨h.bs.length :: h.fbs, h.bs ++ [.lst false (A.map fun X => tI X)]⟩
theorem stB_at {A : List (List Int)} : (stB h A).bs[h.bs.length]? = some (.lst false (A.map fun X => tI X)) := by simp [stB]
theorem stB_put {A B : List (List Int)} : putL h.bs.length (B.map fun X => tI X) (stB h A) = stB h B := by simp [putL, stB]
theorem stB_new : newL true [] (inB h) = .ok (.ref h.bs.length) (stB h []) := by
  rw [newL_t' (Nat.zero_le _)]
  rfl
theorem stB_app {A : List (List Int)} (hA : A.length < 1000) : appD (.ref h.bs.length) [tI X] (stB h A) = .ok .non (stB h (A ++ [X])) := by
  have sz : (1000 : Nat) ≤ sizeLine := by decide
  have ok : okW (stB h A) h.bs.length (tI X) = true := by simp [okW, stB]
  have e3 : decide ((A.map fun X => tI X).length < sizeLine) = true := by simp; omega
  simp only [appD, stB_at, ok, e3, Bool.and_self, if_true]
  rw [show (A.map (fun X => tI X)) ++ [tI X] = (A ++ [X]).map (fun X => tI X) by simp, stB_put]
theorem stB_end {A : List (List Int)} : finF h (.rt (.ref h.bs.length) (stB h A)) = .ok (lT A) h := by
  have f2 : outB h (stB h A) = h := by simp [outB, stB]
  have nd : noDs (A.map fun X => tI X) = true := by have := noD_lT A; simpa only [noD] using this
  have f1 : frzD (frzR h.bs.length (stB h A).bs 4) (.ref h.bs.length) = some (lT A) := by
    simp -implicitDefEqProofs only [frzD, frzR]
    rw [if_neg (by omega), stB_at]
    simp -implicitDefEqProofs only [frzDs_id _ _ nd]
  simp -implicitDefEqProofs only [finF, f1, f2]
/-- a comprehension over a box -/
theorem lcb_ok {own : List Nat} {it : SI} {g : SG} {tt : SB} {el : SV} {ρ : Ev} {b : Nat} {xs ys : List D} (hb : h.bs[b]? = some (.lst false xs)) (e1 : it ρ h = .ok (xs, some b) h) (e2 : lcS g tt el (wipeE ρ own) xs (lockB b h) = .ok ys (lockB b h)) (hl : ys.length ≤ sizeLine) : sLc false own it g tt el ρ h = .ok (.lst ys) h := by
  have hlt : b < h.bs.length := (List.getElem?_eq_some_iff.mp hb).1
  have u : unlB b (lockB b h) = h := by
    unfold lockB
    simp only [hb]
    unfold unlB
    simp only [List.getElem?_set_self hlt, List.set_set]
    have : h.bs.set b (.lst false xs) = h.bs := by
      refine List.ext_getElem? fun i => ?_
      by_cases q : b = i
      · subst q; rw [List.getElem?_set_self hlt, hb]
      · rw [List.getElem?_set_ne q]
    rw [this]
  unfold sLc
  rw [e1, bind_ok]
  show (unlR (some b) (lcS g tt el (wipeE ρ own) xs (lockB b h))).bind _ = _
  rw [e2]
  show newL false ys (unlB b (lockB b h)) = _
  rw [u, newL_f hl]
theorem box_it {b : Nat} {xs : List D} {s : SV} {ρ : Ev} (hb : h.bs[b]? = some (.lst false xs)) (e : s ρ h = .ok (.ref b) h) : siSeq s ρ h = .ok (xs, some b) h := by
  refine seq_ok e ?_
  simp only [itSeq, hb]
/-! ### within, minimal -/
def sWithin : SS := (ssCons (ssRet (sCall allD' (saCons (sLc false [2] (siSeq (sVar 0)) (sgName 2) (fun _ h => .ok true h) (sOp (inD false) (sVar 2) (sVar 1))) saNil)))
  ssNil)
def fWithin : List D → Bs → R D := runFn 2 3 sWithin
def wi (X Y : List Int) : Bool := X.all fun x => decide (x ∈ Y)
theorem within_ok (hX : X.length ≤ 1000) : fWithin [tI X, tI Y] h = .ok (.bl (wi X Y)) h := by
  have sz : (1000 : Nat) ≤ sizeLine := by decide
  refine run_rt rfl ?_ rfl
  show sWithin [some (tI X), some (tI Y), none] (inB h) = _
  unfold sWithin
  exact ret_ok (all_emb (h := inB h) .int X (fun x => decide (x ∈ Y)) rfl (fun x hx => ⟨_, rfl, op_ok (x := .int x) (y := tI Y) rfl rfl ((in_tI (neg := false)).trans rfl)⟩) (by omega))
def l1Min : SS := (ssCons (ssIf (sNot (sCall anyD' (saCons (sLc false [3] (siSeq (sVar 1)) (sgName 3) (fun _ h => .ok true h) (sCall fWithin (saCons (sVar 3) (saCons (sVar 2) saNil)))) saNil)))
  (ssCons (ssExpr (sBm appD (sVar 1) (saCons (sVar 2) saNil)))
  ssNil)
  ssNil)
  ssNil)
def sMin : SS := (ssCons (ssAsg (sLst true saNil) (sgName 1))
  (ssCons (ssFor (siSeq (sVar 0)) (sgName 2)
  l1Min)
  (ssCons (ssRet (sVar 1))
  ssNil)))
def fMin : List D → Bs → R D := runFn 1 4 sMin
def minStep (A : List (List Int)) (X : List Int) : List (List Int) := if A.any (fun Y => wi Y X) then A else A ++ [X]
def minP (A : List (List Int)) (Xs : List (List Int)) : List (List Int) := Xs.foldl minStep A
theorem min_body {A : List (List Int)} (hA : A.length < 1000) (hl : ∀ Y ∈ A, Y.length ≤ 1000) {s0 s3 : Option D} :
    l1Min [s0, some (.ref h.bs.length), some (tI X), s3] (stB h A) = .nx [s0, some (.ref h.bs.length), some (tI X), s3] (stB h (minStep A X)) := by
  have sz : (1000 : Nat) ≤ sizeLine := by decide
  have c1 : (sLc false [3] (siSeq (sVar 1)) (sgName 3) (fun _ h => .ok true h) (sCall fWithin (saCons (sVar 3) (saCons (sVar 2) saNil)))) [s0, some (.ref h.bs.length), some (tI X), s3] (stB h A) = .ok (.lst ((A.map fun Y => wi Y X).map .bl)) (stB h A) := by
    refine lcb_ok stB_at (box_it stB_at rfl) ?_ (by rw [List.length_map, List.length_map]; omega)
    rw [List.map_map]
    exact lc_emb1 (fun X => tI X) _ A fun Y hY => ⟨[s0, some (.ref h.bs.length), some (tI X), some (tI Y)], rfl, call_ok (xs := [tI Y, tI X]) rfl (within_ok (hl Y hY))⟩
  have c2 : (sNot (sCall anyD' (saCons (sLc false [3] (siSeq (sVar 1)) (sgName 3) (fun _ h => .ok true h) (sCall fWithin (saCons (sVar 3) (saCons (sVar 2) saNil)))) saNil))) [s0, some (.ref h.bs.length), some (tI X), s3] (stB h A) = .ok (.bl (!A.any fun Y => wi Y X)) (stB h A) := by
    refine not_ok (call_ok (cons_ok c1 rfl) ?_)
    rw [any_bls, List.any_map]
    rfl
  unfold l1Min minStep
  refine (cons_nx (h1 := stB h (minStep A X)) ((if_ok c2).trans ?_)).trans rfl
  unfold minStep
  cases q : A.any fun Y => wi Y X with
  | true => rfl
  | false =>
    show ssCons _ ssNil _ _ = _
    exact (cons_nx (expr_ok (bm_ok (o := .ref h.bs.length) (xs := [tI X]) rfl (by simp [lstOf, stB_at]) rfl (stB_app hA)))).trans rfl
theorem minStep_sub {A : List (List Int)} {X Y : List Int} (hY : Y ∈ minStep A X) : Y ∈ A ∨ Y = X := by
  unfold minStep at hY
  split at hY
  · exact .inl hY
  · rcases List.mem_append.mp hY with z | z
    · exact .inl z
    · exact .inr (List.mem_singleton.mp z)
theorem minStep_len {A : List (List Int)} {X : List Int} : (minStep A X).length ≤ A.length + 1 := by
  unfold minStep
  split <;> simp
theorem min_loop {s0 : Option D} : ∀ (Xs A : List (List Int)) (x2 x3 : Option D), A.length + Xs.length < 1000 → (∀ Y ∈ A, Y.length ≤ 1000) → (∀ Y ∈ Xs, Y.length ≤ 1000) → ∃ x2',
    loopS (sgName 2) l1Min (Xs.map fun X => tI X) [s0, some (.ref h.bs.length), x2, x3] (stB h A) = .nx [s0, some (.ref h.bs.length), x2', x3] (stB h (minP A Xs))
  | [], A, x2, x3, _, _, _ => ⟨x2, rfl⟩
  | X :: Xs, A, x2, x3, hA, h1, h2 => by
    rw [List.length_cons] at hA
    have := minStep_len (A := A) (X := X)
    obtain ⟨x2', e⟩ := min_loop (s0 := s0) Xs (minStep A X) (some (tI X)) x3 (by omega) (fun Y hY => by
      rcases minStep_sub hY with z | z
      · exact h1 Y z
      · rw [z]; exact h2 X List.mem_cons_self) fun Y hY => h2 Y (List.mem_cons_of_mem _ hY)
    exact ⟨x2', (loop_step (ρ1 := [s0, some (.ref h.bs.length), some (tI X), x3]) (h1 := stB h A) rfl (min_body (by omega) h1)).trans e⟩
theorem min_ok {Xs : List (List Int)} (hl : Xs.length < 1000) (h2 : ∀ Y ∈ Xs, Y.length ≤ 1000) : fMin [lT Xs] h = .ok (lT (minP [] Xs)) h := by
  obtain ⟨x2, e⟩ := min_loop (h := h) (s0 := some (lT Xs)) Xs [] none none (by simpa using hl) (by simp) h2
  have hb : sMin [some (lT Xs), none, none, none] (inB h) = .rt (.ref h.bs.length) (stB h (minP [] Xs)) := by
    unfold sMin
    refine (cons_nx (ρ1 := [some (lT Xs), some (.ref h.bs.length), none, none]) (h1 := stB h []) (asg_ok stB_new rfl)).trans ?_
    exact (cons_nx (for_ok (h1 := stB h []) rfl e)).trans (ret_ok rfl)
  unfold fMin runFn
  rw [if_pos (by rfl), show slots 4 [lT Xs] = [some (lT Xs), none, none, none] from rfl, hb]
  exact stB_end
end
end VI.Lay
end
section
namespace VI.Lay
open PySem PySem.Spec PyProof.Rows L2 VI VI.Std
/-- the class Layout is the first, servers and entries the first names -/
structure LayT (T : Tb) : Prop where
  f0 : T.fok 0 0 = true
  f1 : T.fok 0 1 = true
  isc : T.isc 0 = true
  k7 : T.kit 7 7 = some true
def oL (n : Nat) (its : List It) : D := .obj 0 [0, 1] [.int n, .tup (its.map itD)]
section
variable (T : Tb)
def sChkL : SS := (ssCons (ssIf (sNot (sUn (isiD T 7) (sVar 0)))
  (ssCons (fun _ _ => .no)
  ssNil)
  ssNil)
  ssNil)
def fChkL : List D → Bs → R D := runFn 1 1 (sChkL T)
def sChkS : SS := (ssCons (ssIf (sNot (sCall (fSet T) (saCons (sVar 1) (saCons (sUn (fldD T 0) (sVar 0)) saNil))))
  (ssCons (fun _ _ => .no)
  ssNil)
  ssNil)
  ssNil)
def fChkS : List D → Bs → R D := runFn 2 2 (sChkS T)
def sRead : SS := (ssCons (ssExpr (sCall (fChkS T) (saCons (sVar 0) (saCons (sVar 1) saNil))))
  (ssCons (ssRet (sLc false [2, 3] (siArg itEnum2 (saCons (sUn (fldD T 1) (sVar 0)) saNil)) (sgTup 2 (sgCons (sgName 2) (sgCons (sgName 3) sgNil))) (sTru (sOp geS (sCall lenD (saCons (sCall fCommon (saCons (sOp ixD (sVar 3) (sK (.int 0))) (saCons (sVar 1) saNil))) saNil)) (sOp ixD (sVar 3) (sK (.int 1))))) (sVar 2)))
  ssNil))
def fRead : List D → Bs → R D := runFn 2 4 (sRead T)
def sLen : SS := (ssCons (ssRet (sCall lenD (saCons (sUn (fldD T 1) (sVar 0)) saNil)))
  ssNil)
def fLen : List D → Bs → R D := runFn 1 1 (sLen T)
def sKeep (mR : Nat) : SS := (ssCons (ssRet (sOp (eqD false) (sCall lenD (saCons (sMeth mR (fun c => List.lookup c [(0, (fRead T))]) (sVar 0) (saCons (sVar 1) saNil)) saNil)) (sCall (lenO [(0, (fLen T))]) (saCons (sVar 0) saNil))))
  ssNil)
def fKeep (mR : Nat) : List D → Bs → R D := runFn 2 2 (sKeep T mR)
def sLose (mR : Nat) : SS := (ssCons (ssRet (sNot (sCall (fKeep T mR) (saCons (sVar 0) (saCons (sCall fOthers (saCons (sUn (fldD T 0) (sVar 0)) (saCons (sVar 1) saNil))) saNil)))))
  ssNil)
def fLose (mR : Nat) : List D → Bs → R D := runFn 2 2 (sLose T mR)
def l1Init : SS := (ssCons (ssIf (sNot (sCall (fItem T) (saCons (sVar 4) (saCons (sVar 1) saNil))))
  (ssCons (fun _ _ => .no)
  ssNil)
  ssNil)
  ssNil)
def sInit : SS := (ssCons (ssIf (sNot (sCall (fNum T) (saCons (sVar 1) (saCons (sK (.int 1)) (saCons (sK (.int 8)) saNil)))))
  (ssCons (fun _ _ => .no)
  ssNil)
  ssNil)
  (ssCons (ssIf (sOr (sNot (sUn (isiD2 T 5 4) (sVar 2))) (sNot (sChn leS leS (sK (.int 1)) (sCall lenD (saCons (sVar 2) saNil)) (sK (.int 10)))))
  (ssCons (fun _ _ => .no)
  ssNil)
  ssNil)
  (ssCons (ssFor (siArg itEnum2 (saCons (sVar 2) saNil)) (sgTup 2 (sgCons (sgName 3) (sgCons (sgName 4) sgNil)))
  (l1Init T))
  (ssCons (ssFld T 0 (sVar 0) (sVar 1))
  (ssCons (ssFld T 1 (sVar 0) (sCall tupleD (saCons (sVar 2) saNil)))
  ssNil)))))
def fInit : List D → Bs → R D := runFn 3 5 (sInit T)
def sTol : SS := (ssCons (ssExpr (sCall (fChkL T) (saCons (sVar 0) saNil)))
  (ssCons (ssRet (sCall minDS (saCons (sLc false [1, 2] (siSeq (sUn (fldD T 1) (sVar 0))) (sgTup 2 (sgCons (sgName 1) (sgCons (sgName 2) sgNil))) (fun _ h => .ok true h) (sOp subD (sCall lenD (saCons (sVar 1) saNil)) (sVar 2))) saNil)))
  ssNil))
def fTol : List D → Bs → R D := runFn 1 3 (sTol T)
end
/-- a layout as Layout takes it -/
structure LayOk (n : Nat) (its : List It) : Prop where
  lo : 1 ≤ n
  hi : n ≤ 8
  ne : 1 ≤ its.length
  few : its.length ≤ 10
  ok : ∀ i ∈ its, ItOk n i
def okU (up : List Int) (i : It) : Bool := decide (i.2 ≤ ((i.1.filter fun x => decide (x ∈ up)).length : Nat))
/-- which items can be read -/
def rd (its : List It) (up : List Int) : List Int := (its.zipIdx.filter fun p => okU up p.1).map fun p => (p.2 : Int)
def keepB (its : List It) (up : List Int) : Bool := its.all (okU up)
def loseB (n : Nat) (its : List It) (down : List Int) : Bool := !keepB its (oth n down)
def eD (p : It × Nat) : D := .tup [.int p.2, itD p.1]
theorem enum_its : ∀ (its : List It) (k : Nat), enumL k (its.map itD) = (its.zipIdx k).map eD
  | [], _ => rfl
  | i :: its, k => by
    rw [List.map_cons, enumL, enum_its its (k + 1), List.zipIdx_cons, List.map_cons]
    rfl
section
variable {K : PySem.W.Frag} {ct : Ct} {h : Bs} {X Y : List Int} {n : Nat} {its : List It}
theorem zip_len : (its.zipIdx).length = its.length := by simp
theorem zip_mem {p : It × Nat} (hp : p ∈ its.zipIdx) : p.1 ∈ its := by
  have := List.mem_zipIdx hp
  obtain ⟨_, _, e⟩ := this
  rw [e]
  exact List.getElem_mem _
theorem fld0 (L : LayT (tbC ct K)) : fldD (tbC ct K) 0 (oL n its) h = .ok (.int n) h := by
  show (if (tbC ct K).fok 0 0 = true then _ else _) = _
  rw [L.f0, if_pos rfl]
theorem fld1 (L : LayT (tbC ct K)) : fldD (tbC ct K) 1 (oL n its) h = .ok (.tup (its.map itD)) h := by
  show (if (tbC ct K).fok 0 1 = true then _ else _) = _
  rw [L.f1, if_pos rfl]
theorem isi7 (L : LayT (tbC ct K)) : isiD (tbC ct K) 7 (oL n its) h = .ok (.bl true) h := by
  unfold isiD
  have e : tyc (tbC ct K) h (oL n its) = some 7 := by
    show (if (tbC ct K).isc 0 = true then some (7 + 0) else none) = _
    rw [L.isc, if_pos rfl]
  rw [e]
  show (match (tbC ct K).kit 7 7 with | some b => R.ok (D.bl b) h | none => .no) = _
  rw [L.k7]
theorem chkL_ok (L : LayT (tbC ct K)) : fChkL (tbC ct K) [oL n its] h = .ok .non h := by
  have hb : sChkL (tbC ct K) [some (oL n its)] (inB h) = .nx [some (oL n its)] (inB h) := by
    unfold sChkL
    exact (cons_nx (h1 := inB h) ((if_ok (a := false) (h1 := inB h) (not_ok (a := true) (un_ok (x := oL n its) rfl (isi7 L)))).trans rfl)).trans rfl
  unfold fChkL runFn
  rw [if_pos (by rfl), show slots 1 [oL n its] = [some (oL n its)] from rfl, hb]
  show R.ok D.non (outB h (inB h)) = _
  rw [outB_inB]
theorem chkS_ok (L : LayT (tbC ct K)) (hX : SetN n X) (hn : n ≤ 8) : fChkS (tbC ct K) [oL n its, tI X] h = .ok .non h := by
  have := SetN.len hX
  have hb : sChkS (tbC ct K) [some (oL n its), some (tI X)] (inB h) = .nx [some (oL n its), some (tI X)] (inB h) := by
    unfold sChkS
    exact (cons_nx (h1 := inB h) ((if_ok (a := false) (h1 := inB h) (not_ok (a := true) (call_ok (h1 := inB h) (xs := [tI X, .int n]) (cons_ok (h1 := inB h) rfl (cons_ok (h1 := inB h) (un_ok (x := oL n its) rfl (fld0 L)) rfl)) (set_ok hX (by omega))))).trans rfl)).trans rfl
  unfold fChkS runFn
  rw [if_pos (by rfl), show slots 2 [oL n its, tI X] = [some (oL n its), some (tI X)] from rfl, hb]
  show R.ok D.non (outB h (inB h)) = _
  rw [outB_inB]
theorem enumT : itEnum2 [.tup (its.map itD)] h = .ok (its.zipIdx.map eD, none) h := by
  show R.ok (enumL 0 (its.map itD), none) h = _
  rw [enum_its]
theorem enumLst : itEnum2 [.lst (its.map itD)] h = .ok (its.zipIdx.map eD, none) h := by
  show R.ok (enumL 0 (its.map itD), none) h = _
  rw [enum_its]
theorem read_ok (L : LayT (tbC ct K)) (H : LayOk n its) (hX : SetN n X) : fRead (tbC ct K) [oL n its, tI X] h = .ok (lI (rd its X)) h := by
  have sz : (1000 : Nat) ≤ sizeLine := by decide
  have h1 := H.hi
  have h2 := H.few
  refine run_rt rfl ?_ noD_lI
  show sRead (tbC ct K) [some (oL n its), some (tI X), none, none] (inB h) = _
  unfold sRead
  refine (cons_nx (expr_ok (call_ok (h1 := inB h) (xs := [oL n its, tI X]) rfl (chkS_ok L hX h1)))).trans ?_
  refine ret_ok (lc_ok (arg_ok (h1 := inB h) (xs := [.tup (its.map itD)]) (cons_ok (h1 := inB h) (un_ok (x := oL n its) rfl (fld1 L)) rfl) enumT) (ys := (rd its X).map .int) ?_ ?_)
  · unfold rd
    rw [List.map_map]
    refine lc_emb eD (fun p => okU X p.1) _ _ fun p hp => ⟨[some (oL n its), some (tI X), some (.int p.2), some (itD p.1)], rfl, ?_, fun _ => rfl⟩
    have ok := H.ok p.1 (zip_mem hp)
    have hl := SetN.len ok.set
    exact tru_ok (op_ok (x := .int ((p.1.1.filter fun x => decide (x ∈ X)).length : Nat)) (y := .int p.1.2) (call_ok (cons_ok (call_ok (h1 := inB h) (xs := [tI p.1.1, tI X]) rfl (common_ok (by omega))) rfl) lenTI) rfl ge_ok)
  · rw [List.length_map]
    unfold rd
    rw [List.length_map]
    have := List.length_filter_le (fun p : It × Nat => okU X p.1) its.zipIdx
    rw [zip_len] at this
    omega
theorem len_ok (L : LayT (tbC ct K)) : fLen (tbC ct K) [oL n its] h = .ok (.int its.length) h := by
  refine run_rt rfl ?_ rfl
  show sLen (tbC ct K) [some (oL n its)] (inB h) = _
  unfold sLen
  refine ret_ok (call_ok (cons_ok (un_ok (x := oL n its) rfl (fld1 L)) rfl) ?_)
  show R.ok (D.int ((its.map itD).length : Nat)) _ = _
  rw [List.length_map]
theorem lenO_ok (L : LayT (tbC ct K)) (hl : its.length ≤ 1000) : lenO [(0, fLen (tbC ct K))] [oL n its] h = .ok (.int its.length) h := by
  have e : insOf h (oL n its) = some (0, [0, 1], [D.int n, .tup (its.map itD)]) := rfl
  have e2 : List.lookup 0 [(0, fLen (tbC ct K))] = some (fLen (tbC ct K)) := rfl
  simp -implicitDefEqProofs only [lenO, e, e2, len_ok L]
  rw [if_pos (by constructor <;> omega)]
theorem meth_r {mR : Nat} (hm : [0, 1].contains mR = false) (L : LayT (tbC ct K)) (H : LayOk n its) (hX : SetN n X) {so : SV} {sx : SA} {ρ : Ev} (e1 : so ρ h = .ok (oL n its) h) (e2 : sx ρ h = .ok [tI X] h) :
    sMeth mR (fun c => List.lookup c [(0, (fRead (tbC ct K)))]) so sx ρ h = .ok (lI (rd its X)) h := by
  have e3 : mthD mR (fun c => List.lookup c [(0, (fRead (tbC ct K)))]) (oL n its) h = some (fRead (tbC ct K)) := by
    show (if [0, 1].contains mR then none else some (fRead (tbC ct K))) = _
    rw [hm]
    rfl
  unfold sMeth
  rw [e1, bind_ok]
  simp only [e3, e2, bind_ok]
  exact read_ok L H hX
theorem rd_len {up : List Int} : (rd its up).length = (its.filter (okU up)).length := by
  unfold rd
  rw [List.length_map]
  have : ∀ (l : List It) (k : Nat), ((l.zipIdx k).filter fun p => okU up p.1).length = (l.filter (okU up)).length := by
    intro l
    induction l with
    | nil => intro k; rfl
    | cons i l ih =>
      intro k
      rw [List.zipIdx_cons, List.filter_cons, List.filter_cons]
      split <;> simp [ih (k + 1)]
  exact this its 0
theorem rd_keep {up : List Int} : decide (((rd its up).length : Int) = its.length) = keepB its up := by
  rw [rd_len]
  unfold keepB
  rw [Bool.eq_iff_iff, decide_eq_true_eq, List.all_eq_true]
  constructor
  · intro e
    exact List.length_filter_eq_length_iff.mp (by omega)
  · intro e
    rw [List.length_filter_eq_length_iff.mpr e]
theorem keep_ok {mR : Nat} (hm : [0, 1].contains mR = false) (L : LayT (tbC ct K)) (H : LayOk n its) (hX : SetN n X) : fKeep (tbC ct K) mR [oL n its, tI X] h = .ok (.bl (keepB its X)) h := by
  have h2 := H.few
  refine run_rt rfl ?_ rfl
  show sKeep (tbC ct K) mR [some (oL n its), some (tI X)] (inB h) = _
  unfold sKeep
  refine ret_ok ((op_ok (x := .int (rd its X).length) (y := .int its.length) (call_ok (cons_ok (meth_r hm L H hX rfl rfl) rfl) (IsX.len (.inr rfl))) (call_ok (h1 := inB h) (xs := [oL n its]) rfl (lenO_ok L (by omega))) (eq_ints (neg := false))).trans ?_)
  rw [if_neg (by decide), rd_keep]
theorem oth_set : SetN n (oth n Y) := by
  refine ⟨?_, fun x hx => ?_⟩
  · unfold oth
    refine List.Pairwise.filter _ ?_
    unfold rgI
    rw [List.pairwise_map]
    exact List.pairwise_lt_range.imp fun h => by omega
  · unfold oth at hx
    exact mem_rgI.mp (List.mem_filter.mp hx).1
theorem lose_ok {mR : Nat} (hm : [0, 1].contains mR = false) (L : LayT (tbC ct K)) (H : LayOk n its) : fLose (tbC ct K) mR [oL n its, tI Y] h = .ok (.bl (loseB n its Y)) h := by
  have h1 := H.hi
  refine run_rt rfl ?_ rfl
  show sLose (tbC ct K) mR [some (oL n its), some (tI Y)] (inB h) = _
  unfold sLose
  exact ret_ok (not_ok (call_ok (cons_ok (h1 := inB h) rfl (cons_ok (h1 := inB h) (call_ok (h1 := inB h) (xs := [.int n, tI Y]) (cons_ok (h1 := inB h) (un_ok (x := oL n its) rfl (fld0 L)) (cons_ok (h1 := inB h) rfl rfl)) (others_ok (by omega))) rfl)) (keep_ok hm L H oth_set)))
end
end VI.Lay
end
section
namespace VI.Lay
open PySem PySem.Spec PyProof.Rows L2 VI VI.Std
section
variable {K : PySem.W.Frag} {ct : Ct} {h : Bs} {X Y : List Int} {n : Nat} {its : List It}
/-! ### a layout is made -/
theorem noR_ints : ∀ l : List Int, noRs (l.map .int) = true
  | [] => rfl
  | x :: xs => by simp [noRs, noR, noR_ints xs]
theorem noR_itD (i : It) : noR (itD i) = true := by
  simp only [itD, noR, noRs, noR_ints, Bool.and_self]
theorem noR_its : ∀ l : List It, noRs (l.map itD) = true
  | [] => rfl
  | x :: xs => by simp only [List.map_cons, noRs, noR_itD, noR_its xs, Bool.and_self]
theorem noD_itD (i : It) : noD (itD i) = true := by
  simp only [itD, noD, noDs, noDs_ints, Bool.and_self]
theorem noDs_its (l : List It) : noDs (l.map itD) = true := by
  rw [noDs_all]
  intro x hx
  obtain ⟨i, _, rfl⟩ := List.mem_map.mp hx
  exact noD_itD i
theorem noD_oL : noD (oL n its) = true := by
  simp only [oL, noD, noDs, noDs_its, Bool.and_self]
/-- the items as a list or a tuple -/
def IsL (d : D) (its : List It) : Prop := d = .lst (its.map itD) ∨ d = .tup (its.map itD)
theorem init_loop {s0 s2 : Option D} (H : ∀ i ∈ its, ItOk n i) (hn : n ≤ 8) : ∀ (l : List (It × Nat)) (x3 x4 : Option D), (∀ p ∈ l, p.1 ∈ its) → ∃ y3 y4,
    loopS (sgTup 2 (sgCons (sgName 3) (sgCons (sgName 4) sgNil))) (l1Init (tbC ct K)) (l.map eD) [s0, some (.int n), s2, x3, x4] h = .nx [s0, some (.int n), s2, y3, y4] h
  | [], x3, x4, _ => ⟨x3, x4, rfl⟩
  | p :: l, x3, x4, hl => by
    obtain ⟨y3, y4, e⟩ := init_loop (s0 := s0) (s2 := s2) H hn l (some (.int p.2)) (some (itD p.1)) fun q hq => hl q (List.mem_cons_of_mem _ hq)
    have b : l1Init (tbC ct K) [s0, some (.int n), s2, some (.int p.2), some (itD p.1)] h = .nx [s0, some (.int n), s2, some (.int p.2), some (itD p.1)] h := by
      unfold l1Init
      exact (cons_nx (h1 := h) ((if_ok (a := false) (h1 := h) (not_ok (a := true) (call_ok (h1 := h) (xs := [itD p.1, .int n]) rfl (item_ok (H p.1 (hl p List.mem_cons_self)) (by omega))))).trans rfl)).trans rfl
    exact ⟨y3, y4, (loop_step (ρ1 := [s0, some (.int n), s2, some (.int p.2), some (itD p.1)]) (h1 := h) rfl b).trans e⟩
theorem make_ok (L : LayT (tbC ct K)) (H : LayOk n its) {d : D} (hd : IsL d its) : makeD 0 true (fInit (tbC ct K)) [.int n, d] h = .ok (oL n its) h := by
  have sz : (1000 : Nat) ≤ sizeLine := by decide
  have h1 := H.lo
  have h2 := H.hi
  have h3 := H.ne
  have h4 := H.few
  have tD : ∀ hh : Bs, tupleD [d] hh = .ok (.tup (its.map itD)) hh := fun hh => by
    rcases hd with rfl | rfl
    · exact tuple_lst (by rw [List.length_map]; omega)
    · rfl
  have tL : ∀ hh : Bs, lenD [d] hh = .ok (.int its.length) hh := fun hh => by
    rcases hd with rfl | rfl
    · show R.ok (D.int ((its.map itD).length : Nat)) hh = _; rw [List.length_map]
    · show R.ok (D.int ((its.map itD).length : Nat)) hh = _; rw [List.length_map]
  have tE : ∀ hh : Bs, itEnum2 [d] hh = .ok (its.zipIdx.map eD, none) hh := fun hh => by
    rcases hd with rfl | rfl
    · exact enumLst
    · exact enumT
  have tI' : ∀ hh : Bs, isiD2 (tbC ct K) 5 4 d hh = .ok (.bl true) hh := fun hh => by
    rcases hd with rfl | rfl <;> rfl
  have e2 : fInit (tbC ct K) [.ref h.bs.length, .int n, d] ⟨h.bs.length :: h.fbs, h.bs ++ [.obj 0 [] []]⟩ = .ok .non ⟨h.bs.length :: h.fbs, h.bs ++ [.obj 0 [0, 1] [.int n, .tup (its.map itD)]]⟩ := by
    have e3 : ∀ fs xs, fs.length < 1000 → ∀ (f : Nat) (v : D), (tbC ct K).fok 0 f = true → noR v = true → setF (tbC ct K) f (.ref h.bs.length) v (⟨(h.bs.length + 1) :: h.bs.length :: h.fbs, h.bs ++ [.obj 0 fs xs]⟩ : Bs) = .ok .non ⟨(h.bs.length + 1) :: h.bs.length :: h.fbs, h.bs ++ [.obj 0 (putN f fs) (putX f v fs xs)]⟩ := by
      intro fs xs hfs f v g3 nr
      have g1 : (h.bs ++ [Bx.obj 0 fs xs])[h.bs.length]? = some (.obj 0 fs xs) := by simp
      have g2 : okW (⟨(h.bs.length + 1) :: h.bs.length :: h.fbs, h.bs ++ [.obj 0 fs xs]⟩ : Bs) h.bs.length v = true := by
        show (decide (h.bs.length + 1 ≤ h.bs.length) || noR v) = true
        rw [nr, Bool.or_true]
      simp -implicitDefEqProofs only [setF, g1, g2, g3, Bool.and_self, Bool.true_and]
      rw [if_pos (decide_eq_true hfs)]
      simp
    obtain ⟨y3, y4, lp⟩ := init_loop (ct := ct) (K := K) (h := ⟨(h.bs.length + 1) :: h.bs.length :: h.fbs, h.bs ++ [.obj 0 [] []]⟩) (s0 := some (.ref h.bs.length)) (s2 := some d) H.ok h2 its.zipIdx none none fun p hp => zip_mem hp
    have hb : sInit (tbC ct K) [some (.ref h.bs.length), some (.int n), some d, none, none] (⟨(h.bs.length + 1) :: h.bs.length :: h.fbs, h.bs ++ [.obj 0 [] []]⟩ : Bs) = .nx [some (.ref h.bs.length), some (.int n), some d, y3, y4] ⟨(h.bs.length + 1) :: h.bs.length :: h.fbs, h.bs ++ [.obj 0 [0, 1] [.int n, .tup (its.map itD)]]⟩ := by
      unfold sInit
      obtain ⟨g, hg⟩ : ∃ g : Bs, g = ⟨(h.bs.length + 1) :: h.bs.length :: h.fbs, h.bs ++ [.obj 0 [] []]⟩ := ⟨_, rfl⟩
      rw [← hg] at lp ⊢
      refine (cons_nx (h1 := g) ((if_ok (a := false) (h1 := g) (not_ok (a := true) ((call_ok (h1 := g) (xs := [.int n, .int 1, .int 8]) rfl (num_ok (ct := ct) (K := K))).trans ?_))).trans rfl)).trans ?_
      · rw [decide_eq_true (show (1 : Int) ≤ n by omega), decide_eq_true (show (n : Int) ≤ 8 by omega)]
        rfl
      refine (cons_nx (h1 := g) ((if_ok (a := false) (h1 := g) (or_ok (a := false) (b := false) (not_ok (a := true) (un_ok (x := d) rfl (tI' g))) fun _ => not_ok (a := true) ((chn_ok (x := 1) (y := its.length) (z := 10) rfl (call_ok (h1 := g) (xs := [d]) rfl (tL g)) rfl).trans ?_))).trans rfl)).trans ?_
      · rw [decide_eq_true (show (1 : Int) ≤ its.length by omega), decide_eq_true (show (its.length : Int) ≤ 10 by omega)]
        rfl
      refine (cons_nx (for_ok (h1 := g) (arg_ok (h1 := g) (xs := [d]) rfl (tE g)) lp)).trans ?_
      rw [hg]
      refine (cons_nx (ρ1 := [some (.ref h.bs.length), some (.int n), some d, y3, y4]) (h1 := ⟨(h.bs.length + 1) :: h.bs.length :: h.fbs, h.bs ++ [.obj 0 [0] [.int n]]⟩) ?_).trans ((cons_nx (ρ1 := [some (.ref h.bs.length), some (.int n), some d, y3, y4]) (h1 := ⟨(h.bs.length + 1) :: h.bs.length :: h.fbs, h.bs ++ [.obj 0 [0, 1] [.int n, .tup (its.map itD)]]⟩) ?_).trans rfl)
      · unfold ssFld
        show (setF (tbC ct K) 0 (.ref h.bs.length) (.int n) _).toF _ _ = _
        rw [e3 [] [] (by decide) 0 (.int n) L.f0 rfl]
        rfl
      · unfold ssFld
        rw [call_ok (cons_ok (x := d) rfl rfl) (tD _)]
        show (setF (tbC ct K) 1 (.ref h.bs.length) (.tup (its.map itD)) _).toF _ _ = _
        rw [e3 [0] [.int n] (by decide) 1 (.tup (its.map itD)) L.f1 (by simp only [noR]; exact noR_its its)]
        rfl
    unfold fInit runFn
    rw [if_pos (by rfl), show slots 5 [.ref h.bs.length, .int n, d] = [some (.ref h.bs.length), some (.int n), some d, none, none] from rfl]
    have hi : inB (⟨h.bs.length :: h.fbs, h.bs ++ [.obj 0 [] []]⟩ : Bs) = ⟨(h.bs.length + 1) :: h.bs.length :: h.fbs, h.bs ++ [.obj 0 [] []]⟩ := by simp [inB]
    rw [hi, hb]
    simp [finF, outB]
    exact List.take_of_length_le (by simp)
  unfold makeD
  rw [e2]
  have f1 : frzR h.bs.length (h.bs ++ [.obj 0 [0, 1] [.int n, .tup (its.map itD)]]) 4 h.bs.length = some (oL n its) := by
    simp -implicitDefEqProofs only [frzR]
    rw [if_neg (by omega), List.getElem?_append_right (Nat.le_refl _), Nat.sub_self]
    simp -implicitDefEqProofs only [List.getElem?_cons_zero, frzDs_id _ [.int (n : Int), .tup (its.map itD)] (by simp [noDs, noD, noDs_its])]
    rfl
  simp -implicitDefEqProofs only [f1, outB]
  simp
/-! ### the tolerance -/
def slack (its : List It) : List Int := its.map fun i => (i.1.length : Int) - i.2
theorem tol_ok (L : LayT (tbC ct K)) (H : LayOk n its) : fTol (tbC ct K) [oL n its] h = .ok (.int (minI (slack its))) h := by
  have sz : (1000 : Nat) ≤ sizeLine := by decide
  have h3 := H.ne
  have h4 := H.few
  have ne : slack its ≠ [] := fun z => by have := congrArg List.length z; simp [slack] at this; rw [this] at h3; simp at h3
  refine run_rt rfl ?_ rfl
  show sTol (tbC ct K) [some (oL n its), none, none] (inB h) = _
  unfold sTol
  refine (cons_nx (expr_ok (call_ok (h1 := inB h) (xs := [oL n its]) rfl (chkL_ok L)))).trans ?_
  refine ret_ok (call_ok (cons_ok (lc_ok (ys := (slack its).map .int) (seq_ok (h1 := inB h) (un_ok (x := oL n its) rfl (fld1 L)) rfl) ?_ (by rw [List.length_map]; simp [slack]; omega)) rfl) (IsX.min (.inr rfl) ne))
  unfold slack
  rw [List.map_map]
  exact lc_emb1 itD _ its fun i hi => ⟨[some (oL n its), some (tI i.1), some (.int i.2)], rfl, op_ok (x := .int i.1.length) (y := .int i.2) (call_ok (h1 := inB h) (xs := [tI i.1]) rfl lenTI) rfl rfl⟩
end
end VI.Lay
end
section
namespace VI.Lay
open PySem PySem.Spec PyProof.Rows L2 VI VI.Std
section
variable {K : PySem.W.Frag} {ct : Ct} {h : Bs} {X Y : List Int} {n : Nat} {its : List It}
/-! ### a box of frozen data -/
def stG (h : Bs) (xs : List D) : Bs := ⟨h.bs.length :: h.fbs, h.bs ++ [.lst false xs]⟩
theorem stG_at {xs : List D} : (stG h xs).bs[h.bs.length]? = some (.lst false xs) := by simp [stG]
theorem stG_new : newL true [] (inB h) = .ok (.ref h.bs.length) (stG h []) := by
  rw [newL_t' (Nat.zero_le _)]
  rfl
theorem stG_app {xs : List D} {d : D} (hA : xs.length < 1000) : appD (.ref h.bs.length) [d] (stG h xs) = .ok .non (stG h (xs ++ [d])) := by
  have sz : (1000 : Nat) ≤ sizeLine := by decide
  have ok : okW (stG h xs) h.bs.length d = true := by simp [okW, stG]
  have e3 : decide (xs.length < sizeLine) = true := by simp; omega
  simp only [appD, stG_at, ok, e3, Bool.and_self, if_true]
  simp [putL, stG]
theorem stG_end {xs : List D} (nd : noDs xs = true) : finF h (.rt (.ref h.bs.length) (stG h xs)) = .ok (.lst xs) h := by
  have f2 : outB h (stG h xs) = h := by simp [outB, stG]
  have f1 : frzD (frzR h.bs.length (stG h xs).bs 4) (.ref h.bs.length) = some (.lst xs) := by
    simp -implicitDefEqProofs only [frzD, frzR]
    rw [if_neg (by omega), stG_at]
    simp -implicitDefEqProofs only [frzDs_id _ _ nd]
  simp -implicitDefEqProofs only [finF, f1, f2]
/-! ### what is lost, by the items -/
def l1Lost : SS := (ssCons (ssIf (sOp ltS (sCall lenD (saCons (sLc false [5] (siSeq (sOp ixD (sVar 4) (sK (.int 0)))) (sgName 5) (sTru (sOp (inD true) (sVar 5) (sVar 1))) (sVar 5)) saNil)) (sOp ixD (sVar 4) (sK (.int 1))))
  (ssCons (ssExpr (sBm appD (sVar 2) (saCons (sVar 3) saNil)))
  ssNil)
  ssNil)
  ssNil)
def sLost : SS := (ssCons (ssAsg (sLst true saNil) (sgName 2))
  (ssCons (ssFor (siArg itEnum2 (saCons (sVar 0) saNil)) (sgTup 2 (sgCons (sgName 3) (sgCons (sgName 4) sgNil)))
  l1Lost)
  (ssCons (ssRet (sVar 2))
  ssNil)))
def fLost : List D → Bs → R D := runFn 2 6 sLost
def isLost (Y : List Int) (i : It) : Bool := decide (((i.1.filter fun x => !decide (x ∈ Y)).length : Int) < i.2)
def lostI (its : List It) (Y : List Int) : List Int := (its.zipIdx.filter fun p => isLost Y p.1).map fun p => (p.2 : Int)
theorem lost_loop {d : D} (hin : ∀ x hh, inD true (.int x) d hh = .ok (.bl (!decide (x ∈ Y))) hh) {s0 x5 : Option D} : ∀ (l : List (It × Nat)) (A : List Int) (x3 x4 : Option D), A.length + l.length < 1000 → (∀ p ∈ l, p.1.1.length ≤ 100) → ∃ y3 y4,
    loopS (sgTup 2 (sgCons (sgName 3) (sgCons (sgName 4) sgNil))) l1Lost (l.map eD) [s0, some d, some (.ref h.bs.length), x3, x4, x5] (stG h (A.map .int)) = .nx [s0, some d, some (.ref h.bs.length), y3, y4, x5] (stG h ((A ++ (l.filter fun p => isLost Y p.1).map fun p => (p.2 : Int)).map .int))
  | [], A, x3, x4, _, _ => ⟨x3, x4, by simp [loopS]⟩
  | p :: l, A, x3, x4, hA, hl => by
    have sz : (1000 : Nat) ≤ sizeLine := by decide
    rw [List.length_cons] at hA
    have hp := hl p List.mem_cons_self
    have b : l1Lost [s0, some d, some (.ref h.bs.length), some (.int p.2), some (itD p.1), x5] (stG h (A.map .int)) = .nx [s0, some d, some (.ref h.bs.length), some (.int p.2), some (itD p.1), x5] (stG h ((if isLost Y p.1 then A ++ [(p.2 : Int)] else A).map .int)) := by
      have c : (sOp ltS (sCall lenD (saCons (sLc false [5] (siSeq (sOp ixD (sVar 4) (sK (.int 0)))) (sgName 5) (sTru (sOp (inD true) (sVar 5) (sVar 1))) (sVar 5)) saNil)) (sOp ixD (sVar 4) (sK (.int 1)))) [s0, some d, some (.ref h.bs.length), some (.int p.2), some (itD p.1), x5] (stG h (A.map .int)) = .ok (.bl (isLost Y p.1)) (stG h (A.map .int)) := by
        refine op_ok (x := .int ((p.1.1.filter fun x => !decide (x ∈ Y)).length : Nat)) (y := .int p.1.2) (call_ok (cons_ok (fil_emb (h := stG h (A.map .int)) .int p.1.1 (fun x => !decide (x ∈ Y)) rfl (fun x hx => ⟨_, rfl, op_ok (x := .int x) (y := d) rfl rfl (hin x _), rfl⟩) (by omega)) rfl) (IsX.len (.inr rfl))) rfl lt_ok
      unfold l1Lost
      refine (cons_nx (h1 := stG h ((if isLost Y p.1 then A ++ [(p.2 : Int)] else A).map .int)) ((if_ok c).trans ?_)).trans rfl
      cases q : isLost Y p.1 with
      | false => rfl
      | true =>
        rw [if_pos rfl, if_pos rfl]
        refine (cons_nx (h1 := stG h ((A ++ [(p.2 : Int)]).map .int)) (expr_ok (bm_ok (o := .ref h.bs.length) (xs := [.int p.2]) rfl (by simp [lstOf, stG_at]) rfl (show appD (.ref h.bs.length) [.int p.2] (stG h (A.map .int)) = .ok .non (stG h ((A ++ [(p.2 : Int)]).map .int)) by rw [stG_app (by rw [List.length_map]; omega)]; simp)))).trans rfl
    obtain ⟨y3, y4, e⟩ := lost_loop hin (s0 := s0) (x5 := x5) l (if isLost Y p.1 then A ++ [(p.2 : Int)] else A) (some (.int p.2)) (some (itD p.1)) (by split <;> first | (rw [List.length_append, List.length_singleton]; omega) | omega) fun q hq => hl q (List.mem_cons_of_mem _ hq)
    refine ⟨y3, y4, (loop_step (ρ1 := [s0, some d, some (.ref h.bs.length), some (.int p.2), some (itD p.1), x5]) (h1 := stG h (A.map .int)) rfl b).trans (e.trans ?_)⟩
    rw [List.filter_cons]
    split <;> simp
theorem lost_okD (H : LayOk n its) {d : D} (hin : ∀ x hh, inD true (.int x) d hh = .ok (.bl (!decide (x ∈ Y))) hh) : fLost [.lst (its.map itD), d] h = .ok (lI (lostI its Y)) h := by
  have h4 := H.few
  have h2 := H.hi
  obtain ⟨y3, y4, e⟩ := lost_loop (h := h) (Y := Y) hin (s0 := some (.lst (its.map itD))) (x5 := none) its.zipIdx [] none none (by rw [zip_len]; simp; omega) fun p hp => by
    have := SetN.len (H.ok p.1 (zip_mem hp)).set
    omega
  rw [List.nil_append] at e
  have hb : sLost [some (.lst (its.map itD)), some d, none, none, none, none] (inB h) = .rt (.ref h.bs.length) (stG h ((lostI its Y).map .int)) := by
    unfold sLost
    refine (cons_nx (ρ1 := [some (.lst (its.map itD)), some d, some (.ref h.bs.length), none, none, none]) (h1 := stG h []) (asg_ok stG_new rfl)).trans ?_
    exact (cons_nx (for_ok (h1 := stG h []) (arg_ok (h1 := stG h []) (xs := [.lst (its.map itD)]) rfl enumLst) e)).trans (ret_ok rfl)
  unfold fLost runFn
  rw [if_pos (by rfl), show slots 6 [.lst (its.map itD), d] = [some (.lst (its.map itD)), some d, none, none, none, none] from rfl, hb]
  exact stG_end (noDs_ints _)
theorem lost_ok (H : LayOk n its) : fLost [.lst (its.map itD), tI Y] h = .ok (lI (lostI its Y)) h := lost_okD H fun x hh => (in_tI (neg := true)).trans rfl
theorem lost_okL (H : LayOk n its) : fLost [.lst (its.map itD), lI Y] h = .ok (lI (lostI its Y)) h := lost_okD H fun x hh => (in_lI (neg := true)).trans rfl
/-! ### minimal, by all pairs -/
def l1LMin : SS := (ssCons (ssAsg (sLc false [4] (siSeq (sVar 0)) (sgName 4) (sTru (sAnd (sOp (eqD true) (sVar 4) (sVar 2)) (sOp (eqD false) (sCall lenD (saCons (sLc false [5] (siSeq (sVar 4)) (sgName 5) (sTru (sOp (inD true) (sVar 5) (sVar 2))) (sVar 5)) saNil)) (sK (.int 0))))) (sVar 4)) (sgName 3))
  (ssCons (ssIf (sOp (eqD false) (sVar 3) (sLst false saNil))
  (ssCons (ssExpr (sBm appD (sVar 1) (saCons (sVar 2) saNil)))
  ssNil)
  ssNil)
  ssNil))
def sLMin : SS := (ssCons (ssAsg (sLst true saNil) (sgName 1))
  (ssCons (ssFor (siSeq (sVar 0)) (sgName 2)
  l1LMin)
  (ssCons (ssRet (sVar 1))
  ssNil)))
def fLMin : List D → Bs → R D := runFn 1 6 sLMin
def less (X : List Int) (Y : List Int) : Bool := !decide (Y = X) && decide ((Y.filter fun x => !decide (x ∈ X)).length = 0)
def minL (Xs : List (List Int)) : List (List Int) := Xs.filter fun X => decide (Xs.filter (less X) = [])
theorem eq_nil_lT {A : List (List Int)} : eqD false (lT A) (.lst []) h = .ok (.bl (decide (A = []))) h := by
  cases A with
  | nil => rfl
  | cons X A =>
    have e1 : py pyN h (lT (X :: A)) = (mapO (py 11 h) ((X :: A).map fun X => tI X)).map PyData.list := rfl
    have e2 : mapO (py 11 h) ((X :: A).map fun X => tI X) = some ((X :: A).map fun X => .tuple (X.map .int)) := by
      have : ∀ l : List (List Int), mapO (py 11 h) (l.map fun X => tI X) = some (l.map fun X => .tuple (X.map .int)) := by
        intro l
        induction l with
        | nil => rfl
        | cons Y l ih =>
          have e1 : py 11 h (tI Y) = some (.tuple (Y.map .int)) := py_tI Y
          simp only [List.map_cons, mapO, e1, ih]
      exact this _
    rw [e2] at e1
    simp only [eqD, e1, show py pyN h (.lst []) = some (.list []) from rfl, Option.map_some]
    simp [PyData.eqv, PyData.eqvAll]
theorem lmin_body {Xs A : List (List Int)} (hA : A.length < 1000) (hX : Xs.length ≤ 1000) (hl : ∀ Y ∈ Xs, Y.length ≤ 1000) {s3 s4 s5 : Option D} : ∃ s3',
    l1LMin [some (lT Xs), some (.ref h.bs.length), some (tI X), s3, s4, s5] (stB h A) = .nx [some (lT Xs), some (.ref h.bs.length), some (tI X), s3', s4, s5] (stB h (if Xs.filter (less X) = [] then A ++ [X] else A)) := by
  have sz : (1000 : Nat) ≤ sizeLine := by decide
  have c1 : (sLc false [4] (siSeq (sVar 0)) (sgName 4) (sTru (sAnd (sOp (eqD true) (sVar 4) (sVar 2)) (sOp (eqD false) (sCall lenD (saCons (sLc false [5] (siSeq (sVar 4)) (sgName 5) (sTru (sOp (inD true) (sVar 5) (sVar 2))) (sVar 5)) saNil)) (sK (.int 0))))) (sVar 4)) [some (lT Xs), some (.ref h.bs.length), some (tI X), s3, s4, s5] (stB h A) = .ok (lT (Xs.filter (less X))) (stB h A) := by
    refine fil_emb (h := stB h A) (fun X => tI X) Xs (less X) rfl (fun Y hY => ⟨[some (lT Xs), some (.ref h.bs.length), some (tI X), s3, some (tI Y), s5], rfl, ?_, rfl⟩) (by omega)
    have t := and_ok (ρ := [some (lT Xs), some (.ref h.bs.length), some (tI X), s3, some (tI Y), s5]) (h := stB h A) (sa := sOp (eqD true) (sVar 4) (sVar 2)) (sb := sOp (eqD false) (sCall lenD (saCons (sLc false [5] (siSeq (sVar 4)) (sgName 5) (sTru (sOp (inD true) (sVar 5) (sVar 2))) (sVar 5)) saNil)) (sK (.int 0))) (op_ok (x := tI Y) (y := tI X) rfl rfl (eq_tI (neg := true))) fun _ => op_ok (x := .int ((Y.filter fun x => !decide (x ∈ X)).length : Nat)) (y := .int 0) (call_ok (cons_ok (fil_emb (h := stB h A) .int Y (fun x => !decide (x ∈ X)) rfl (fun x hx => ⟨_, rfl, op_ok (x := .int x) (y := tI X) rfl rfl ((in_tI (neg := true)).trans rfl), rfl⟩) (by have := hl Y hY; omega)) rfl) (IsX.len (.inr rfl))) rfl (eq_ints (neg := false))
    rw [t]
    unfold less
    have : decide (((Y.filter fun x => !decide (x ∈ X)).length : Int) = 0) = decide ((Y.filter fun x => !decide (x ∈ X)).length = 0) := decide_eq_decide.mpr (by omega)
    rw [if_pos rfl, if_neg (by decide), this]
  refine ⟨some (lT (Xs.filter (less X))), ?_⟩
  unfold l1LMin
  refine (cons_nx (asg_ok c1 rfl)).trans ?_
  refine (cons_nx (h1 := stB h (if Xs.filter (less X) = [] then A ++ [X] else A)) ((if_ok (op_ok (x := lT (Xs.filter (less X))) (y := .lst []) rfl (lst_ok rfl (Nat.zero_le _)) eq_nil_lT)).trans ?_)).trans rfl
  by_cases q : Xs.filter (less X) = []
  · rw [decide_eq_true q, if_pos rfl, if_pos q]
    exact (cons_nx (expr_ok (bm_ok (o := .ref h.bs.length) (xs := [tI X]) rfl (by simp [lstOf, stB_at]) rfl (stB_app hA)))).trans rfl
  · rw [decide_eq_false q, if_neg (by decide), if_neg q]
    rfl
theorem lmin_loop {Xs : List (List Int)} (hX : Xs.length ≤ 900) (hl : ∀ Y ∈ Xs, Y.length ≤ 1000) {s4 s5 : Option D} : ∀ (l A : List (List Int)) (x2 x3 : Option D), A.length + l.length < 1000 → ∃ x2' x3',
    loopS (sgName 2) l1LMin (l.map fun X => tI X) [some (lT Xs), some (.ref h.bs.length), x2, x3, s4, s5] (stB h A) = .nx [some (lT Xs), some (.ref h.bs.length), x2', x3', s4, s5] (stB h (A ++ l.filter fun X => decide (Xs.filter (less X) = [])))
  | [], A, x2, x3, _ => ⟨x2, x3, by simp [loopS]⟩
  | X :: l, A, x2, x3, hA => by
    rw [List.length_cons] at hA
    obtain ⟨x3', b⟩ := lmin_body (h := h) (X := X) (Xs := Xs) (A := A) (by omega) (by omega) hl (s3 := x3) (s4 := s4) (s5 := s5)
    obtain ⟨y2, y3, e⟩ := lmin_loop hX hl (s4 := s4) (s5 := s5) l (if Xs.filter (less X) = [] then A ++ [X] else A) (some (tI X)) x3' (by split <;> first | (rw [List.length_append, List.length_singleton]; omega) | omega)
    refine ⟨y2, y3, (loop_step (ρ1 := [some (lT Xs), some (.ref h.bs.length), some (tI X), x3, s4, s5]) (h1 := stB h A) rfl b).trans (e.trans ?_)⟩
    rw [List.filter_cons]
    by_cases q : Xs.filter (less X) = [] <;> simp [q]
theorem lmin_ok {Xs : List (List Int)} (hX : Xs.length ≤ 900) (hl : ∀ Y ∈ Xs, Y.length ≤ 1000) : fLMin [lT Xs] h = .ok (lT (minL Xs)) h := by
  obtain ⟨x2, x3, e⟩ := lmin_loop (h := h) hX hl (s4 := none) (s5 := none) Xs [] none none (by simp; omega)
  rw [List.nil_append] at e
  have hb : sLMin [some (lT Xs), none, none, none, none, none] (inB h) = .rt (.ref h.bs.length) (stB h (minL Xs)) := by
    unfold sLMin
    refine (cons_nx (ρ1 := [some (lT Xs), some (.ref h.bs.length), none, none, none, none]) (h1 := stB h []) (asg_ok stB_new rfl)).trans ?_
    exact (cons_nx (for_ok (h1 := stB h []) rfl e)).trans (ret_ok rfl)
  unfold fLMin runFn
  rw [if_pos (by rfl), show slots 6 [lT Xs] = [some (lT Xs), none, none, none, none, none] from rfl, hb]
  exact stB_end
end
end VI.Lay
end
section
namespace VI.Lay
open PySem PySem.Spec PyProof.Rows L2 VI VI.Std
/-! mathematics of losing and keeping sets -/
section
variable {X Y Z : List Int} {n : Nat} {its : List It} {up : List Int}
theorem subl : ∀ (X Y : List Int), X.Pairwise (· < ·) → Y.Pairwise (· < ·) → (∀ x ∈ X, x ∈ Y) → X.Sublist Y
  | [], Y, _, _, _ => List.nil_sublist Y
  | x :: xs, [], _, _, h => by have := h x List.mem_cons_self; cases this
  | x :: xs, y :: ys, hX, hY, h => by
    rw [List.pairwise_cons] at hX hY
    by_cases e : x = y
    · subst e
      refine .cons₂ _ (subl xs ys hX.2 hY.2 fun z hz => ?_)
      rcases List.mem_cons.mp (h z (List.mem_cons_of_mem _ hz)) with q | q
      · have := hX.1 z hz; omega
      · exact q
    · have hx : x ∈ ys := by
        rcases List.mem_cons.mp (h x List.mem_cons_self) with q | q
        · exact absurd q e
        · exact q
      have lt := hY.1 x hx
      refine .cons _ (subl (x :: xs) ys (List.pairwise_cons.mpr hX) hY.2 fun z hz => ?_)
      rcases List.mem_cons.mp (h z hz) with q | q
      · rcases List.mem_cons.mp hz with w | w
        · exact absurd (w.symm.trans q) e
        · have := hX.1 z w; omega
      · exact q
theorem wi_iff : wi X Y = true ↔ ∀ x ∈ X, x ∈ Y := by
  unfold wi
  rw [List.all_eq_true]
  simp only [decide_eq_true_eq]
theorem set_ext (hX : SetN n X) (hY : SetN n Y) (e : ∀ x, x ∈ X ↔ x ∈ Y) : X = Y := by
  have s1 := subl X Y hX.up hY.up fun x hx => (e x).mp hx
  have s2 := subl Y X hY.up hX.up fun x hx => (e x).mpr hx
  exact s1.eq_of_length (Nat.le_antisymm s1.length_le s2.length_le)
theorem wi_len (hX : SetN n X) (hY : SetN n Y) (h : wi X Y = true) : X.length ≤ Y.length ∧ (X.length = Y.length → X = Y) := by
  have s := subl X Y hX.up hY.up (wi_iff.mp h)
  exact ⟨s.length_le, fun e => s.eq_of_length e⟩
theorem wi_refl : wi X X = true := wi_iff.mpr fun _ h => h
theorem wi_trans (h1 : wi X Y = true) (h2 : wi Y Z = true) : wi X Z = true := wi_iff.mpr fun x hx => wi_iff.mp h2 x (wi_iff.mp h1 x hx)
theorem less_iff : less X Y = true ↔ Y ≠ X ∧ wi Y X = true := by
  unfold less
  rw [Bool.and_eq_true, wi_iff]
  simp only [Bool.not_eq_true', decide_eq_false_iff_not, decide_eq_true_eq, List.length_eq_zero_iff, List.filter_eq_nil_iff]
  constructor
  · rintro ⟨a, b⟩
    exact ⟨a, fun x hx => by have := b x hx; simpa using this⟩
  · rintro ⟨a, b⟩
    exact ⟨a, fun x hx => by simp [b x hx]⟩
/-- nothing of l lies properly within X -/
def isMin (l : List (List Int)) (X : List Int) : Prop := ∀ Y ∈ l, Y ≠ X → wi Y X = true → False
theorem below {l : List (List Int)} (hl : ∀ X ∈ l, SetN n X) : ∀ (k : Nat) (X : List Int), X.length ≤ k → X ∈ l → ∃ Y ∈ l, wi Y X = true ∧ isMin l Y
  | k, X, hk, hX => by
    by_cases q : isMin l X
    · exact ⟨X, hX, wi_refl, q⟩
    · unfold isMin at q
      obtain ⟨Y, hY, ne, w⟩ : ∃ Y ∈ l, Y ≠ X ∧ wi Y X = true := Classical.byContradiction fun z => q fun Y hY ne w => z ⟨Y, hY, ne, w⟩
      have := wi_len (hl Y hY) (hl X hX) w
      have lt : Y.length < X.length := by
        rcases Nat.lt_or_eq_of_le this.1 with z | z
        · exact z
        · exact absurd (this.2 z) ne
      cases k with
      | zero => omega
      | succ k =>
        obtain ⟨Z, hZ, w2, m⟩ := below hl k Y (by omega) hY
        exact ⟨Z, hZ, wi_trans w2 w, m⟩
open Classical in
theorem min_snoc {l : List (List Int)} (hl : ∀ Z ∈ l ++ [X], SetN n Z) (up : (l ++ [X]).Pairwise fun X Y => X.length ≤ Y.length) (nd : (l ++ [X]).Nodup) (ih : minP [] l = l.filter fun Z => decide (isMin l Z)) :
    minP [] (l ++ [X]) = (l ++ [X]).filter fun Z => decide (isMin (l ++ [X]) Z) := by
  have hl1 : ∀ Z ∈ l, SetN n Z := fun Z hZ => hl Z (List.mem_append_left _ hZ)
  have hX := hl X (List.mem_append_right _ List.mem_cons_self)
  rw [List.pairwise_append] at up
  rw [List.nodup_append] at nd
  have le : ∀ Z ∈ l, Z.length ≤ X.length := fun Z hZ => up.2.2 Z hZ X List.mem_cons_self
  have ne : ∀ Z ∈ l, Z ≠ X := fun Z hZ => nd.2.2 Z hZ X List.mem_cons_self
  have same : ∀ Z ∈ l, (isMin (l ++ [X]) Z ↔ isMin l Z) := fun Z hZ => by
    constructor
    · exact fun m Y hY => m Y (List.mem_append_left _ hY)
    · intro m Y hY nY w
      rcases List.mem_append.mp hY with z | z
      · exact m Y z nY w
      · rw [List.mem_singleton.mp z] at w nY
        have := wi_len hX (hl1 Z hZ) w
        exact nY (this.2 (Nat.le_antisymm this.1 (le Z hZ)))
  have f1 : l.filter (fun Z => decide (isMin (l ++ [X]) Z)) = l.filter fun Z => decide (isMin l Z) :=
    List.filter_congr fun Z hZ => decide_eq_decide.mpr (same Z hZ)
  show List.foldl minStep [] (l ++ [X]) = _
  rw [List.foldl_append]
  show minStep (minP [] l) X = _
  rw [ih, List.filter_append, f1]
  have key : (l.filter fun Z => decide (isMin l Z)).any (fun Y => wi Y X) = true ↔ ¬ isMin (l ++ [X]) X := by
    rw [List.any_eq_true]
    constructor
    · rintro ⟨Y, hY, w⟩ m
      have := (List.mem_filter.mp hY).1
      exact m Y (List.mem_append_left _ this) (ne Y this) w
    · intro m
      obtain ⟨Y, hY, nY, w⟩ : ∃ Y ∈ l ++ [X], Y ≠ X ∧ wi Y X = true := Classical.byContradiction fun z => m fun Y hY ne w => z ⟨Y, hY, ne, w⟩
      have hY : Y ∈ l := by
        rcases List.mem_append.mp hY with z | z
        · exact z
        · exact absurd (List.mem_singleton.mp z) nY
      obtain ⟨Z, hZ, w2, mZ⟩ := below hl1 Y.length Y (Nat.le_refl _) hY
      exact ⟨Z, List.mem_filter.mpr ⟨hZ, decide_eq_true mZ⟩, wi_trans w2 w⟩
  unfold minStep
  by_cases q : isMin (l ++ [X]) X
  · have : ¬ (l.filter fun Z => decide (isMin l Z)).any (fun Y => wi Y X) = true := fun z => key.mp z q
    rw [if_neg this]
    congr 1
    simp [q]
  · rw [if_pos (key.mpr q)]
    simp [q]
open Classical in
theorem minP_eq {Xs : List (List Int)} (hl : ∀ Z ∈ Xs, SetN n Z) (up : Xs.Pairwise fun X Y => X.length ≤ Y.length) (nd : Xs.Nodup) : minP [] Xs = minL Xs := by
  have key : ∀ (m : Nat) (l : List (List Int)), l.length = m → (∀ Z ∈ l, SetN n Z) → (l.Pairwise fun X Y => X.length ≤ Y.length) → l.Nodup → minP [] l = l.filter fun Z => decide (isMin l Z) := by
    intro m
    induction m with
    | zero =>
      intro l e _ _ _
      rw [List.eq_nil_of_length_eq_zero e]
      rfl
    | succ m ih =>
      intro l e h1 h2 h3
      have ne : l ≠ [] := fun z => by rw [z] at e; simp at e
      have el := List.dropLast_concat_getLast ne
      rw [← el] at h1 h2 h3 ⊢
      refine min_snoc h1 h2 h3 (ih _ (by rw [List.length_dropLast]; omega) (fun Z hZ => h1 Z (List.mem_append_left _ hZ)) (List.pairwise_append.mp h2).1 (List.nodup_append.mp h3).1)
  rw [key _ Xs rfl hl up nd]
  unfold minL
  refine List.filter_congr fun X hX => ?_
  rw [decide_eq_decide, List.filter_eq_nil_iff]
  constructor
  · intro m Y hY z
    have := less_iff.mp z
    exact m Y hY this.1 this.2
  · intro m Y hY ne w
    exact m Y hY (less_iff.mpr ⟨ne, w⟩)
/-! ### keeping and losing -/
theorem filter_len_mono {p q : Int → Bool} {l : List Int} (h : ∀ x ∈ l, p x = true → q x = true) : (l.filter p).length ≤ (l.filter q).length := by
  rw [← List.countP_eq_length_filter, ← List.countP_eq_length_filter]
  exact List.countP_mono_left h
theorem okU_mono {i : It} (w : wi X Y = true) (h : okU X i = true) : okU Y i = true := by
  unfold okU at *
  rw [decide_eq_true_eq] at *
  have := filter_len_mono (l := i.1) (p := fun x => decide (x ∈ X)) (q := fun x => decide (x ∈ Y)) fun x _ h => by
    rw [decide_eq_true_eq] at *
    exact wi_iff.mp w x h
  omega
theorem keep_mono (w : wi X Y = true) (h : keepB its X = true) : keepB its Y = true := by
  unfold keepB at *
  rw [List.all_eq_true] at *
  exact fun i hi => okU_mono w (h i hi)
theorem mem_oth {x : Int} : x ∈ oth n Y ↔ (0 ≤ x ∧ x < n) ∧ x ∉ Y := by
  unfold oth
  rw [List.mem_filter, mem_rgI]
  simp
theorem oth_oth (hX : SetN n X) : oth n (oth n X) = X := by
  refine set_ext oth_set hX fun x => ?_
  rw [mem_oth, mem_oth]
  constructor
  · rintro ⟨a, b⟩
    exact Classical.byContradiction fun z => b ⟨a, z⟩
  · intro hx
    exact ⟨hX.lo x hx, fun z => z.2 hx⟩
theorem lost_iff {i : It} (hi : SetN n i.1) : isLost Y i = !okU (oth n Y) i := by
  unfold isLost okU
  have e : i.1.filter (fun x => !decide (x ∈ Y)) = i.1.filter fun x => decide (x ∈ oth n Y) := List.filter_congr fun x hx => by
    have := hi.lo x hx
    rw [Bool.eq_iff_iff]
    simp only [Bool.not_eq_true', decide_eq_false_iff_not, decide_eq_true_eq, mem_oth]
    exact ⟨fun z => ⟨this, z⟩, fun z => z.2⟩
  rw [e, Bool.eq_iff_iff]
  simp only [decide_eq_true_eq, Bool.not_eq_true', decide_eq_false_iff_not]
  omega
theorem lose_iff (H : LayOk n its) : loseB n its Y = its.any (isLost Y) := by
  unfold loseB keepB
  rw [Bool.eq_iff_iff, Bool.not_eq_true', List.any_eq_true]
  constructor
  · intro z
    have : ¬ ∀ i ∈ its, okU (oth n Y) i = true := fun q => by rw [List.all_eq_true.mpr q] at z; cases z
    obtain ⟨i, hi, q⟩ : ∃ i ∈ its, ¬ okU (oth n Y) i = true := Classical.byContradiction fun w => this fun i hi => Classical.byContradiction fun v => w ⟨i, hi, v⟩
    refine ⟨i, hi, ?_⟩
    rw [lost_iff (H.ok i hi).set]
    simpa using q
  · rintro ⟨i, hi, q⟩
    rw [lost_iff (H.ok i hi).set] at q
    cases e : its.all (okU (oth n Y)) with
    | false => rfl
    | true =>
      have := List.all_eq_true.mp e i hi
      rw [this] at q
      cases q
theorem lostI_nil (H : LayOk n its) : decide (lostI its Y = []) = !loseB n its Y := by
  rw [lose_iff H]
  unfold lostI
  rw [Bool.eq_iff_iff, decide_eq_true_eq, List.map_eq_nil_iff, List.filter_eq_nil_iff, Bool.not_eq_true']
  constructor
  · intro z
    cases e : its.any (isLost Y) with
    | false => rfl
    | true =>
      obtain ⟨i, hi, q⟩ := List.any_eq_true.mp e
      obtain ⟨j, hj, rfl⟩ := List.getElem_of_mem hi
      exact absurd q (z (its[j], j) (by rw [List.mem_zipIdx_iff_getElem?]; exact List.getElem?_eq_getElem hj))
  · intro z p hp q
    have : its.any (isLost Y) = true := List.any_eq_true.mpr ⟨p.1, zip_mem hp, q⟩
    rw [this] at z
    cases z
theorem rg_zip : rgI its.length = its.zipIdx.map fun p => (p.2 : Int) := by
  unfold rgI
  have : its.zipIdx.map (fun p => (p.2 : Int)) = (its.zipIdx.map (·.2)).map fun (i : Nat) => (i : Int) := by rw [List.map_map]; rfl
  rw [this, List.zipIdx_map_snd, List.range_eq_range']
theorem lost_rd (H : LayOk n its) : (rgI its.length).filter (fun x => !decide (x ∈ rd its (oth n Y))) = lostI its Y := by
  rw [rg_zip, List.filter_map]
  unfold lostI
  congr 1
  refine List.filter_congr fun p hp => ?_
  show (!decide ((p.2 : Int) ∈ rd its (oth n Y))) = isLost Y p.1
  rw [lost_iff (H.ok p.1 (zip_mem hp)).set]
  congr 1
  rw [Bool.eq_iff_iff, decide_eq_true_eq]
  unfold rd
  rw [List.mem_map]
  constructor
  · rintro ⟨q, hq, e⟩
    obtain ⟨h1, h2⟩ := List.mem_filter.mp hq
    have a := List.mem_zipIdx_iff_getElem?.mp h1
    have b := List.mem_zipIdx_iff_getElem?.mp hp
    have : q.2 = p.2 := by omega
    rw [this, b] at a
    rw [Option.some.inj a]
    exact h2
  · intro q
    exact ⟨p, List.mem_filter.mpr ⟨hp, q⟩, rfl⟩
theorem full_lost (H : LayOk n its) : lostI its (rgI n) = rgI its.length := by
  rw [rg_zip]
  unfold lostI
  congr 1
  rw [List.filter_eq_self]
  intro p hp
  have ok := H.ok p.1 (zip_mem hp)
  have : p.1.1.filter (fun x => !decide (x ∈ rgI n)) = [] := by
    rw [List.filter_eq_nil_iff]
    intro x hx
    have := ok.set.lo x hx
    simp [mem_rgI, this]
  unfold isLost
  rw [this]
  have := ok.lo
  rw [decide_eq_true_eq]
  show (0 : Int) < _
  omega
end
end VI.Lay
end
section
namespace VI.Lay
open PySem PySem.Spec PyProof.Rows L2 VI VI.Std
section
variable {X Y Z : List Int} {n : Nat} {its : List It} {up : List Int}
def losing (n : Nat) (its : List It) : List (List Int) := (sets n).filter (loseB n its)
def keeping (n : Nat) (its : List It) : List (List Int) := (sets n).filter (keepB its)
theorem take_set (hX : SetN n X) (k : Nat) : SetN n (X.take k) := ⟨hX.up.sublist (List.take_sublist _ _), fun x hx => hX.lo x (List.mem_of_mem_take hx)⟩
theorem full_set : SetN n (rgI n) := by
  refine ⟨?_, fun x hx => mem_rgI.mp hx⟩
  unfold rgI
  rw [List.pairwise_map]
  exact List.pairwise_lt_range.imp fun h => by omega
theorem full_loses (H : LayOk n its) : loseB n its (rgI n) = true := by
  have h := lostI_nil (Y := rgI n) H
  rw [full_lost H] at h
  have : decide (rgI its.length = []) = false := by
    rw [decide_eq_false_iff_not]
    intro z
    have := congrArg List.length z
    rw [rgI_len] at this
    have := H.ne
    simp_all
  rw [this] at h
  cases e : loseB n its (rgI n) with
  | true => rfl
  | false => rw [e] at h; cases h
theorem losing_ne (H : LayOk n its) : losing n its ≠ [] := by
  intro z
  have : rgI n ∈ losing n its := List.mem_filter.mpr ⟨mem_sets.mpr full_set, full_loses H⟩
  rw [z] at this
  cases this
theorem filter_split (p : Int → Bool) : ∀ l : List Int, (l.filter p).length + (l.filter fun x => !p x).length = l.length
  | [] => rfl
  | x :: l => by
    rw [List.filter_cons, List.filter_cons, List.length_cons]
    have := filter_split p l
    cases p x <;> simp <;> omega
theorem tol_eq (H : LayOk n its) : minI (slack its) = minI ((losing n its).map fun X => (X.length : Int)) - 1 := by
  have ne1 : slack its ≠ [] := fun z => by have := congrArg List.length z; have := H.ne; simp [slack] at *; simp_all
  have ne2 : (losing n its).map (fun X => (X.length : Int)) ≠ [] := fun z => losing_ne H (by simpa using z)
  obtain ⟨a1, a2⟩ := minI_ok ne1
  obtain ⟨b1, b2⟩ := minI_ok ne2
  obtain ⟨i, hi, e1⟩ := List.mem_map.mp a1
  obtain ⟨Y, hY, e2⟩ := List.mem_map.mp b1
  have ok := H.ok i hi
  have lo := ok.lo
  have hi2 := ok.hi
  -- a losing set with one server more than the slack
  have le : minI ((losing n its).map fun X => (X.length : Int)) ≤ minI (slack its) + 1 := by
    obtain ⟨k, hk⟩ : ∃ k : Nat, (k : Int) = (i.1.length : Int) - i.2 + 1 := ⟨((i.1.length : Int) - i.2 + 1).toNat, by omega⟩
    have kl : k ≤ i.1.length := by omega
    have inA : i.1.take k ∈ losing n its := by
      refine List.mem_filter.mpr ⟨mem_sets.mpr (take_set ok.set k), ?_⟩
      rw [lose_iff H]
      refine List.any_eq_true.mpr ⟨i, hi, ?_⟩
      unfold isLost
      rw [decide_eq_true_eq]
      have s := filter_split (fun x => decide (x ∈ i.1.take k)) i.1
      have c : (i.1.take k).length ≤ (i.1.filter fun x => decide (x ∈ i.1.take k)).length := by
        have := subl (i.1.take k) (i.1.filter fun x => decide (x ∈ i.1.take k)) (take_set ok.set k).up (ok.set.up.filter _) fun x hx => List.mem_filter.mpr ⟨List.mem_of_mem_take hx, by simpa using hx⟩
        exact this.length_le
      rw [List.length_take] at c
      omega
    have := b2 _ (List.mem_map.mpr ⟨_, inA, rfl⟩)
    rw [List.length_take] at this
    omega
  have ge : minI (slack its) + 1 ≤ minI ((losing n its).map fun X => (X.length : Int)) := by
    obtain ⟨hs, hl⟩ := List.mem_filter.mp hY
    rw [lose_iff H] at hl
    obtain ⟨j, hj, q⟩ := List.any_eq_true.mp hl
    unfold isLost at q
    rw [decide_eq_true_eq] at q
    have okj := H.ok j hj
    have s := filter_split (fun x => decide (x ∈ Y)) j.1
    have c := (subl (j.1.filter fun x => decide (x ∈ Y)) Y (okj.set.up.filter _) (mem_sets.mp hs).up fun x hx => by have := (List.mem_filter.mp hx).2; simpa using this).length_le
    have := a2 _ (List.mem_map.mpr ⟨j, hj, rfl⟩)
    omega
  omega
theorem keep_list (H : LayOk n its) : (sets n).filter (fun X => decide (X ∈ ((sets n).filter fun X => !decide (X ∈ losing n its)).map (oth n))) = keeping n its := by
  refine List.filter_congr fun X hX => ?_
  have sX := mem_sets.mp hX
  rw [Bool.eq_iff_iff, decide_eq_true_eq, List.mem_map]
  constructor
  · rintro ⟨Y, hY, rfl⟩
    obtain ⟨h1, h2⟩ := List.mem_filter.mp hY
    have : ¬ loseB n its Y = true := fun z => by
      have : Y ∈ losing n its := List.mem_filter.mpr ⟨h1, z⟩
      simp [this] at h2
    unfold loseB at this
    simpa using this
  · intro k
    refine ⟨oth n X, List.mem_filter.mpr ⟨mem_sets.mpr oth_set, ?_⟩, oth_oth sX⟩
    have : oth n X ∉ losing n its := fun z => by
      have := (List.mem_filter.mp z).2
      unfold loseB at this
      rw [oth_oth sX, k] at this
      cases this
    simp [this]
theorem one_set {s : Int} (hs : 0 ≤ s ∧ s < n) : SetN n [s] := ⟨by simp, fun x hx => by rw [List.mem_singleton.mp hx]; exact hs⟩
theorem ess_eq (H : LayOk n its) : (rgI n).filter (fun s => loseB n its [s]) = (rgI n).filter fun s => (keeping n its).all fun up => decide (s ∈ up) := by
  refine List.filter_congr fun s hs => ?_
  rw [Bool.eq_iff_iff, List.all_eq_true]
  constructor
  · intro z up hu
    rw [decide_eq_true_eq]
    refine Classical.byContradiction fun ns => ?_
    obtain ⟨h1, h2⟩ := List.mem_filter.mp hu
    have : keepB its (oth n [s]) = true := keep_mono (X := up) (wi_iff.mpr fun x hx => mem_oth.mpr ⟨(mem_sets.mp h1).lo x hx, fun q => ns (by rw [← List.mem_singleton.mp q]; exact hx)⟩) h2
    unfold loseB at z
    rw [this] at z
    cases z
  · intro z
    cases e : loseB n its [s] with
    | true => rfl
    | false =>
      have k : keepB its (oth n [s]) = true := by
        unfold loseB at e
        simpa using e
      have := z (oth n [s]) (List.mem_filter.mpr ⟨mem_sets.mpr oth_set, k⟩)
      rw [decide_eq_true_eq, mem_oth] at this
      exact absurd (List.mem_singleton.mpr rfl) this.2
theorem fil_ok {p : List Int → Bool} : (∀ Z ∈ (sets n).filter p, SetN n Z) ∧ (((sets n).filter p).Pairwise fun X Y => X.length ≤ Y.length) ∧ ((sets n).filter p).Nodup :=
  ⟨fun Z hZ => mem_sets.mp (List.mem_filter.mp hZ).1, sets_up.filter _, sets_nodup.filter _⟩
theorem min_fil {p : List Int → Bool} : minP [] ((sets n).filter p) = minL ((sets n).filter p) := minP_eq (n := n) fil_ok.1 fil_ok.2.1 fil_ok.2.2
end
end VI.Lay
end
section
namespace VI.Lay
open PySem PySem.Spec PyProof.Rows L2 VI VI.Std
/-! the laws' own items -/
def l1Items : SS := (ssCons (ssAsg (sOp (addD false) (sOp (addD false) (sVar 1) (sK (.int 1))) (sOp (mulD false) (sK (.int 10)) (sVar 5))) (sgName 6))
  (ssCons (ssAsg (sLc false [10] (siArg itRng1 (saCons (sVar 2) saNil)) (sgName 10) (sTru (sOp (eqD false) (sOp modD (sCall intD (saCons (sCall Std2.fNumber (saCons (sVar 0) (saCons (sOp (addD false) (sVar 6) (sVar 10)) saNil))) saNil)) (sK (.int 2))) (sK (.int 0)))) (sVar 10)) (sgName 7))
  (ssCons (ssAsg (sIte (sOp (eqD true) (sVar 7) (sLst false saNil)) (sVar 7) (sLst false (saCons (sOp modD (sCall intD (saCons (sCall Std2.fNumber (saCons (sVar 0) (saCons (sOp (addD false) (sVar 6) (sK (.int 8))) saNil))) saNil)) (sVar 2)) saNil))) (sgName 7))
  (ssCons (ssAsg (sCall intD (saCons (sCall Std2.fNumber (saCons (sVar 0) (saCons (sOp (addD false) (sVar 6) (sK (.int 9))) saNil))) saNil)) (sgName 8))
  (ssCons (ssAsg (sIte (sOp (eqD false) (sOp modD (sVar 8) (sK (.int 3))) (sK (.int 0))) (sOp (addD false) (sK (.int 1)) (sOp modD (sOp fdivD (sVar 8) (sK (.int 3))) (sCall lenD (saCons (sVar 7) saNil)))) (sK (.int 1))) (sgName 9))
  (ssCons (ssExpr (sBm appD (sVar 4) (saCons (sTup (saCons (sCall tupleD (saCons (sVar 7) saNil)) (saCons (sVar 9) saNil))) saNil)))
  ssNil))))))
def sItems : SS := (ssCons (ssAsg (sLst true saNil) (sgName 4))
  (ssCons (ssFor (siArg itRng1 (saCons (sOp (addD false) (sK (.int 1)) (sOp modD (sCall intD (saCons (sCall Std2.fNumber (saCons (sVar 0) (saCons (sVar 1) saNil))) saNil)) (sVar 3))) saNil)) (sgName 5)
  l1Items)
  (ssCons (ssRet (sVar 4))
  ssNil)))
def fItems : List D → Bs → R D := runFn 4 11 sItems
section
variable {h : Bs} {ns : List Int} {n : Nat}
theorem num2 (hl : ns.length ≤ 63) (h : Bs) : ∃ z : Int → Int, ∀ i : Int, 0 ≤ i → i < 2 ^ 63 → Std2.fNumber [.scr ns, .int i] h = .ok (.int (z i)) h := by
  refine ⟨fun i => if hh : 0 ≤ i ∧ i < 2 ^ 63 then Classical.choose (Std2.number_ok hl hh.1 (by omega) h) else 0, fun i h0 h1 => ?_⟩
  have hh : 0 ≤ i ∧ i < 2 ^ 63 := ⟨h0, h1⟩
  simp only [dif_pos hh]
  exact Classical.choose_spec (Std2.number_ok hl hh.1 (by omega) h)
theorem fil_set {p : Int → Bool} : SetN n ((rgI n).filter p) := ⟨full_set.up.filter _, fun x hx => full_set.lo x (List.mem_filter.mp hx).1⟩
theorem item_body (hl : ns.length ≤ 63) (h1 : 1 ≤ n) (h2 : n ≤ 8) {at_ r : Nat} (ha : at_ ≤ 100000) (hr : r ≤ 100000) {xs : List D} (hx : xs.length < 1000) {s3 x6 x7 x8 x9 : Option D} : ∃ i y6 y7 y8 y9, ItOk n i ∧
    l1Items [some (.scr ns), some (.int at_), some (.int n), s3, some (.ref h.bs.length), some (.int r), x6, x7, x8, x9, none] (stG h xs) = .nx [some (.scr ns), some (.int at_), some (.int n), s3, some (.ref h.bs.length), some (.int r), y6, y7, y8, y9, none] (stG h (xs ++ [itD i])) := by
  have sz : (1000 : Nat) ≤ sizeLine := by decide
  obtain ⟨g, hg⟩ : ∃ g, g = stG h xs := ⟨_, rfl⟩
  obtain ⟨z, hz⟩ := num2 hl g
  obtain ⟨f, hf⟩ : ∃ f : Int, f = at_ + 1 + 10 * r := ⟨_, rfl⟩
  have f0 : 0 ≤ f ∧ f < 2 ^ 40 := by constructor <;> omega
  have m1 : mulD false (.int 10) (.int r) g = .ok (.int (10 * r)) g := mulI (by
    have := Nat.log2_le_self ((r : Int)).natAbs
    have : ((10 : Int)).natAbs.log2 ≤ 10 := by decide
    omega)
  -- holders
  have lc : ∀ {y6 y7 y8 y9 : Option D}, y6 = some (.int f) → (sLc false [10] (siArg itRng1 (saCons (sVar 2) saNil)) (sgName 10) (sTru (sOp (eqD false) (sOp modD (sCall intD (saCons (sCall Std2.fNumber (saCons (sVar 0) (saCons (sOp (addD false) (sVar 6) (sVar 10)) saNil))) saNil)) (sK (.int 2))) (sK (.int 0)))) (sVar 10)) [some (.scr ns), some (.int at_), some (.int n), s3, some (.ref h.bs.length), some (.int r), y6, y7, y8, y9, none] g = .ok (lI ((rgI n).filter fun s => decide (z (f + s) % 2 = 0))) g := by
    intro y6 y7 y8 y9 e6
    subst e6
    refine fil_emb (h := g) .int (rgI n) (fun s => decide (z (f + s) % 2 = 0)) (arg_ok (h1 := g) (xs := [.int n]) rfl (rng_I (by omega))) (fun s hs => ⟨[some (.scr ns), some (.int at_), some (.int n), s3, some (.ref h.bs.length), some (.int r), some (.int f), y7, y8, y9, some (.int s)], rfl, ?_, rfl⟩) (by rw [rgI_len]; omega)
    have hs' := mem_rgI.mp hs
    exact (op_ok (x := .int (z (f + s) % 2)) (y := .int 0) (op_ok (x := .int (z (f + s))) (y := .int 2) (call_ok (cons_ok (call_ok (h1 := g) (xs := [.scr ns, .int (f + s)]) rfl (hz (f + s) (by omega) (by omega))) rfl) rfl) rfl (modI (by decide))) rfl (eq_ints (neg := false))).trans rfl
  obtain ⟨A, hA⟩ : ∃ A, A = (rgI n).filter fun s => decide (z (f + s) % 2 = 0) := ⟨_, rfl⟩
  obtain ⟨B, hB⟩ : ∃ B, B = if A = [] then [z (f + 8) % (n : Int)] else A := ⟨_, rfl⟩
  have setB : SetN n B := by
    rw [hB]
    split
    · exact one_set ⟨Int.emod_nonneg _ (by omega), Int.emod_lt_of_pos _ (by omega)⟩
    · rw [hA]; exact fil_set
  have neB : B ≠ [] := by
    rw [hB]
    split
    · simp
    · assumption
  have lenB := SetN.len setB
  have posB : 0 < B.length := by
    cases q : B with
    | nil => exact absurd q neB
    | cons a b => simp
  obtain ⟨d, hd⟩ : ∃ d, d = z (f + 9) := ⟨_, rfl⟩
  obtain ⟨k, hk⟩ : ∃ k : Int, k = if d % 3 = 0 then 1 + d / 3 % (B.length : Int) else 1 := ⟨_, rfl⟩
  have k1 : 1 ≤ k ∧ k ≤ B.length := by
    rw [hk]
    have a := Int.emod_nonneg (d / 3) (b := (B.length : Int)) (by omega)
    have b := Int.emod_lt_of_pos (d / 3) (b := (B.length : Int)) (by omega)
    split <;> constructor <;> omega
  refine ⟨(B, k), some (.int f), some (lI B), some (.int d), some (.int k), ⟨setB, k1.1, k1.2⟩, ?_⟩
  rw [← hg]
  unfold l1Items
  refine (cons_nx (ρ1 := [some (.scr ns), some (.int at_), some (.int n), s3, some (.ref h.bs.length), some (.int r), some (.int f), x7, x8, x9, none]) (h1 := g) (asg_ok (op_ok (x := .int ((at_ : Int) + 1)) (y := .int (10 * r)) (op_ok rfl rfl rfl) (op_ok (x := .int 10) (y := .int r) rfl rfl m1) rfl) (by rw [← hf]; rfl))).trans ?_
  refine (cons_nx (ρ1 := [some (.scr ns), some (.int at_), some (.int n), s3, some (.ref h.bs.length), some (.int r), some (.int f), some (lI A), x8, x9, none]) (h1 := g) (asg_ok (lc rfl) (by rw [← hA]; rfl))).trans ?_
  refine (cons_nx (ρ1 := [some (.scr ns), some (.int at_), some (.int n), s3, some (.ref h.bs.length), some (.int r), some (.int f), some (lI B), x8, x9, none]) (h1 := g) (asg_ok (d := lI B) (h1 := g) ?_ rfl)).trans ?_
  · unfold sIte
    rw [tru_ok (op_ok (x := lI A) (y := .lst []) rfl (lst_ok rfl (Nat.zero_le _)) (show eqD true (lI A) (.lst []) g = .ok (.bl (!decide (A = []))) g by have := eq_lI (h := g) (l := A) (m := []) (neg := true); rw [if_pos rfl] at this; exact this)), bind_ok]
    by_cases q : A = []
    · rw [decide_eq_true q, hB, if_pos q]
      refine lst_ok (xs := [.int (z (f + 8) % n)]) (cons_ok (op_ok (x := .int (z (f + 8))) (y := .int n) (call_ok (cons_ok (call_ok (h1 := g) (xs := [.scr ns, .int (f + 8)]) rfl (hz (f + 8) (by omega) (by omega))) rfl) rfl) rfl (modI (by omega))) rfl) (show 1 ≤ sizeLine by decide)
    · rw [decide_eq_false q, hB, if_neg q]
      rfl
  refine (cons_nx (ρ1 := [some (.scr ns), some (.int at_), some (.int n), s3, some (.ref h.bs.length), some (.int r), some (.int f), some (lI B), some (.int d), x9, none]) (h1 := g) (asg_ok (call_ok (cons_ok (call_ok (h1 := g) (xs := [.scr ns, .int (f + 9)]) rfl (hz (f + 9) (by omega) (by omega))) rfl) rfl) (by rw [← hd]; rfl))).trans ?_
  refine (cons_nx (ρ1 := [some (.scr ns), some (.int at_), some (.int n), s3, some (.ref h.bs.length), some (.int r), some (.int f), some (lI B), some (.int d), some (.int k), none]) (h1 := g) (asg_ok (d := .int k) (h1 := g) ?_ rfl)).trans ?_
  · unfold sIte
    rw [tru_ok (op_ok (x := .int (d % 3)) (y := .int 0) (op_ok (x := .int d) (y := .int 3) rfl rfl (modI (by decide))) rfl (eq_ints (neg := false))), bind_ok, if_neg (show ¬ false = true by decide)]
    by_cases q : d % 3 = 0
    · rw [decide_eq_true q, if_pos rfl, hk, if_pos q]
      exact op_ok (x := .int 1) (y := .int (d / 3 % (B.length : Int))) rfl (op_ok (x := .int (d / 3)) (y := .int B.length) (op_ok (x := .int d) (y := .int 3) rfl rfl (fdivI ⟨by decide, by decide⟩)) (call_ok (h1 := g) (xs := [lI B]) rfl (IsX.len (.inr rfl))) (modI (by omega))) rfl
    · rw [decide_eq_false q, if_neg (by decide), hk, if_neg q]
      rfl
  rw [hg]
  exact (cons_nx (expr_ok (bm_ok (o := .ref h.bs.length) (xs := [itD (B, k)]) rfl (by simp [lstOf, stG_at]) (cons_ok (tup_ok (xs := [tI B, .int k]) (cons_ok (call_ok (h1 := stG h xs) (xs := [lI B]) rfl (tup_l (by omega))) (cons_ok (x := .int k) rfl rfl)) two_le) rfl) (stG_app hx)))).trans rfl
theorem items_loop (hl : ns.length ≤ 63) (h1 : 1 ≤ n) (h2 : n ≤ 8) {at_ : Nat} (ha : at_ ≤ 100000) {s3 : Option D} : ∀ (m k : Nat) (its : List It) (x5 x6 x7 x8 x9 : Option D), k + m ≤ 100000 → its.length + m < 1000 → (∀ i ∈ its, ItOk n i) → ∃ (its' : List It) (y5 y6 y7 y8 y9 : Option D), its'.length = its.length + m ∧ (∀ i ∈ its', ItOk n i) ∧
    loopS (sgName 5) l1Items ((List.range' k m).map fun (i : Nat) => D.int i) [some (.scr ns), some (.int at_), some (.int n), s3, some (.ref h.bs.length), x5, x6, x7, x8, x9, none] (stG h (its.map itD)) = .nx [some (.scr ns), some (.int at_), some (.int n), s3, some (.ref h.bs.length), y5, y6, y7, y8, y9, none] (stG h (its'.map itD))
  | 0, k, its, x5, x6, x7, x8, x9, _, _, hi => ⟨its, x5, x6, x7, x8, x9, rfl, hi, rfl⟩
  | m + 1, k, its, x5, x6, x7, x8, x9, hk, hm, hi => by
    obtain ⟨i, y6, y7, y8, y9, ok, b⟩ := item_body (h := h) hl h1 h2 ha (r := k) (by omega) (xs := its.map itD) (by rw [List.length_map]; omega) (s3 := s3) (x6 := x6) (x7 := x7) (x8 := x8) (x9 := x9)
    obtain ⟨its', z5, z6, z7, z8, z9, e1, e2, e3⟩ := items_loop hl h1 h2 ha (s3 := s3) m (k + 1) (its ++ [i]) (some (.int k)) y6 y7 y8 y9 (by omega) (by simp; omega) (fun j hj => by
      rcases List.mem_append.mp hj with q | q
      · exact hi j q
      · rw [List.mem_singleton.mp q]; exact ok)
    refine ⟨its', z5, z6, z7, z8, z9, by rw [e1]; simp; omega, e2, ?_⟩
    rw [List.range'_succ, List.map_cons, loop_step (ρ1 := [some (.scr ns), some (.int at_), some (.int n), s3, some (.ref h.bs.length), some (.int k), x6, x7, x8, x9, none]) (h1 := stG h (its.map itD)) rfl b]
    rw [show its.map itD ++ [itD i] = (its ++ [i]).map itD by simp]
    exact e3
theorem items_ok (hl : ns.length ≤ 63) (h1 : 1 ≤ n) (h2 : n ≤ 8) {at_ most : Nat} (ha : at_ ≤ 100000) (hm : 0 < most) (hm2 : most ≤ 10) : ∃ its : List It, LayOk n its ∧ its.length ≤ most ∧ fItems [.scr ns, .int at_, .int n, .int most] h = .ok (.lst (its.map itD)) h := by
  obtain ⟨z, hz⟩ := num2 hl (stG h [])
  obtain ⟨c, hc⟩ : ∃ c : Nat, (c : Int) = 1 + z at_ % most := ⟨(1 + z at_ % most).toNat, by have := Int.emod_nonneg (z at_) (b := (most : Int)) (by omega); omega⟩
  have cb : 1 ≤ c ∧ c ≤ most := by
    have := Int.emod_nonneg (z at_) (b := (most : Int)) (by omega)
    have := Int.emod_lt_of_pos (z at_) (b := (most : Int)) (by omega)
    omega
  obtain ⟨its, y5, y6, y7, y8, y9, e1, e2, e3⟩ := items_loop (h := h) hl h1 h2 ha (s3 := some (.int most)) c 0 [] none none none none none (by omega) (by simp; omega) (by simp)
  rw [List.length_nil, Nat.zero_add] at e1
  refine ⟨its, ⟨h1, h2, by omega, by omega, e2⟩, by omega, ?_⟩
  have hb : sItems [some (.scr ns), some (.int at_), some (.int n), some (.int most), none, none, none, none, none, none, none] (inB h) = .rt (.ref h.bs.length) (stG h (its.map itD)) := by
    unfold sItems
    refine (cons_nx (ρ1 := [some (.scr ns), some (.int at_), some (.int n), some (.int most), some (.ref h.bs.length), none, none, none, none, none, none]) (h1 := stG h []) (asg_ok stG_new rfl)).trans ?_
    refine (cons_nx (for_ok (h1 := stG h []) (arg_ok (h1 := stG h []) (xs := [.int c]) (cons_ok (op_ok (x := .int 1) (y := .int (z at_ % most)) rfl (op_ok (x := .int (z at_)) (y := .int most) (call_ok (cons_ok (call_ok (h1 := stG h []) (xs := [.scr ns, .int at_]) rfl (hz at_ (by omega) (by omega))) rfl) rfl) rfl (modI (by omega))) (by rw [hc]; rfl)) rfl) (rng_r (by omega))) e3)).trans (ret_ok rfl)
  unfold fItems runFn
  rw [if_pos (by rfl), show slots 11 [.scr ns, .int at_, .int n, .int most] = [some (.scr ns), some (.int at_), some (.int n), some (.int most), none, none, none, none, none, none, none] from rfl, hb]
  exact stG_end (noDs_its its)
end
end VI.Lay
end
section
namespace VI.Lay
open PySem PySem.Spec PyProof.Rows L2 VI VI.Std
/-! the questions about losses -/
section
variable (T : Tb) (mR ti : Nat)
def sMLoss : SS := (ssCons (ssExpr (sCall (fChkL T) (saCons (sVar 0) saNil)))
  (ssCons (ssRet (sCall fMin (saCons (sLc false [1] (siSeq (sCall (fSets ti) (saCons (sUn (fldD T 0) (sVar 0)) saNil))) (sgName 1) (sTru (sCall (fLose T mR) (saCons (sVar 0) (saCons (sVar 1) saNil)))) (sVar 1)) saNil)))
  ssNil))
def fMLoss : List D → Bs → R D := runFn 1 2 (sMLoss T mR ti)
def sMKeep : SS := (ssCons (ssExpr (sCall (fChkL T) (saCons (sVar 0) saNil)))
  (ssCons (ssRet (sCall fMin (saCons (sLc false [1] (siSeq (sCall (fSets ti) (saCons (sUn (fldD T 0) (sVar 0)) saNil))) (sgName 1) (sTru (sCall (fKeep T mR) (saCons (sVar 0) (saCons (sVar 1) saNil)))) (sVar 1)) saNil)))
  ssNil))
def fMKeep : List D → Bs → R D := runFn 1 2 (sMKeep T mR ti)
def sCntL : SS := (ssCons (ssExpr (sCall (fChkL T) (saCons (sVar 0) saNil)))
  (ssCons (ssAsg (sLc false [2] (siSeq (sCall (fSets ti) (saCons (sUn (fldD T 0) (sVar 0)) saNil))) (sgName 2) (sTru (sCall (fLose T mR) (saCons (sVar 0) (saCons (sVar 2) saNil)))) (sCall lenD (saCons (sVar 2) saNil))) (sgName 1))
  (ssCons (ssRet (sCall tupleD (saCons (sLc false [3] (siArg itRng1 (saCons (sOp (addD false) (sUn (fldD T 0) (sVar 0)) (sK (.int 1))) saNil)) (sgName 3) (fun _ h => .ok true h) (sLt cntL cntT (sVar 1) (saCons (sVar 3) saNil))) saNil)))
  ssNil)))
def fCntL : List D → Bs → R D := runFn 1 4 (sCntL T mR ti)
def sLostI : SS := (ssCons (ssExpr (sCall (fChkL T) (saCons (sVar 0) saNil)))
  (ssCons (ssExpr (sCall (fChkS T) (saCons (sVar 0) (saCons (sVar 1) saNil))))
  (ssCons (ssAsg (sMeth mR (fun c => List.lookup c [(0, (fRead T))]) (sVar 0) (saCons (sCall fOthers (saCons (sUn (fldD T 0) (sVar 0)) (saCons (sVar 1) saNil))) saNil)) (sgName 2))
  (ssCons (ssRet (sLc false [3] (siArg itRng1 (saCons (sCall (lenO [(0, (fLen T))]) (saCons (sVar 0) saNil)) saNil)) (sgName 3) (sTru (sOp (inD true) (sVar 3) (sVar 2))) (sVar 3)))
  ssNil))))
def fLostI : List D → Bs → R D := runFn 2 4 (sLostI T mR)
def sLoses : SS := (ssCons (ssRet (sOp (eqD true) (sCall (fLostI T mR) (saCons (sVar 0) (saCons (sVar 1) saNil))) (sLst false saNil)))
  ssNil)
def fLoses : List D → Bs → R D := runFn 2 2 (sLoses T mR)
def sEss : SS := (ssCons (ssExpr (sCall (fChkL T) (saCons (sVar 0) saNil)))
  (ssCons (ssRet (sLc false [1] (siArg itRng1 (saCons (sUn (fldD T 0) (sVar 0)) saNil)) (sgName 1) (sTru (sCall (fLose T mR) (saCons (sVar 0) (saCons (sTup (saCons (sVar 1) saNil)) saNil)))) (sVar 1)))
  ssNil))
def fEss : List D → Bs → R D := runFn 1 2 (sEss T mR)
def sUse : SS := (ssCons (ssAsg (sCall (fMKeep T mR ti) (saCons (sVar 0) saNil)) (sgName 1))
  (ssCons (ssRet (sLc false [2] (siArg itRng1 (saCons (sUn (fldD T 0) (sVar 0)) saNil)) (sgName 2) (sTru (sNot (sCall anyD' (saCons (sLc false [3] (siSeq (sVar 1)) (sgName 3) (fun _ h => .ok true h) (sOp (inD false) (sVar 2) (sVar 3))) saNil)))) (sVar 2)))
  ssNil))
def fUse : List D → Bs → R D := runFn 1 4 (sUse T mR ti)
end
section
variable {K : PySem.W.Frag} {ct : Ct} {h : Bs} {X Y : List Int} {n mR ti : Nat} {its : List It}
theorem sets_small (hn : n ≤ 8) : (sets n).length ≤ 256 := by
  rw [sets_len]
  exact Nat.pow_le_pow_right (by decide) hn
theorem fil_small {p : List Int → Bool} (hn : n ≤ 8) : ((sets n).filter p).length ≤ 256 := Nat.le_trans (List.length_filter_le _ _) (sets_small hn)
theorem fil_lens {p : List Int → Bool} (hn : n ≤ 8) : ∀ Y ∈ (sets n).filter p, Y.length ≤ 1000 := fun Y hY => by
  have := SetN.len (mem_sets.mp (List.mem_filter.mp hY).1)
  omega
/-- the sets of which something holds -/
theorem lc_sets (hn : n ≤ 8) (L : LayT (tbC ct K)) (ht : h.bs[ti]? = some (.tbl ti)) {own : List Nat} {g : SG} {tt el : SV} {ρ : Ev} {p : List Int → Bool} (e0 : ρ[0]? = some (some (oL n its))) (H : ∀ Y ∈ sets n, ∃ ρ1, g (tI Y) (wipeE ρ own) h = .ok ρ1 h ∧ tt ρ1 h = .ok (.bl (p Y)) h ∧ el ρ1 h = .ok (tI Y) h) :
    sLc false own (siSeq (sCall (fSets ti) (saCons (sUn (fldD (tbC ct K) 0) (sVar 0)) saNil))) g (sTru tt) el ρ h = .ok (lT ((sets n).filter p)) h := by
  have sz : (1000 : Nat) ≤ sizeLine := by decide
  have := sets_small hn
  exact fil_emb (fun X => tI X) (sets n) p (seq_ok (call_ok (cons_ok (un_ok (var_ok e0) (fld0 L)) rfl) (sets_ok ht hn)) rfl) H (by omega)
theorem mloss_ok (hm : [0, 1].contains mR = false) (L : LayT (tbC ct K)) (H : LayOk n its) (ht : h.bs[ti]? = some (.tbl ti)) : fMLoss (tbC ct K) mR ti [oL n its] h = .ok (lT (minL (losing n its))) h := by
  have h1 := H.hi
  refine run_rt rfl ?_ (noD_lT _)
  show sMLoss (tbC ct K) mR ti [some (oL n its), none] (inB h) = _
  unfold sMLoss
  refine (cons_nx (expr_ok (call_ok (h1 := inB h) (xs := [oL n its]) rfl (chkL_ok L)))).trans ?_
  rw [← show minP [] (losing n its) = minL (losing n its) from min_fil]
  exact ret_ok (call_ok (cons_ok (lc_sets (h := inB h) (p := loseB n its) h1 L ht rfl fun Y hY => ⟨[some (oL n its), some (tI Y)], rfl, call_ok (h1 := inB h) (xs := [oL n its, tI Y]) rfl (lose_ok hm L H), rfl⟩) rfl) (min_ok (Nat.lt_of_le_of_lt (fil_small h1) (by decide)) (fil_lens h1)))
theorem mkeep_ok (hm : [0, 1].contains mR = false) (L : LayT (tbC ct K)) (H : LayOk n its) (ht : h.bs[ti]? = some (.tbl ti)) : fMKeep (tbC ct K) mR ti [oL n its] h = .ok (lT (minL (keeping n its))) h := by
  have h1 := H.hi
  refine run_rt rfl ?_ (noD_lT _)
  show sMKeep (tbC ct K) mR ti [some (oL n its), none] (inB h) = _
  unfold sMKeep
  refine (cons_nx (expr_ok (call_ok (h1 := inB h) (xs := [oL n its]) rfl (chkL_ok L)))).trans ?_
  rw [← show minP [] (keeping n its) = minL (keeping n its) from min_fil]
  exact ret_ok (call_ok (cons_ok (lc_sets (h := inB h) (p := keepB its) h1 L ht rfl fun Y hY => ⟨[some (oL n its), some (tI Y)], rfl, call_ok (h1 := inB h) (xs := [oL n its, tI Y]) rfl (keep_ok hm L H (mem_sets.mp hY)), rfl⟩) rfl) (min_ok (Nat.lt_of_le_of_lt (fil_small h1) (by decide)) (fil_lens h1)))
/-- how many of each size -/
def sizes (n : Nat) (l : List (List Int)) : List Int := (rgI (n + 1)).map fun k => ((l.map fun X => (X.length : Int)).count k : Nat)
theorem cnt_ok (hm : [0, 1].contains mR = false) (L : LayT (tbC ct K)) (H : LayOk n its) (ht : h.bs[ti]? = some (.tbl ti)) : fCntL (tbC ct K) mR ti [oL n its] h = .ok (tI (sizes n (losing n its))) h := by
  have sz : (1000 : Nat) ≤ sizeLine := by decide
  have h1 := H.hi
  have h2 := sets_small h1
  refine run_rt rfl ?_ noD_tI
  show sCntL (tbC ct K) mR ti [some (oL n its), none, none, none] (inB h) = _
  unfold sCntL
  refine (cons_nx (expr_ok (call_ok (h1 := inB h) (xs := [oL n its]) rfl (chkL_ok L)))).trans ?_
  have lc : (sLc false [2] (siSeq (sCall (fSets ti) (saCons (sUn (fldD (tbC ct K) 0) (sVar 0)) saNil))) (sgName 2) (sTru (sCall (fLose (tbC ct K) mR) (saCons (sVar 0) (saCons (sVar 2) saNil)))) (sCall lenD (saCons (sVar 2) saNil))) [some (oL n its), none, none, none] (inB h) = .ok (lI ((losing n its).map fun X => (X.length : Int))) (inB h) := by
    refine lc_ok (xs := (sets n).map fun X => tI X) (seq_ok (call_ok (cons_ok (un_ok (x := oL n its) rfl (fld0 L)) rfl) (sets_ok (h := inB h) ht h1)) rfl) ?_ (by rw [List.length_map, List.length_map]; have := fil_small (p := loseB n its) h1; unfold losing; omega)
    rw [List.map_map]
    exact lc_emb (fun X => tI X) (loseB n its) _ (sets n) fun Y hY => ⟨[some (oL n its), none, some (tI Y), none], rfl, tru_ok (call_ok (h1 := inB h) (xs := [oL n its, tI Y]) rfl (lose_ok hm L H)), fun _ => call_ok (h1 := inB h) (xs := [tI Y]) rfl lenTI⟩
  refine (cons_nx (asg_ok lc rfl)).trans ?_
  unfold sizes
  generalize (losing n its).map (fun X => (X.length : Int)) = S at *
  refine ret_ok (call_ok (cons_ok (lc_ok (ys := ((rgI (n + 1)).map fun k => ((S.count k : Nat) : Int)).map .int) (arg_ok (h1 := inB h) (xs := [.int ((n + 1 : Nat) : Int)]) (cons_ok (h1 := inB h) (op_ok (x := .int n) (y := .int 1) (un_ok (x := oL n its) rfl (fld0 L)) rfl rfl) rfl) (rng_I (by omega))) ?_ (by rw [List.length_map, List.length_map, rgI_len]; omega)) rfl) ?_)
  · rw [List.map_map]
    exact lc_emb1 .int _ (rgI (n + 1)) fun k hk => ⟨[some (oL n its), some (lI S), none, some (.int k)], rfl, slt_ok (d := lI S) (.inr rfl) rfl rfl⟩
  · exact tup_l (by rw [List.length_map, rgI_len]; omega)
theorem losti_ok (hm : [0, 1].contains mR = false) (L : LayT (tbC ct K)) (H : LayOk n its) (hY : SetN n Y) : fLostI (tbC ct K) mR [oL n its, tI Y] h = .ok (lI (lostI its Y)) h := by
  have sz : (1000 : Nat) ≤ sizeLine := by decide
  have h1 := H.hi
  have h2 := H.few
  refine run_rt rfl ?_ noD_lI
  show sLostI (tbC ct K) mR [some (oL n its), some (tI Y), none, none] (inB h) = _
  unfold sLostI
  refine (cons_nx (expr_ok (call_ok (h1 := inB h) (xs := [oL n its]) rfl (chkL_ok L)))).trans ?_
  refine (cons_nx (expr_ok (call_ok (h1 := inB h) (xs := [oL n its, tI Y]) rfl (chkS_ok L hY h1)))).trans ?_
  refine (cons_nx (asg_ok (meth_r hm L H (X := oth n Y) oth_set rfl (cons_ok (call_ok (h1 := inB h) (xs := [.int n, tI Y]) (cons_ok (h1 := inB h) (un_ok (x := oL n its) rfl (fld0 L)) (cons_ok (h1 := inB h) rfl rfl)) (others_ok (by omega))) rfl)) rfl)).trans ?_
  rw [← lost_rd H]
  exact ret_ok (fil_emb (h := inB h) .int (rgI its.length) (fun x => !decide (x ∈ rd its (oth n Y))) (arg_ok (h1 := inB h) (xs := [.int its.length]) (cons_ok (call_ok (h1 := inB h) (xs := [oL n its]) rfl (lenO_ok L (by omega))) rfl) (rng_I (by omega))) (fun x hx => ⟨[some (oL n its), some (tI Y), some (lI (rd its (oth n Y))), some (.int x)], rfl, op_ok (x := .int x) (y := lI (rd its (oth n Y))) rfl rfl ((in_lI (neg := true)).trans rfl), rfl⟩) (by rw [rgI_len]; omega))
theorem loses_ok (hm : [0, 1].contains mR = false) (L : LayT (tbC ct K)) (H : LayOk n its) (hY : SetN n Y) : fLoses (tbC ct K) mR [oL n its, tI Y] h = .ok (.bl (loseB n its Y)) h := by
  refine run_rt rfl ?_ rfl
  show sLoses (tbC ct K) mR [some (oL n its), some (tI Y)] (inB h) = _
  unfold sLoses
  refine ret_ok ((op_ok (x := lI (lostI its Y)) (y := lI []) (call_ok (h1 := inB h) (xs := [oL n its, tI Y]) rfl (losti_ok hm L H hY)) (lst_ok rfl (Nat.zero_le _)) (eq_lI (neg := true))).trans ?_)
  rw [if_pos rfl, lostI_nil H, Bool.not_not]
theorem ess_ok (hm : [0, 1].contains mR = false) (L : LayT (tbC ct K)) (H : LayOk n its) : fEss (tbC ct K) mR [oL n its] h = .ok (lI ((rgI n).filter fun s => loseB n its [s])) h := by
  have sz : (1000 : Nat) ≤ sizeLine := by decide
  have h1 := H.hi
  refine run_rt rfl ?_ noD_lI
  show sEss (tbC ct K) mR [some (oL n its), none] (inB h) = _
  unfold sEss
  refine (cons_nx (expr_ok (call_ok (h1 := inB h) (xs := [oL n its]) rfl (chkL_ok L)))).trans ?_
  exact ret_ok (fil_emb (h := inB h) .int (rgI n) (fun s => loseB n its [s]) (arg_ok (h1 := inB h) (xs := [.int n]) (cons_ok (un_ok (x := oL n its) rfl (fld0 L)) rfl) (rng_I (by omega))) (fun s hs => ⟨[some (oL n its), some (.int s)], rfl, call_ok (h1 := inB h) (xs := [oL n its, tI [s]]) (cons_ok (h1 := inB h) rfl (cons_ok (h1 := inB h) (tup_ok (xs := [.int s]) rfl (show 1 ≤ sizeLine by decide)) rfl)) (lose_ok hm L H), rfl⟩) (by rw [rgI_len]; omega))
theorem minL_small (hn : n ≤ 8) {p : List Int → Bool} : (minL ((sets n).filter p)).length ≤ 256 := Nat.le_trans (List.length_filter_le _ _) (fil_small hn)
theorem use_ok (hm : [0, 1].contains mR = false) (L : LayT (tbC ct K)) (H : LayOk n its) (ht : h.bs[ti]? = some (.tbl ti)) : fUse (tbC ct K) mR ti [oL n its] h = .ok (lI ((rgI n).filter fun s => !(minL (keeping n its)).any fun X => decide (s ∈ X))) h := by
  have sz : (1000 : Nat) ≤ sizeLine := by decide
  have h1 := H.hi
  have h2 := minL_small (p := keepB its) h1
  refine run_rt rfl ?_ noD_lI
  show sUse (tbC ct K) mR ti [some (oL n its), none, none, none] (inB h) = _
  unfold sUse
  refine (cons_nx (asg_ok (call_ok (h1 := inB h) (xs := [oL n its]) rfl (mkeep_ok hm L H ht)) rfl)).trans ?_
  exact ret_ok (fil_emb (h := inB h) .int (rgI n) (fun s => !(minL (keeping n its)).any fun X => decide (s ∈ X)) (arg_ok (h1 := inB h) (xs := [.int n]) (cons_ok (un_ok (x := oL n its) rfl (fld0 L)) rfl) (rng_I (by omega))) (fun s hs => ⟨[some (oL n its), some (lT (minL (keeping n its))), some (.int s), none], rfl, not_ok (any_emb (h := inB h) (fun X => tI X) (minL (keeping n its)) (fun X => decide (s ∈ X)) rfl (fun X hX => ⟨[some (oL n its), some (lT (minL (keeping n its))), some (.int s), some (tI X)], rfl, op_ok (x := .int s) (y := tI X) rfl rfl ((in_tI (neg := false)).trans rfl)⟩) (by show (minL (keeping n its)).length ≤ _; unfold keeping; omega)), rfl⟩) (by rw [rgI_len]; omega))
end
end VI.Lay
end
section
namespace VI.K21
open PySem PySem.Spec PyProof.Rows L2 VI
def top (i : Nat) : Stmt := PySem.Challenge.pw_copylots_k21_whole_dual.main.body.getD i (.Pass ⟨0, 0, 0, 0⟩)
def tx : Tx := ⟨["all", "any", "bool", "enumerate", "int", "isinstance", "len", "list", "range", "sorted", "tuple", "zip"], [("MOST_SERVERS", 8), ("MOST_ITEMS", 10)], ["Layout", "Dual"], ["servers", "entries", "losses", "keepers", "__eq__", "__len__", "__getitem__", "__iter__", "loads", "held", "partners", "readable", "renamed", "shows", "settles"]⟩
/-! _law_number -/
abbrev d__law_number : Stmt := top 30
def s__law_number (T : Tb) : SS := (ssCons (ssAsg (sIte (sOp (eqD true) (sVar 0) (sLst false saNil)) (sSl false (sVar 0) soNone (soSome (sK (.int 60)))) (sLst false (saCons (sK (.int 7)) saNil))) (sgName 2))
  (ssCons (ssAsg (sOp (addD false) (sOp ixD (sVar 2) (sOp modD (sVar 1) (sCall lenD (saCons (sVar 2) saNil)))) (sOp (mulD false) (sK (.int 31)) (sOp fdivD (sVar 1) (sCall lenD (saCons (sVar 2) saNil))))) (sgName 3))
  (ssCons (ssAsg (sOp (addD false) (sOp (mulD false) (sOp (addD false) (sOp (addD false) (sOp modD (sCall intD (saCons (sVar 3) saNil)) (sK (.int 1000003))) (sOp (mulD false) (sK (.int 977)) (sVar 1))) (sK (.int 13))) (sK (.int 48271))) (sOp modD (sCall intD (saCons (sOp fdivD (sVar 3) (sK (.int 1000003))) saNil)) (sK (.int 999983)))) (sgName 4))
  (ssCons (ssRet (sOp modD (sOp (mulD false) (sOp modD (sVar 4) (sK (.int 2147483647))) (sK (.int 65537))) (sK (.int 4294967291))))
  ssNil))))
def f__law_number (T : Tb) : List D → Bs → R D := runFn 2 5 (s__law_number T)
theorem b__law_number {Z : Cfg} {X : Cx} {W : WX}  (h : XO Z tx 0 ["_law_script", "_law_at", "_law_cells", "_law_cell", "_law_mixed"] (defScope d__law_number) none X W) : PSs X (defBody d__law_number) (tS' Z.T W (s__law_number Z.T)) :=
  (psv_cons (s_set h (by decide +kernel) rfl (pv_ite (t_cmp C_ne h rfl (v_var (i := 0) h (by decide +kernel)) (pv_lst pav_nil)) (v_sl h (v_var (i := 0) h (by decide +kernel)) pov_none (pov_some pv_int)) (pv_lst (pav_cons rfl pv_int pav_nil))))
  (psv_cons (s_set h (by decide +kernel) rfl (v_add h (v_ix h rfl (v_var (i := 2) h (by decide +kernel)) (v_mod h (v_var (i := 1) h (by decide +kernel)) (v_bf B_len h (by decide +kernel) (pav_cons rfl (v_var (i := 2) h (by decide +kernel)) pav_nil)))) (v_mul h pv_int (v_fdiv h (v_var (i := 1) h (by decide +kernel)) (v_bf B_len h (by decide +kernel) (pav_cons rfl (v_var (i := 2) h (by decide +kernel)) pav_nil))))))
  (psv_cons (s_set h (by decide +kernel) rfl (v_add h (v_mul h (v_add h (v_add h (v_mod h (v_bt B_int h (by decide +kernel) (pav_cons rfl (v_var (i := 3) h (by decide +kernel)) pav_nil)) pv_int) (v_mul h pv_int (v_var (i := 1) h (by decide +kernel)))) pv_int) pv_int) (v_mod h (v_bt B_int h (by decide +kernel) (pav_cons rfl (v_fdiv h (v_var (i := 3) h (by decide +kernel)) pv_int) pav_nil)) pv_int)))
  (psv_cons (psv_ret (v_mod h (v_mul h (v_mod h (v_var (i := 4) h (by decide +kernel)) pv_int) pv_int) pv_int))
  psv_nil))))
theorem g__law_number {Z : Cfg} (z : Z.Ok tx) (D : DefAt Z "_law_number" d__law_number)  : FnG Z "_law_number" 1 (f__law_number Z.T) :=
  fn_of (k := 0) (N := ["_law_script", "_law_at", "_law_cells", "_law_cell", "_law_mixed"]) (ps := ["_law_script", "_law_at"]) z D ⟨rfl, rfl, rfl, by decide +kernel, rfl, by decide +kernel, by decide +kernel⟩ (fun _ _ _ _ _ _ us hl => match us, hl with | [_, _], _ => rfl) fun X W h => b__law_number  h
/-! _law_items -/
abbrev d__law_items : Stmt := top 31
def l1__law_items (T : Tb) : SS := (ssCons (ssAsg (sOp (addD false) (sOp (addD false) (sVar 1) (sK (.int 1))) (sOp (mulD false) (sK (.int 10)) (sVar 5))) (sgName 6))
  (ssCons (ssAsg (sLc false [10] (siArg itRng1 (saCons (sVar 2) saNil)) (sgName 10) (sTru (sOp (eqD false) (sOp modD (sCall intD (saCons (sCall (f__law_number T) (saCons (sVar 0) (saCons (sOp (addD false) (sVar 6) (sVar 10)) saNil))) saNil)) (sK (.int 2))) (sK (.int 0)))) (sVar 10)) (sgName 7))
  (ssCons (ssAsg (sIte (sOp (eqD true) (sVar 7) (sLst false saNil)) (sVar 7) (sLst false (saCons (sOp modD (sCall intD (saCons (sCall (f__law_number T) (saCons (sVar 0) (saCons (sOp (addD false) (sVar 6) (sK (.int 8))) saNil))) saNil)) (sVar 2)) saNil))) (sgName 7))
  (ssCons (ssAsg (sCall intD (saCons (sCall (f__law_number T) (saCons (sVar 0) (saCons (sOp (addD false) (sVar 6) (sK (.int 9))) saNil))) saNil)) (sgName 8))
  (ssCons (ssAsg (sIte (sOp (eqD false) (sOp modD (sVar 8) (sK (.int 3))) (sK (.int 0))) (sOp (addD false) (sK (.int 1)) (sOp modD (sOp fdivD (sVar 8) (sK (.int 3))) (sCall lenD (saCons (sVar 7) saNil)))) (sK (.int 1))) (sgName 9))
  (ssCons (ssExpr (sBm appD (sVar 4) (saCons (sTup (saCons (sCall tupleD (saCons (sVar 7) saNil)) (saCons (sVar 9) saNil))) saNil)))
  ssNil))))))
def s__law_items (T : Tb) : SS := (ssCons (ssAsg (sLst true saNil) (sgName 4))
  (ssCons (ssFor (siArg itRng1 (saCons (sOp (addD false) (sK (.int 1)) (sOp modD (sCall intD (saCons (sCall (f__law_number T) (saCons (sVar 0) (saCons (sVar 1) saNil))) saNil)) (sVar 3))) saNil)) (sgName 5)
  (l1__law_items T))
  (ssCons (ssRet (sVar 4))
  ssNil)))
def f__law_items (T : Tb) : List D → Bs → R D := runFn 4 11 (s__law_items T)
theorem b__law_items {Z : Cfg} {X : Cx} {W : WX} (G__law_number : FnG Z "_law_number" 1 (f__law_number Z.T)) (h : XO Z tx 1 ["_law_script", "_law_at", "_law_servers", "_law_most", "_law_found", "_law_row", "_law_first", "_law_holders", "_law_drawn", "_law_need", "_law_server"] (defScope d__law_items) none X W) : PSs X (defBody d__law_items) (tS' Z.T W (s__law_items Z.T)) :=
  (psv_cons (s_set h (by decide +kernel) rfl (pv_lst pav_nil))
  (psv_cons (s_for (own := [5]) h rfl (i_rng1 h (by decide +kernel) (pav_cons rfl (v_add h pv_int (v_mod h (v_bt B_int h (by decide +kernel) (pav_cons rfl (v_call h G__law_number rfl (by decide +kernel) rfl (pav_cons rfl (v_var (i := 0) h (by decide +kernel)) (pav_cons rfl (v_var (i := 1) h (by decide +kernel)) pav_nil))) pav_nil)) (v_var (i := 3) h (by decide +kernel)))) pav_nil)) (g_name h (by decide +kernel) rfl)
  (psv_cons (s_set h (by decide +kernel) rfl (v_add h (v_add h (v_var (i := 1) h (by decide +kernel)) pv_int) (v_mul h pv_int (v_var (i := 5) h (by decide +kernel)))))
  (psv_cons (s_setLc (own := [("_law_server", 10)]) h (by decide +kernel) (by decide +kernel) (i_rng1 h (by decide +kernel) (pav_cons rfl (v_var (i := 2) h (by decide +kernel)) pav_nil)) (fun _ h1 => ⟨(g_name h1 (by decide +kernel) rfl), (ptv_one (t_cmp C_eq h1 rfl (v_mod h1 (v_bt B_int h1 (by decide +kernel) (pav_cons rfl (v_call h1 G__law_number rfl (by decide +kernel) rfl (pav_cons rfl (v_var (i := 0) h1 (by decide +kernel)) (pav_cons rfl (v_add h1 (v_var (i := 6) h1 (by decide +kernel)) (v_var (i := 10) h1 (by decide +kernel))) pav_nil))) pav_nil)) pv_int) pv_int)), (v_var (i := 10) h1 (by decide +kernel))⟩))
  (psv_cons (s_set h (by decide +kernel) rfl (pv_ite (t_cmp C_ne h rfl (v_var (i := 7) h (by decide +kernel)) (pv_lst pav_nil)) (v_var (i := 7) h (by decide +kernel)) (pv_lst (pav_cons rfl (v_mod h (v_bt B_int h (by decide +kernel) (pav_cons rfl (v_call h G__law_number rfl (by decide +kernel) rfl (pav_cons rfl (v_var (i := 0) h (by decide +kernel)) (pav_cons rfl (v_add h (v_var (i := 6) h (by decide +kernel)) pv_int) pav_nil))) pav_nil)) (v_var (i := 2) h (by decide +kernel))) pav_nil))))
  (psv_cons (s_set h (by decide +kernel) rfl (v_bt B_int h (by decide +kernel) (pav_cons rfl (v_call h G__law_number rfl (by decide +kernel) rfl (pav_cons rfl (v_var (i := 0) h (by decide +kernel)) (pav_cons rfl (v_add h (v_var (i := 6) h (by decide +kernel)) pv_int) pav_nil))) pav_nil)))
  (psv_cons (s_set h (by decide +kernel) rfl (pv_ite (t_cmp C_eq h rfl (v_mod h (v_var (i := 8) h (by decide +kernel)) pv_int) pv_int) (v_add h pv_int (v_mod h (v_fdiv h (v_var (i := 8) h (by decide +kernel)) pv_int) (v_bf B_len h (by decide +kernel) (pav_cons rfl (v_var (i := 7) h (by decide +kernel)) pav_nil)))) pv_int))
  (psv_cons (psv_expr rfl (v_bm M_append h (by decide +kernel) (v_var (i := 4) h (by decide +kernel)) (pav_cons rfl (pv_tup (pav_cons rfl (v_bt B_tuple h (by decide +kernel) (pav_cons rfl (v_var (i := 7) h (by decide +kernel)) pav_nil)) (pav_cons rfl (v_var (i := 9) h (by decide +kernel)) pav_nil))) pav_nil)))
  psv_nil)))))))
  (psv_cons (psv_ret (v_var (i := 4) h (by decide +kernel)))
  psv_nil)))
theorem g__law_items {Z : Cfg} (z : Z.Ok tx) (D : DefAt Z "_law_items" d__law_items) (G__law_number : FnG Z "_law_number" 1 (f__law_number Z.T)) : FnG Z "_law_items" 2 (f__law_items Z.T) :=
  fn_of (k := 1) (N := ["_law_script", "_law_at", "_law_servers", "_law_most", "_law_found", "_law_row", "_law_first", "_law_holders", "_law_drawn", "_law_need", "_law_server"]) (ps := ["_law_script", "_law_at", "_law_servers", "_law_most"]) z D ⟨rfl, rfl, rfl, by decide +kernel, rfl, by decide +kernel, by decide +kernel⟩ (fun _ _ _ _ _ _ us hl => match us, hl with | [_, _, _, _], _ => rfl) fun X W h => b__law_items G__law_number h
/-! is_number -/
abbrev d_is_number : Stmt := top 11
def s_is_number (T : Tb) : SS := (ssCons (ssRet (sAnd (sUn (isiD T 2) (sVar 0)) (sAnd (sNot (sUn (isiD T 1) (sVar 0))) (sChn leS leS (sVar 1) (sVar 0) (sVar 2)))))
  ssNil)
def f_is_number (T : Tb) : List D → Bs → R D := runFn 3 3 (s_is_number T)
theorem b_is_number {Z : Cfg} {X : Cx} {W : WX}  (h : XO Z tx 0 ["thing", "least", "most"] (defScope d_is_number) none X W) : PSs X (defBody d_is_number) (tS' Z.T W (s_is_number Z.T)) :=
  (psv_cons (psv_ret (pv_and (v_isi h (by decide +kernel) (N_int h (by decide +kernel)) (v_var (i := 0) h (by decide +kernel))) (pv_and (pv_not (v_isi h (by decide +kernel) (N_bool h (by decide +kernel)) (v_var (i := 0) h (by decide +kernel)))) (pv_one (v_chn C_leS C_leS h rfl (v_var (i := 1) h (by decide +kernel)) (v_var (i := 0) h (by decide +kernel)) (v_var (i := 2) h (by decide +kernel)))))))
  psv_nil)
theorem g_is_number {Z : Cfg} (z : Z.Ok tx) (D : DefAt Z "is_number" d_is_number)  : FnG Z "is_number" 1 (f_is_number Z.T) :=
  fn_of (k := 0) (N := ["thing", "least", "most"]) (ps := ["thing", "least", "most"]) z D ⟨rfl, rfl, rfl, by decide +kernel, rfl, by decide +kernel, by decide +kernel⟩ (fun _ _ _ _ _ _ us hl => match us, hl with | [_, _, _], _ => rfl) fun X W h => b_is_number  h
/-! is_set -/
abbrev d_is_set : Stmt := top 12
def s_is_set (T : Tb) : SS := (ssCons (ssIf (sOr (sNot (sUn (isiD T 4) (sVar 0))) (sNot (sCall allD' (saCons (sLc false [4] (siSeq (sVar 0)) (sgName 4) (fun _ h => .ok true h) (sCall (f_is_number T) (saCons (sVar 4) (saCons (sK (.int 0)) (saCons (sOp subD (sVar 1) (sK (.int 1))) saNil))))) saNil))))
  (ssCons (ssRet (sK (.bl false)))
  ssNil)
  ssNil)
  (ssCons (ssRet (sCall allD' (saCons (sLc false [2, 3] (siArg itZipX (saCons (sVar 0) (saCons (sSl false (sVar 0) (soSome (sK (.int 1))) soNone) saNil))) (sgTup 2 (sgCons (sgName 2) (sgCons (sgName 3) sgNil))) (fun _ h => .ok true h) (sOp ltS (sVar 2) (sVar 3))) saNil)))
  ssNil))
def f_is_set (T : Tb) : List D → Bs → R D := runFn 2 5 (s_is_set T)
theorem b_is_set {Z : Cfg} {X : Cx} {W : WX} (G_is_number : FnG Z "is_number" 1 (f_is_number Z.T)) (h : XO Z tx 1 ["thing", "servers", "one", "other", "server"] (defScope d_is_set) none X W) : PSs X (defBody d_is_set) (tS' Z.T W (s_is_set Z.T)) :=
  (psv_cons (psv_if (PW.pt (pvt_or (pvt_not (pvt_val rfl (v_isi h (by decide +kernel) (N_tuple h (by decide +kernel)) (v_var (i := 0) h (by decide +kernel))))) (pvt_or1 (pvt_not (pvt_val rfl (v_bf B_all h (by decide +kernel) (pav_cons rfl (v_lc (own := [("server", 4)]) h (by decide +kernel) (i_seq h (v_var (i := 0) h (by decide +kernel))) (fun _ h1 => ⟨(g_name h1 (by decide +kernel) rfl), ptv_nil, (v_call h1 G_is_number rfl (by decide +kernel) rfl (pav_cons rfl (v_var (i := 4) h1 (by decide +kernel)) (pav_cons rfl pv_int (pav_cons rfl (v_sub h1 (v_var (i := 1) h1 (by decide +kernel)) pv_int) pav_nil))))⟩)) pav_nil)))))))
  (psv_cons (psv_ret pv_bl)
  psv_nil)
  psv_nil)
  (psv_cons (psv_ret (v_bf B_all h (by decide +kernel) (pav_cons rfl (v_lc (own := [("one", 2), ("other", 3)]) h (by decide +kernel) (i_zipX h (by decide +kernel) (pav_cons rfl (v_var (i := 0) h (by decide +kernel)) (pav_cons rfl (v_sl h (v_var (i := 0) h (by decide +kernel)) (pov_some pv_int) pov_none) pav_nil))) (fun _ h1 => ⟨(g_tup h1 rfl (pgsv_cons rfl (g_name h1 (by decide +kernel) rfl) (pgsv_cons rfl (g_name h1 (by decide +kernel) rfl) pgsv_nil))), ptv_nil, (v_cmp C_ltS h1 rfl (v_var (i := 2) h1 (by decide +kernel)) (v_var (i := 3) h1 (by decide +kernel)))⟩)) pav_nil)))
  psv_nil))
theorem g_is_set {Z : Cfg} (z : Z.Ok tx) (D : DefAt Z "is_set" d_is_set) (G_is_number : FnG Z "is_number" 1 (f_is_number Z.T)) : FnG Z "is_set" 2 (f_is_set Z.T) :=
  fn_of (k := 1) (N := ["thing", "servers", "one", "other", "server"]) (ps := ["thing", "servers"]) z D ⟨rfl, rfl, rfl, by decide +kernel, rfl, by decide +kernel, by decide +kernel⟩ (fun _ _ _ _ _ _ us hl => match us, hl with | [_, _], _ => rfl) fun X W h => b_is_set G_is_number h
/-! is_item -/
abbrev d_is_item : Stmt := top 13
def s_is_item (T : Tb) : SS := (ssCons (ssIf (sOr (sNot (sUn (isiD T 4) (sVar 0))) (sOr (sOp (eqD true) (sCall lenD (saCons (sVar 0) saNil)) (sK (.int 2))) (sNot (sCall (f_is_set T) (saCons (sOp ixD (sVar 0) (sK (.int 0))) (saCons (sVar 1) saNil))))))
  (ssCons (ssRet (sK (.bl false)))
  ssNil)
  ssNil)
  (ssCons (ssRet (sCall (f_is_number T) (saCons (sOp ixD (sVar 0) (sK (.int 1))) (saCons (sK (.int 1)) (saCons (sCall lenD (saCons (sOp ixD (sVar 0) (sK (.int 0))) saNil)) saNil)))))
  ssNil))
def f_is_item (T : Tb) : List D → Bs → R D := runFn 2 2 (s_is_item T)
theorem b_is_item {Z : Cfg} {X : Cx} {W : WX} (G_is_number : FnG Z "is_number" 1 (f_is_number Z.T)) (G_is_set : FnG Z "is_set" 2 (f_is_set Z.T)) (h : XO Z tx 2 ["thing", "servers"] (defScope d_is_item) none X W) : PSs X (defBody d_is_item) (tS' Z.T W (s_is_item Z.T)) :=
  (psv_cons (psv_if (PW.pt (pvt_or (pvt_not (pvt_val rfl (v_isi h (by decide +kernel) (N_tuple h (by decide +kernel)) (v_var (i := 0) h (by decide +kernel))))) (pvt_or (t_cmp C_ne h rfl (v_bf B_len h (by decide +kernel) (pav_cons rfl (v_var (i := 0) h (by decide +kernel)) pav_nil)) pv_int) (pvt_or1 (pvt_not (pvt_val rfl (v_call h G_is_set rfl (by decide +kernel) rfl (pav_cons rfl (v_ix h rfl (v_var (i := 0) h (by decide +kernel)) pv_int) (pav_cons rfl (v_var (i := 1) h (by decide +kernel)) pav_nil)))))))))
  (psv_cons (psv_ret pv_bl)
  psv_nil)
  psv_nil)
  (psv_cons (psv_ret (v_call h G_is_number rfl (by decide +kernel) rfl (pav_cons rfl (v_ix h rfl (v_var (i := 0) h (by decide +kernel)) pv_int) (pav_cons rfl pv_int (pav_cons rfl (v_bf B_len h (by decide +kernel) (pav_cons rfl (v_ix h rfl (v_var (i := 0) h (by decide +kernel)) pv_int) pav_nil)) pav_nil)))))
  psv_nil))
theorem g_is_item {Z : Cfg} (z : Z.Ok tx) (D : DefAt Z "is_item" d_is_item) (G_is_number : FnG Z "is_number" 1 (f_is_number Z.T)) (G_is_set : FnG Z "is_set" 2 (f_is_set Z.T)) : FnG Z "is_item" 3 (f_is_item Z.T) :=
  fn_of (k := 2) (N := ["thing", "servers"]) (ps := ["thing", "servers"]) z D ⟨rfl, rfl, rfl, by decide +kernel, rfl, by decide +kernel, by decide +kernel⟩ (fun _ _ _ _ _ _ us hl => match us, hl with | [_, _], _ => rfl) fun X W h => b_is_item G_is_number G_is_set h
/-! Layout_init -/
abbrev d_Layout_init : Stmt := ((clsBody (top 14)).getD 0 (.Pass ⟨0, 0, 0, 0⟩))
def l1_Layout_init (T : Tb) : SS := (ssCons (ssIf (sNot (sCall (f_is_item T) (saCons (sVar 4) (saCons (sVar 1) saNil))))
  (ssCons (fun _ _ => .no)
  ssNil)
  ssNil)
  ssNil)
def s_Layout_init (T : Tb) : SS := (ssCons (ssIf (sNot (sCall (f_is_number T) (saCons (sVar 1) (saCons (sK (.int 1)) (saCons (sK (.int 8)) saNil)))))
  (ssCons (fun _ _ => .no)
  ssNil)
  ssNil)
  (ssCons (ssIf (sOr (sNot (sUn (isiD2 T 5 4) (sVar 2))) (sNot (sChn leS leS (sK (.int 1)) (sCall lenD (saCons (sVar 2) saNil)) (sK (.int 10)))))
  (ssCons (fun _ _ => .no)
  ssNil)
  ssNil)
  (ssCons (ssFor (siArg itEnum2 (saCons (sVar 2) saNil)) (sgTup 2 (sgCons (sgName 3) (sgCons (sgName 4) sgNil)))
  (l1_Layout_init T))
  (ssCons (ssFld T 0 (sVar 0) (sVar 1))
  (ssCons (ssFld T 1 (sVar 0) (sCall tupleD (saCons (sVar 2) saNil)))
  ssNil)))))
def f_Layout_init (T : Tb) : List D → Bs → R D := runFn 3 5 (s_Layout_init T)
theorem b_Layout_init {Z : Cfg} {X : Cx} {W : WX} (G_is_number : FnG Z "is_number" 1 (f_is_number Z.T)) (G_is_item : FnG Z "is_item" 3 (f_is_item Z.T)) (h : XO Z tx 3 ["self", "servers", "items", "index", "item"] (defScope d_Layout_init) none X W) : PSs X (defBody d_Layout_init) (tS' Z.T W (s_Layout_init Z.T)) :=
  (psv_cons (psv_if (pvt_not (pvt_val rfl (v_call h G_is_number rfl (by decide +kernel) rfl (pav_cons rfl (v_var (i := 1) h (by decide +kernel)) (pav_cons rfl pv_int (pav_cons rfl (v_co h (by decide +kernel) rfl) pav_nil))))))
  (psv_cons pvs_never
  psv_nil)
  psv_nil)
  (psv_cons (psv_if (PW.pt (pvt_or (pvt_not (pvt_val rfl (v_isi2 h (by decide +kernel) (N_list h (by decide +kernel)) (N_tuple h (by decide +kernel)) (v_var (i := 2) h (by decide +kernel))))) (pvt_or1 (pvt_not (t_chn C_leS C_leS h rfl pv_int (v_bf B_len h (by decide +kernel) (pav_cons rfl (v_var (i := 2) h (by decide +kernel)) pav_nil)) (v_co h (by decide +kernel) rfl))))))
  (psv_cons pvs_never
  psv_nil)
  psv_nil)
  (psv_cons (s_for (own := [3, 4]) h rfl (i_enum2 h (by decide +kernel) (pav_cons rfl (v_var (i := 2) h (by decide +kernel)) pav_nil)) (g_tup h rfl (pgsv_cons rfl (g_name h (by decide +kernel) rfl) (pgsv_cons rfl (g_name h (by decide +kernel) rfl) pgsv_nil)))
  (psv_cons (psv_if (pvt_not (pvt_val rfl (v_call h G_is_item rfl (by decide +kernel) rfl (pav_cons rfl (v_var (i := 4) h (by decide +kernel)) (pav_cons rfl (v_var (i := 1) h (by decide +kernel)) pav_nil)))))
  (psv_cons pvs_never
  psv_nil)
  psv_nil)
  psv_nil))
  (psv_cons (s_fld (i := 0) h rfl (v_var (i := 0) h (by decide +kernel)) (v_var (i := 1) h (by decide +kernel)))
  (psv_cons (s_fld (i := 1) h rfl (v_var (i := 0) h (by decide +kernel)) (v_bt B_tuple h (by decide +kernel) (pav_cons rfl (v_var (i := 2) h (by decide +kernel)) pav_nil)))
  psv_nil)))))
theorem g_Layout_init {Z : Cfg} (z : Z.Ok tx) (D : IDef Z "Layout" 0 "Layout.__init__" d_Layout_init) (G_is_number : FnG Z "is_number" 1 (f_is_number Z.T)) (G_is_item : FnG Z "is_item" 3 (f_is_item Z.T)) : MkG Z "Layout" 0 4 (f_Layout_init Z.T) :=
  mk_of (k := 3) (N := ["self", "servers", "items", "index", "item"]) (ps := ["self", "servers", "items"]) z D ⟨rfl, rfl, rfl, by decide +kernel, rfl, by decide +kernel, by decide +kernel⟩ (fun _ _ _ _ _ _ us hl => match us, hl with | [_, _, _], _ => rfl) fun X W h => b_Layout_init G_is_number G_is_item h
/-! _law_sets -/
abbrev d__law_sets : Stmt := top 32
def l1__law_sets (T : Tb) : SS := (ssCons (ssAsg (sOp (addD false) (sVar 1) (sLc false [3] (siSeq (sVar 1)) (sgName 3) (fun _ h => .ok true h) (sOp (addD false) (sVar 3) (sTup (saCons (sVar 2) saNil))))) (sgName 1))
  ssNil)
def s__law_sets (T : Tb) : SS := (ssCons (ssAsg (sLst false (saCons (sTup saNil) saNil)) (sgName 1))
  (ssCons (ssFor (siArg itRng1 (saCons (sVar 0) saNil)) (sgName 2)
  (l1__law_sets T))
  (ssCons (ssRet (sUn (sortKD 0 false) (sVar 1)))
  ssNil)))
def f__law_sets (T : Tb) : List D → Bs → R D := runFn 1 4 (s__law_sets T)
theorem b__law_sets {Z : Cfg} {X : Cx} {W : WX}  (L : LX Z 0 X) (h : XO Z tx 3 ["_law_servers", "_law_found", "_law_server", "_law_some"] (defScope d__law_sets) none X W) : PSs X (defBody d__law_sets) (tS' Z.T W (s__law_sets Z.T)) :=
  (psv_cons (s_set h (by decide +kernel) rfl (pv_lst (pav_cons rfl (pv_tup pav_nil) pav_nil)))
  (psv_cons (s_for (own := [2]) h rfl (i_rng1 h (by decide +kernel) (pav_cons rfl (v_var (i := 0) h (by decide +kernel)) pav_nil)) (g_name h (by decide +kernel) rfl)
  (psv_cons (s_set h (by decide +kernel) rfl (v_add h (v_var (i := 1) h (by decide +kernel)) (v_lc (own := [("_law_some", 3)]) h (by decide +kernel) (i_seq h (v_var (i := 1) h (by decide +kernel))) (fun _ h1 => ⟨(g_name h1 (by decide +kernel) rfl), ptv_nil, (v_add h1 (v_var (i := 3) h1 (by decide +kernel)) (pv_tup (pav_cons rfl (v_var (i := 2) h1 (by decide +kernel)) pav_nil)))⟩))))
  psv_nil))
  (psv_cons (psv_ret (v_sortK (ti := 0) h L rfl (by decide +kernel) ⟨rfl, rfl, rfl, by decide +kernel, rfl, by decide +kernel, by decide +kernel⟩ rfl rfl (by decide +kernel) (fun _ => rfl) (by decide +kernel) (fun _ _ _ _ _ => rfl) rfl (v_var (i := 1) h (by decide +kernel))))
  psv_nil)))
theorem g__law_sets {Z : Cfg} (z : Z.Ok tx) (D : DefT Z "_law_sets" 0 d__law_sets)  : FnG Z "_law_sets" 4 (f__law_sets Z.T) :=
  fn_ofT (k := 3) (N := ["_law_servers", "_law_found", "_law_server", "_law_some"]) (ps := ["_law_servers"]) z D ⟨rfl, rfl, rfl, by decide +kernel, rfl, by decide +kernel, by decide +kernel⟩ (fun _ _ _ _ _ _ us hl => match us, hl with | [_], _ => rfl) fun X W L h => b__law_sets  L h
/-! Dual_init -/
abbrev d_Dual_init : Stmt := ((clsBody (top 21)).getD 0 (.Pass ⟨0, 0, 0, 0⟩))
def s_Dual_init (T : Tb) : SS := (ssCons (ssFld T 2 (sVar 0) (sLc false [3] (siSeq (sVar 1)) (sgName 3) (fun _ h => .ok true h) (sCall tupleD (saCons (sVar 3) saNil))))
  (ssCons (ssFld T 3 (sVar 0) (sLc false [3] (siSeq (sVar 2)) (sgName 3) (fun _ h => .ok true h) (sCall tupleD (saCons (sVar 3) saNil))))
  ssNil))
def f_Dual_init (T : Tb) : List D → Bs → R D := runFn 3 4 (s_Dual_init T)
theorem b_Dual_init {Z : Cfg} {X : Cx} {W : WX}  (h : XO Z tx 0 ["self", "losses", "keepers", "some"] (defScope d_Dual_init) none X W) : PSs X (defBody d_Dual_init) (tS' Z.T W (s_Dual_init Z.T)) :=
  (psv_cons (s_fld (i := 2) h rfl (v_var (i := 0) h (by decide +kernel)) (v_lc (own := [("some", 3)]) h (by decide +kernel) (i_seq h (v_var (i := 1) h (by decide +kernel))) (fun _ h1 => ⟨(g_name h1 (by decide +kernel) rfl), ptv_nil, (v_bt B_tuple h1 (by decide +kernel) (pav_cons rfl (v_var (i := 3) h1 (by decide +kernel)) pav_nil))⟩)))
  (psv_cons (s_fld (i := 3) h rfl (v_var (i := 0) h (by decide +kernel)) (v_lc (own := [("some", 3)]) h (by decide +kernel) (i_seq h (v_var (i := 2) h (by decide +kernel))) (fun _ h1 => ⟨(g_name h1 (by decide +kernel) rfl), ptv_nil, (v_bt B_tuple h1 (by decide +kernel) (pav_cons rfl (v_var (i := 3) h1 (by decide +kernel)) pav_nil))⟩)))
  psv_nil))
theorem g_Dual_init {Z : Cfg} (z : Z.Ok tx) (D : IDef Z "Dual" 1 "Dual.__init__" d_Dual_init)  : MkG Z "Dual" 1 1 (f_Dual_init Z.T) :=
  mk_of (k := 0) (N := ["self", "losses", "keepers", "some"]) (ps := ["self", "losses", "keepers"]) z D ⟨rfl, rfl, rfl, by decide +kernel, rfl, by decide +kernel, by decide +kernel⟩ (fun _ _ _ _ _ _ us hl => match us, hl with | [_, _, _], _ => rfl) fun X W h => b_Dual_init  h
/-! check_layout -/
abbrev d_check_layout : Stmt := top 15
def s_check_layout (T : Tb) : SS := (ssCons (ssIf (sNot (sUn (isiD T 7) (sVar 0)))
  (ssCons (fun _ _ => .no)
  ssNil)
  ssNil)
  ssNil)
def f_check_layout (T : Tb) : List D → Bs → R D := runFn 1 1 (s_check_layout T)
theorem b_check_layout {Z : Cfg} {X : Cx} {W : WX}  (h : XO Z tx 0 ["layout"] (defScope d_check_layout) none X W) : PSs X (defBody d_check_layout) (tS' Z.T W (s_check_layout Z.T)) :=
  (psv_cons (psv_if (pvt_not (pvt_val rfl (v_isi h (by decide +kernel) (N_own (i := 0) h rfl (by decide +kernel)) (v_var (i := 0) h (by decide +kernel)))))
  (psv_cons pvs_never
  psv_nil)
  psv_nil)
  psv_nil)
theorem g_check_layout {Z : Cfg} (z : Z.Ok tx) (D : DefAt Z "check_layout" d_check_layout)  : FnG Z "check_layout" 1 (f_check_layout Z.T) :=
  fn_of (k := 0) (N := ["layout"]) (ps := ["layout"]) z D ⟨rfl, rfl, rfl, by decide +kernel, rfl, by decide +kernel, by decide +kernel⟩ (fun _ _ _ _ _ _ us hl => match us, hl with | [_], _ => rfl) fun X W h => b_check_layout  h
/-! is_within -/
abbrev d_is_within : Stmt := top 22
def s_is_within (T : Tb) : SS := (ssCons (ssRet (sCall allD' (saCons (sLc false [2] (siSeq (sVar 0)) (sgName 2) (fun _ h => .ok true h) (sOp (inD false) (sVar 2) (sVar 1))) saNil)))
  ssNil)
def f_is_within (T : Tb) : List D → Bs → R D := runFn 2 3 (s_is_within T)
theorem b_is_within {Z : Cfg} {X : Cx} {W : WX}  (h : XO Z tx 0 ["one", "other", "server"] (defScope d_is_within) none X W) : PSs X (defBody d_is_within) (tS' Z.T W (s_is_within Z.T)) :=
  (psv_cons (psv_ret (v_bf B_all h (by decide +kernel) (pav_cons rfl (v_lc (own := [("server", 2)]) h (by decide +kernel) (i_seq h (v_var (i := 0) h (by decide +kernel))) (fun _ h1 => ⟨(g_name h1 (by decide +kernel) rfl), ptv_nil, (v_cmp C_in h1 rfl (v_var (i := 2) h1 (by decide +kernel)) (v_var (i := 1) h1 (by decide +kernel)))⟩)) pav_nil)))
  psv_nil)
theorem g_is_within {Z : Cfg} (z : Z.Ok tx) (D : DefAt Z "is_within" d_is_within)  : FnG Z "is_within" 1 (f_is_within Z.T) :=
  fn_of (k := 0) (N := ["one", "other", "server"]) (ps := ["one", "other"]) z D ⟨rfl, rfl, rfl, by decide +kernel, rfl, by decide +kernel, by decide +kernel⟩ (fun _ _ _ _ _ _ us hl => match us, hl with | [_, _], _ => rfl) fun X W h => b_is_within  h
/-! minimal -/
abbrev d_minimal : Stmt := top 25
def l1_minimal (T : Tb) : SS := (ssCons (ssIf (sNot (sCall anyD' (saCons (sLc false [3] (siSeq (sVar 1)) (sgName 3) (fun _ h => .ok true h) (sCall (f_is_within T) (saCons (sVar 3) (saCons (sVar 2) saNil)))) saNil)))
  (ssCons (ssExpr (sBm appD (sVar 1) (saCons (sVar 2) saNil)))
  ssNil)
  ssNil)
  ssNil)
def s_minimal (T : Tb) : SS := (ssCons (ssAsg (sLst true saNil) (sgName 1))
  (ssCons (ssFor (siSeq (sVar 0)) (sgName 2)
  (l1_minimal T))
  (ssCons (ssRet (sVar 1))
  ssNil)))
def f_minimal (T : Tb) : List D → Bs → R D := runFn 1 4 (s_minimal T)
theorem b_minimal {Z : Cfg} {X : Cx} {W : WX} (G_is_within : FnG Z "is_within" 1 (f_is_within Z.T)) (h : XO Z tx 1 ["sets", "found", "some", "other"] (defScope d_minimal) none X W) : PSs X (defBody d_minimal) (tS' Z.T W (s_minimal Z.T)) :=
  (psv_cons (s_set h (by decide +kernel) rfl (pv_lst pav_nil))
  (psv_cons (s_for (own := [2]) h rfl (i_seq h (v_var (i := 0) h (by decide +kernel))) (g_name h (by decide +kernel) rfl)
  (psv_cons (psv_if (pvt_not (pvt_val rfl (v_bf B_any h (by decide +kernel) (pav_cons rfl (v_lc (own := [("other", 3)]) h (by decide +kernel) (i_seq h (v_var (i := 1) h (by decide +kernel))) (fun _ h1 => ⟨(g_name h1 (by decide +kernel) rfl), ptv_nil, (v_call h1 G_is_within rfl (by decide +kernel) rfl (pav_cons rfl (v_var (i := 3) h1 (by decide +kernel)) (pav_cons rfl (v_var (i := 2) h1 (by decide +kernel)) pav_nil)))⟩)) pav_nil))))
  (psv_cons (psv_expr rfl (v_bm M_append h (by decide +kernel) (v_var (i := 1) h (by decide +kernel)) (pav_cons rfl (v_var (i := 2) h (by decide +kernel)) pav_nil)))
  psv_nil)
  psv_nil)
  psv_nil))
  (psv_cons (psv_ret (v_var (i := 1) h (by decide +kernel)))
  psv_nil)))
theorem g_minimal {Z : Cfg} (z : Z.Ok tx) (D : DefAt Z "minimal" d_minimal) (G_is_within : FnG Z "is_within" 1 (f_is_within Z.T)) : FnG Z "minimal" 2 (f_minimal Z.T) :=
  fn_of (k := 1) (N := ["sets", "found", "some", "other"]) (ps := ["sets"]) z D ⟨rfl, rfl, rfl, by decide +kernel, rfl, by decide +kernel, by decide +kernel⟩ (fun _ _ _ _ _ _ us hl => match us, hl with | [_], _ => rfl) fun X W h => b_minimal G_is_within h
/-! sets_of -/
abbrev d_sets_of : Stmt := top 19
def l1_sets_of (T : Tb) : SS := (ssCons (ssAsg (sLst false (saStar (sVar 1) (saStar (sLc false [3] (siSeq (sVar 1)) (sgName 3) (fun _ h => .ok true h) (sTup (saStar (sVar 3) (saCons (sVar 2) saNil)))) saNil))) (sgName 1))
  ssNil)
def s_sets_of (T : Tb) : SS := (ssCons (ssAsg (sLst false (saCons (sTup saNil) saNil)) (sgName 1))
  (ssCons (ssFor (siArg itRng1 (saCons (sVar 0) saNil)) (sgName 2)
  (l1_sets_of T))
  (ssCons (ssRet (sUn (sortKD 1 false) (sVar 1)))
  ssNil)))
def f_sets_of (T : Tb) : List D → Bs → R D := runFn 1 4 (s_sets_of T)
theorem b_sets_of {Z : Cfg} {X : Cx} {W : WX}  (L : LX Z 1 X) (h : XO Z tx 3 ["servers", "found", "server", "some"] (defScope d_sets_of) none X W) : PSs X (defBody d_sets_of) (tS' Z.T W (s_sets_of Z.T)) :=
  (psv_cons (s_set h (by decide +kernel) rfl (pv_lst (pav_cons rfl (pv_tup pav_nil) pav_nil)))
  (psv_cons (s_for (own := [2]) h rfl (i_rng1 h (by decide +kernel) (pav_cons rfl (v_var (i := 0) h (by decide +kernel)) pav_nil)) (g_name h (by decide +kernel) rfl)
  (psv_cons (s_set h (by decide +kernel) rfl (pv_lst (pav_star h.K (v_var (i := 1) h (by decide +kernel)) (pav_star h.K (v_lc (own := [("some", 3)]) h (by decide +kernel) (i_seq h (v_var (i := 1) h (by decide +kernel))) (fun _ h1 => ⟨(g_name h1 (by decide +kernel) rfl), ptv_nil, (pv_tup (pav_star h1.K (v_var (i := 3) h1 (by decide +kernel)) (pav_cons rfl (v_var (i := 2) h1 (by decide +kernel)) pav_nil)))⟩)) pav_nil))))
  psv_nil))
  (psv_cons (psv_ret (v_sortK (ti := 1) h L rfl (by decide +kernel) ⟨rfl, rfl, rfl, by decide +kernel, rfl, by decide +kernel, by decide +kernel⟩ rfl rfl (by decide +kernel) (fun _ => rfl) (by decide +kernel) (fun _ _ _ _ _ => rfl) rfl (v_var (i := 1) h (by decide +kernel))))
  psv_nil)))
theorem g_sets_of {Z : Cfg} (z : Z.Ok tx) (D : DefT Z "sets_of" 1 d_sets_of)  : FnG Z "sets_of" 4 (f_sets_of Z.T) :=
  fn_ofT (k := 3) (N := ["servers", "found", "server", "some"]) (ps := ["servers"]) z D ⟨rfl, rfl, rfl, by decide +kernel, rfl, by decide +kernel, by decide +kernel⟩ (fun _ _ _ _ _ _ us hl => match us, hl with | [_], _ => rfl) fun X W L h => b_sets_of  L h
/-! check_set -/
abbrev d_check_set : Stmt := top 16
def s_check_set (T : Tb) : SS := (ssCons (ssIf (sNot (sCall (f_is_set T) (saCons (sVar 1) (saCons (sUn (fldD T 0) (sVar 0)) saNil))))
  (ssCons (fun _ _ => .no)
  ssNil)
  ssNil)
  ssNil)
def f_check_set (T : Tb) : List D → Bs → R D := runFn 2 2 (s_check_set T)
theorem b_check_set {Z : Cfg} {X : Cx} {W : WX} (G_is_set : FnG Z "is_set" 2 (f_is_set Z.T)) (h : XO Z tx 2 ["layout", "servers"] (defScope d_check_set) none X W) : PSs X (defBody d_check_set) (tS' Z.T W (s_check_set Z.T)) :=
  (psv_cons (psv_if (pvt_not (pvt_val rfl (v_call h G_is_set rfl (by decide +kernel) rfl (pav_cons rfl (v_var (i := 1) h (by decide +kernel)) (pav_cons rfl (v_fld (i := 0) h rfl rfl (v_var (i := 0) h (by decide +kernel))) pav_nil)))))
  (psv_cons pvs_never
  psv_nil)
  psv_nil)
  psv_nil)
theorem g_check_set {Z : Cfg} (z : Z.Ok tx) (D : DefAt Z "check_set" d_check_set) (G_is_set : FnG Z "is_set" 2 (f_is_set Z.T)) : FnG Z "check_set" 3 (f_check_set Z.T) :=
  fn_of (k := 2) (N := ["layout", "servers"]) (ps := ["layout", "servers"]) z D ⟨rfl, rfl, rfl, by decide +kernel, rfl, by decide +kernel, by decide +kernel⟩ (fun _ _ _ _ _ _ us hl => match us, hl with | [_, _], _ => rfl) fun X W h => b_check_set G_is_set h
/-! common -/
abbrev d_common : Stmt := top 17
def s_common (T : Tb) : SS := (ssCons (ssRet (sCall tupleD (saCons (sLc false [2] (siSeq (sVar 0)) (sgName 2) (sTru (sOp (inD false) (sVar 2) (sVar 1))) (sVar 2)) saNil)))
  ssNil)
def f_common (T : Tb) : List D → Bs → R D := runFn 2 3 (s_common T)
theorem b_common {Z : Cfg} {X : Cx} {W : WX}  (h : XO Z tx 0 ["one", "other", "server"] (defScope d_common) none X W) : PSs X (defBody d_common) (tS' Z.T W (s_common Z.T)) :=
  (psv_cons (psv_ret (v_bt B_tuple h (by decide +kernel) (pav_cons rfl (v_lc (own := [("server", 2)]) h (by decide +kernel) (i_seq h (v_var (i := 0) h (by decide +kernel))) (fun _ h1 => ⟨(g_name h1 (by decide +kernel) rfl), (ptv_one (t_cmp C_in h1 rfl (v_var (i := 2) h1 (by decide +kernel)) (v_var (i := 1) h1 (by decide +kernel)))), (v_var (i := 2) h1 (by decide +kernel))⟩)) pav_nil)))
  psv_nil)
theorem g_common {Z : Cfg} (z : Z.Ok tx) (D : DefAt Z "common" d_common)  : FnG Z "common" 1 (f_common Z.T) :=
  fn_of (k := 0) (N := ["one", "other", "server"]) (ps := ["one", "other"]) z D ⟨rfl, rfl, rfl, by decide +kernel, rfl, by decide +kernel, by decide +kernel⟩ (fun _ _ _ _ _ _ us hl => match us, hl with | [_, _], _ => rfl) fun X W h => b_common  h
/-! Layout_readable -/
abbrev d_Layout_readable : Stmt := ((clsBody (top 14)).getD 8 (.Pass ⟨0, 0, 0, 0⟩))
def s_Layout_readable (T : Tb) : SS := (ssCons (ssExpr (sCall (f_check_set T) (saCons (sVar 0) (saCons (sVar 1) saNil))))
  (ssCons (ssRet (sLc false [2, 3] (siArg itEnum2 (saCons (sUn (fldD T 1) (sVar 0)) saNil)) (sgTup 2 (sgCons (sgName 2) (sgCons (sgName 3) sgNil))) (sTru (sOp geS (sCall lenD (saCons (sCall (f_common T) (saCons (sOp ixD (sVar 3) (sK (.int 0))) (saCons (sVar 1) saNil))) saNil)) (sOp ixD (sVar 3) (sK (.int 1))))) (sVar 2)))
  ssNil))
def f_Layout_readable (T : Tb) : List D → Bs → R D := runFn 2 4 (s_Layout_readable T)
theorem b_Layout_readable {Z : Cfg} {X : Cx} {W : WX} (G_check_set : FnG Z "check_set" 3 (f_check_set Z.T)) (G_common : FnG Z "common" 1 (f_common Z.T)) (h : XO Z tx 3 ["self", "up", "index", "item"] (defScope d_Layout_readable) none X W) : PSs X (defBody d_Layout_readable) (tS' Z.T W (s_Layout_readable Z.T)) :=
  (psv_cons (psv_expr rfl (v_call h G_check_set rfl (by decide +kernel) rfl (pav_cons rfl (v_var (i := 0) h (by decide +kernel)) (pav_cons rfl (v_var (i := 1) h (by decide +kernel)) pav_nil))))
  (psv_cons (psv_ret (v_lc (own := [("index", 2), ("item", 3)]) h (by decide +kernel) (i_enum2 h (by decide +kernel) (pav_cons rfl (v_fld (i := 1) h rfl rfl (v_var (i := 0) h (by decide +kernel))) pav_nil)) (fun _ h1 => ⟨(g_tup h1 rfl (pgsv_cons rfl (g_name h1 (by decide +kernel) rfl) (pgsv_cons rfl (g_name h1 (by decide +kernel) rfl) pgsv_nil))), (ptv_one (t_cmp C_geS h1 rfl (v_bf B_len h1 (by decide +kernel) (pav_cons rfl (v_call h1 G_common rfl (by decide +kernel) rfl (pav_cons rfl (v_ix h1 rfl (v_var (i := 3) h1 (by decide +kernel)) pv_int) (pav_cons rfl (v_var (i := 1) h1 (by decide +kernel)) pav_nil))) pav_nil)) (v_ix h1 rfl (v_var (i := 3) h1 (by decide +kernel)) pv_int))), (v_var (i := 2) h1 (by decide +kernel))⟩)))
  psv_nil))
theorem g_Layout_readable {Z : Cfg} (z : Z.Ok tx) (D : MDef Z 0 "readable" "Layout.readable" d_Layout_readable) (G_check_set : FnG Z "check_set" 3 (f_check_set Z.T)) (G_common : FnG Z "common" 1 (f_common Z.T)) : MtG Z 0 "readable" 4 (f_Layout_readable Z.T) :=
  mt_of (k := 3) (N := ["self", "up", "index", "item"]) (ps := ["self", "up"]) z D ⟨rfl, rfl, rfl, by decide +kernel, rfl, by decide +kernel, by decide +kernel⟩ (fun _ _ _ _ _ _ us hl => match us, hl with | [_, _], _ => rfl) fun X W h => b_Layout_readable G_check_set G_common h
/-! Layout___len__ -/
abbrev d_Layout___len__ : Stmt := ((clsBody (top 14)).getD 2 (.Pass ⟨0, 0, 0, 0⟩))
def s_Layout___len__ (T : Tb) : SS := (ssCons (ssRet (sCall lenD (saCons (sUn (fldD T 1) (sVar 0)) saNil)))
  ssNil)
def f_Layout___len__ (T : Tb) : List D → Bs → R D := runFn 1 1 (s_Layout___len__ T)
theorem b_Layout___len__ {Z : Cfg} {X : Cx} {W : WX}  (h : XO Z tx 0 ["self"] (defScope d_Layout___len__) none X W) : PSs X (defBody d_Layout___len__) (tS' Z.T W (s_Layout___len__ Z.T)) :=
  (psv_cons (psv_ret (v_bf B_len h (by decide +kernel) (pav_cons rfl (v_fld (i := 1) h rfl rfl (v_var (i := 0) h (by decide +kernel))) pav_nil)))
  psv_nil)
theorem g_Layout___len__ {Z : Cfg} (z : Z.Ok tx) (D : MDef Z 0 "__len__" "Layout.__len__" d_Layout___len__)  : MtG Z 0 "__len__" 1 (f_Layout___len__ Z.T) :=
  mt_of (k := 0) (N := ["self"]) (ps := ["self"]) z D ⟨rfl, rfl, rfl, by decide +kernel, rfl, by decide +kernel, by decide +kernel⟩ (fun _ _ _ _ _ _ us hl => match us, hl with | [_], _ => rfl) fun X W h => b_Layout___len__  h
/-! is_keeping -/
abbrev d_is_keeping : Stmt := top 23
def s_is_keeping (T : Tb) : SS := (ssCons (ssRet (sOp (eqD false) (sCall lenD (saCons (sMeth 11 (fun c => List.lookup c [(0, (f_Layout_readable T))]) (sVar 0) (saCons (sVar 1) saNil)) saNil)) (sCall (lenO [(0, (f_Layout___len__ T))]) (saCons (sVar 0) saNil))))
  ssNil)
def f_is_keeping (T : Tb) : List D → Bs → R D := runFn 2 2 (s_is_keeping T)
theorem b_is_keeping {Z : Cfg} {X : Cx} {W : WX} (M_Layout_readable : MtG Z 0 "readable" 4 (f_Layout_readable Z.T)) (M_Layout___len__ : MtG Z 0 "__len__" 1 (f_Layout___len__ Z.T)) (h : XO Z tx 4 ["layout", "up"] (defScope d_is_keeping) none X W) : PSs X (defBody d_is_keeping) (tS' Z.T W (s_is_keeping Z.T)) :=
  (psv_cons (psv_ret (v_cmp C_eq h rfl (v_bf B_len h (by decide +kernel) (pav_cons rfl (v_meth (i := 11) (j := 4) h (MtL.cons M_Layout_readable (rfl : Nat.ble 4 4 = true) MtL.nil) rfl rfl (by decide +kernel) (v_var (i := 0) h (by decide +kernel)) (pav_cons rfl (v_var (i := 1) h (by decide +kernel)) pav_nil)) pav_nil)) (v_lenO (j := 1) h (MtL.cons M_Layout___len__ (rfl : Nat.ble 1 1 = true) MtL.nil) rfl (by decide +kernel) (pav_cons rfl (v_var (i := 0) h (by decide +kernel)) pav_nil))))
  psv_nil)
theorem g_is_keeping {Z : Cfg} (z : Z.Ok tx) (D : DefAt Z "is_keeping" d_is_keeping) (M_Layout_readable : MtG Z 0 "readable" 4 (f_Layout_readable Z.T)) (M_Layout___len__ : MtG Z 0 "__len__" 1 (f_Layout___len__ Z.T)) : FnG Z "is_keeping" 5 (f_is_keeping Z.T) :=
  fn_of (k := 4) (N := ["layout", "up"]) (ps := ["layout", "up"]) z D ⟨rfl, rfl, rfl, by decide +kernel, rfl, by decide +kernel, by decide +kernel⟩ (fun _ _ _ _ _ _ us hl => match us, hl with | [_, _], _ => rfl) fun X W h => b_is_keeping M_Layout_readable M_Layout___len__ h
/-! minimal_keepers -/
abbrev d_minimal_keepers : Stmt := top 27
def s_minimal_keepers (T : Tb) : SS := (ssCons (ssExpr (sCall (f_check_layout T) (saCons (sVar 0) saNil)))
  (ssCons (ssRet (sCall (f_minimal T) (saCons (sLc false [1] (siSeq (sCall (f_sets_of T) (saCons (sUn (fldD T 0) (sVar 0)) saNil))) (sgName 1) (sTru (sCall (f_is_keeping T) (saCons (sVar 0) (saCons (sVar 1) saNil)))) (sVar 1)) saNil)))
  ssNil))
def f_minimal_keepers (T : Tb) : List D → Bs → R D := runFn 1 2 (s_minimal_keepers T)
theorem b_minimal_keepers {Z : Cfg} {X : Cx} {W : WX} (G_check_layout : FnG Z "check_layout" 1 (f_check_layout Z.T)) (G_minimal : FnG Z "minimal" 2 (f_minimal Z.T)) (G_sets_of : FnG Z "sets_of" 4 (f_sets_of Z.T)) (G_is_keeping : FnG Z "is_keeping" 5 (f_is_keeping Z.T)) (h : XO Z tx 5 ["layout", "up"] (defScope d_minimal_keepers) none X W) : PSs X (defBody d_minimal_keepers) (tS' Z.T W (s_minimal_keepers Z.T)) :=
  (psv_cons (psv_expr rfl (v_call h G_check_layout rfl (by decide +kernel) rfl (pav_cons rfl (v_var (i := 0) h (by decide +kernel)) pav_nil)))
  (psv_cons (psv_ret (v_call h G_minimal rfl (by decide +kernel) rfl (pav_cons rfl (v_lc (own := [("up", 1)]) h (by decide +kernel) (i_seq h (v_call h G_sets_of rfl (by decide +kernel) rfl (pav_cons rfl (v_fld (i := 0) h rfl rfl (v_var (i := 0) h (by decide +kernel))) pav_nil))) (fun _ h1 => ⟨(g_name h1 (by decide +kernel) rfl), (ptv_one (pvt_val rfl (v_call h1 G_is_keeping rfl (by decide +kernel) rfl (pav_cons rfl (v_var (i := 0) h1 (by decide +kernel)) (pav_cons rfl (v_var (i := 1) h1 (by decide +kernel)) pav_nil))))), (v_var (i := 1) h1 (by decide +kernel))⟩)) pav_nil)))
  psv_nil))
theorem g_minimal_keepers {Z : Cfg} (z : Z.Ok tx) (D : DefAt Z "minimal_keepers" d_minimal_keepers) (G_check_layout : FnG Z "check_layout" 1 (f_check_layout Z.T)) (G_minimal : FnG Z "minimal" 2 (f_minimal Z.T)) (G_sets_of : FnG Z "sets_of" 4 (f_sets_of Z.T)) (G_is_keeping : FnG Z "is_keeping" 5 (f_is_keeping Z.T)) : FnG Z "minimal_keepers" 6 (f_minimal_keepers Z.T) :=
  fn_of (k := 5) (N := ["layout", "up"]) (ps := ["layout"]) z D ⟨rfl, rfl, rfl, by decide +kernel, rfl, by decide +kernel, by decide +kernel⟩ (fun _ _ _ _ _ _ us hl => match us, hl with | [_], _ => rfl) fun X W h => b_minimal_keepers G_check_layout G_minimal G_sets_of G_is_keeping h
/-! others_of -/
abbrev d_others_of : Stmt := top 18
def s_others_of (T : Tb) : SS := (ssCons (ssRet (sCall tupleD (saCons (sLc false [2] (siArg itRng1 (saCons (sVar 0) saNil)) (sgName 2) (sTru (sOp (inD true) (sVar 2) (sVar 1))) (sVar 2)) saNil)))
  ssNil)
def f_others_of (T : Tb) : List D → Bs → R D := runFn 2 3 (s_others_of T)
theorem b_others_of {Z : Cfg} {X : Cx} {W : WX}  (h : XO Z tx 0 ["servers", "some", "server"] (defScope d_others_of) none X W) : PSs X (defBody d_others_of) (tS' Z.T W (s_others_of Z.T)) :=
  (psv_cons (psv_ret (v_bt B_tuple h (by decide +kernel) (pav_cons rfl (v_lc (own := [("server", 2)]) h (by decide +kernel) (i_rng1 h (by decide +kernel) (pav_cons rfl (v_var (i := 0) h (by decide +kernel)) pav_nil)) (fun _ h1 => ⟨(g_name h1 (by decide +kernel) rfl), (ptv_one (t_cmp C_notIn h1 rfl (v_var (i := 2) h1 (by decide +kernel)) (v_var (i := 1) h1 (by decide +kernel)))), (v_var (i := 2) h1 (by decide +kernel))⟩)) pav_nil)))
  psv_nil)
theorem g_others_of {Z : Cfg} (z : Z.Ok tx) (D : DefAt Z "others_of" d_others_of)  : FnG Z "others_of" 1 (f_others_of Z.T) :=
  fn_of (k := 0) (N := ["servers", "some", "server"]) (ps := ["servers", "some"]) z D ⟨rfl, rfl, rfl, by decide +kernel, rfl, by decide +kernel, by decide +kernel⟩ (fun _ _ _ _ _ _ us hl => match us, hl with | [_, _], _ => rfl) fun X W h => b_others_of  h
/-! is_losing -/
abbrev d_is_losing : Stmt := top 24
def s_is_losing (T : Tb) : SS := (ssCons (ssRet (sNot (sCall (f_is_keeping T) (saCons (sVar 0) (saCons (sCall (f_others_of T) (saCons (sUn (fldD T 0) (sVar 0)) (saCons (sVar 1) saNil))) saNil)))))
  ssNil)
def f_is_losing (T : Tb) : List D → Bs → R D := runFn 2 2 (s_is_losing T)
theorem b_is_losing {Z : Cfg} {X : Cx} {W : WX} (G_is_keeping : FnG Z "is_keeping" 5 (f_is_keeping Z.T)) (G_others_of : FnG Z "others_of" 1 (f_others_of Z.T)) (h : XO Z tx 5 ["layout", "down"] (defScope d_is_losing) none X W) : PSs X (defBody d_is_losing) (tS' Z.T W (s_is_losing Z.T)) :=
  (psv_cons (psv_ret (pv_not (v_call h G_is_keeping rfl (by decide +kernel) rfl (pav_cons rfl (v_var (i := 0) h (by decide +kernel)) (pav_cons rfl (v_call h G_others_of rfl (by decide +kernel) rfl (pav_cons rfl (v_fld (i := 0) h rfl rfl (v_var (i := 0) h (by decide +kernel))) (pav_cons rfl (v_var (i := 1) h (by decide +kernel)) pav_nil))) pav_nil)))))
  psv_nil)
theorem g_is_losing {Z : Cfg} (z : Z.Ok tx) (D : DefAt Z "is_losing" d_is_losing) (G_is_keeping : FnG Z "is_keeping" 5 (f_is_keeping Z.T)) (G_others_of : FnG Z "others_of" 1 (f_others_of Z.T)) : FnG Z "is_losing" 6 (f_is_losing Z.T) :=
  fn_of (k := 5) (N := ["layout", "down"]) (ps := ["layout", "down"]) z D ⟨rfl, rfl, rfl, by decide +kernel, rfl, by decide +kernel, by decide +kernel⟩ (fun _ _ _ _ _ _ us hl => match us, hl with | [_, _], _ => rfl) fun X W h => b_is_losing G_is_keeping G_others_of h
/-! minimal_losses -/
abbrev d_minimal_losses : Stmt := top 26
def s_minimal_losses (T : Tb) : SS := (ssCons (ssExpr (sCall (f_check_layout T) (saCons (sVar 0) saNil)))
  (ssCons (ssRet (sCall (f_minimal T) (saCons (sLc false [1] (siSeq (sCall (f_sets_of T) (saCons (sUn (fldD T 0) (sVar 0)) saNil))) (sgName 1) (sTru (sCall (f_is_losing T) (saCons (sVar 0) (saCons (sVar 1) saNil)))) (sVar 1)) saNil)))
  ssNil))
def f_minimal_losses (T : Tb) : List D → Bs → R D := runFn 1 2 (s_minimal_losses T)
theorem b_minimal_losses {Z : Cfg} {X : Cx} {W : WX} (G_check_layout : FnG Z "check_layout" 1 (f_check_layout Z.T)) (G_minimal : FnG Z "minimal" 2 (f_minimal Z.T)) (G_sets_of : FnG Z "sets_of" 4 (f_sets_of Z.T)) (G_is_losing : FnG Z "is_losing" 6 (f_is_losing Z.T)) (h : XO Z tx 6 ["layout", "down"] (defScope d_minimal_losses) none X W) : PSs X (defBody d_minimal_losses) (tS' Z.T W (s_minimal_losses Z.T)) :=
  (psv_cons (psv_expr rfl (v_call h G_check_layout rfl (by decide +kernel) rfl (pav_cons rfl (v_var (i := 0) h (by decide +kernel)) pav_nil)))
  (psv_cons (psv_ret (v_call h G_minimal rfl (by decide +kernel) rfl (pav_cons rfl (v_lc (own := [("down", 1)]) h (by decide +kernel) (i_seq h (v_call h G_sets_of rfl (by decide +kernel) rfl (pav_cons rfl (v_fld (i := 0) h rfl rfl (v_var (i := 0) h (by decide +kernel))) pav_nil))) (fun _ h1 => ⟨(g_name h1 (by decide +kernel) rfl), (ptv_one (pvt_val rfl (v_call h1 G_is_losing rfl (by decide +kernel) rfl (pav_cons rfl (v_var (i := 0) h1 (by decide +kernel)) (pav_cons rfl (v_var (i := 1) h1 (by decide +kernel)) pav_nil))))), (v_var (i := 1) h1 (by decide +kernel))⟩)) pav_nil)))
  psv_nil))
theorem g_minimal_losses {Z : Cfg} (z : Z.Ok tx) (D : DefAt Z "minimal_losses" d_minimal_losses) (G_check_layout : FnG Z "check_layout" 1 (f_check_layout Z.T)) (G_minimal : FnG Z "minimal" 2 (f_minimal Z.T)) (G_sets_of : FnG Z "sets_of" 4 (f_sets_of Z.T)) (G_is_losing : FnG Z "is_losing" 6 (f_is_losing Z.T)) : FnG Z "minimal_losses" 7 (f_minimal_losses Z.T) :=
  fn_of (k := 6) (N := ["layout", "down"]) (ps := ["layout"]) z D ⟨rfl, rfl, rfl, by decide +kernel, rfl, by decide +kernel, by decide +kernel⟩ (fun _ _ _ _ _ _ us hl => match us, hl with | [_], _ => rfl) fun X W h => b_minimal_losses G_check_layout G_minimal G_sets_of G_is_losing h
/-! find_dual -/
abbrev d_find_dual : Stmt := top 28
def s_find_dual (T : Tb) : SS := (ssCons (ssRet (sCall (makeD 1 true (f_Dual_init T)) (saCons (sCall (f_minimal_losses T) (saCons (sVar 0) saNil)) (saCons (sCall (f_minimal_keepers T) (saCons (sVar 0) saNil)) saNil))))
  ssNil)
def f_find_dual (T : Tb) : List D → Bs → R D := runFn 1 1 (s_find_dual T)
theorem b_find_dual {Z : Cfg} {X : Cx} {W : WX} (K_Dual : MkG Z "Dual" 1 1 (f_Dual_init Z.T)) (G_minimal_keepers : FnG Z "minimal_keepers" 6 (f_minimal_keepers Z.T)) (G_minimal_losses : FnG Z "minimal_losses" 7 (f_minimal_losses Z.T)) (h : XO Z tx 7 ["layout"] (defScope d_find_dual) none X W) : PSs X (defBody d_find_dual) (tS' Z.T W (s_find_dual Z.T)) :=
  (psv_cons (psv_ret (v_make h K_Dual rfl (by decide +kernel) rfl (pav_cons rfl (v_call h G_minimal_losses rfl (by decide +kernel) rfl (pav_cons rfl (v_var (i := 0) h (by decide +kernel)) pav_nil)) (pav_cons rfl (v_call h G_minimal_keepers rfl (by decide +kernel) rfl (pav_cons rfl (v_var (i := 0) h (by decide +kernel)) pav_nil)) pav_nil))))
  psv_nil)
theorem g_find_dual {Z : Cfg} (z : Z.Ok tx) (D : DefAt Z "find_dual" d_find_dual) (K_Dual : MkG Z "Dual" 1 1 (f_Dual_init Z.T)) (G_minimal_keepers : FnG Z "minimal_keepers" 6 (f_minimal_keepers Z.T)) (G_minimal_losses : FnG Z "minimal_losses" 7 (f_minimal_losses Z.T)) : FnG Z "find_dual" 8 (f_find_dual Z.T) :=
  fn_of (k := 7) (N := ["layout"]) (ps := ["layout"]) z D ⟨rfl, rfl, rfl, by decide +kernel, rfl, by decide +kernel, by decide +kernel⟩ (fun _ _ _ _ _ _ us hl => match us, hl with | [_], _ => rfl) fun X W h => b_find_dual K_Dual G_minimal_keepers G_minimal_losses h
/-! Dual_settles -/
abbrev d_Dual_settles : Stmt := ((clsBody (top 21)).getD 3 (.Pass ⟨0, 0, 0, 0⟩))
def s_Dual_settles (T : Tb) : SS := (ssCons (ssAsg (sCall (f_others_of T) (saCons (sUn (fldD T 0) (sVar 1)) (saCons (sVar 2) saNil))) (sgName 3))
  (ssCons (ssIf (sCall anyD' (saCons (sLc false [4] (siSeq (sUn (fldD T 2) (sVar 0))) (sgName 4) (fun _ h => .ok true h) (sCall (f_is_within T) (saCons (sVar 4) (saCons (sVar 2) saNil)))) saNil))
  (ssCons (ssRet (sK (.bl true)))
  ssNil)
  ssNil)
  (ssCons (ssRet (sCall anyD' (saCons (sLc false [4] (siSeq (sUn (fldD T 3) (sVar 0))) (sgName 4) (fun _ h => .ok true h) (sCall (f_is_within T) (saCons (sVar 4) (saCons (sVar 3) saNil)))) saNil)))
  ssNil)))
def f_Dual_settles (T : Tb) : List D → Bs → R D := runFn 3 5 (s_Dual_settles T)
theorem b_Dual_settles {Z : Cfg} {X : Cx} {W : WX} (G_is_within : FnG Z "is_within" 1 (f_is_within Z.T)) (G_others_of : FnG Z "others_of" 1 (f_others_of Z.T)) (h : XO Z tx 1 ["self", "layout", "down", "up", "some"] (defScope d_Dual_settles) none X W) : PSs X (defBody d_Dual_settles) (tS' Z.T W (s_Dual_settles Z.T)) :=
  (psv_cons (s_set h (by decide +kernel) rfl (v_call h G_others_of rfl (by decide +kernel) rfl (pav_cons rfl (v_fld (i := 0) h rfl rfl (v_var (i := 1) h (by decide +kernel))) (pav_cons rfl (v_var (i := 2) h (by decide +kernel)) pav_nil))))
  (psv_cons (psv_if (pvt_val rfl (v_bf B_any h (by decide +kernel) (pav_cons rfl (v_lc (own := [("some", 4)]) h (by decide +kernel) (i_seq h (v_fld (i := 2) h rfl rfl (v_var (i := 0) h (by decide +kernel)))) (fun _ h1 => ⟨(g_name h1 (by decide +kernel) rfl), ptv_nil, (v_call h1 G_is_within rfl (by decide +kernel) rfl (pav_cons rfl (v_var (i := 4) h1 (by decide +kernel)) (pav_cons rfl (v_var (i := 2) h1 (by decide +kernel)) pav_nil)))⟩)) pav_nil)))
  (psv_cons (psv_ret pv_bl)
  psv_nil)
  psv_nil)
  (psv_cons (psv_ret (v_bf B_any h (by decide +kernel) (pav_cons rfl (v_lc (own := [("some", 4)]) h (by decide +kernel) (i_seq h (v_fld (i := 3) h rfl rfl (v_var (i := 0) h (by decide +kernel)))) (fun _ h1 => ⟨(g_name h1 (by decide +kernel) rfl), ptv_nil, (v_call h1 G_is_within rfl (by decide +kernel) rfl (pav_cons rfl (v_var (i := 4) h1 (by decide +kernel)) (pav_cons rfl (v_var (i := 3) h1 (by decide +kernel)) pav_nil)))⟩)) pav_nil)))
  psv_nil)))
theorem g_Dual_settles {Z : Cfg} (z : Z.Ok tx) (D : MDef Z 1 "settles" "Dual.settles" d_Dual_settles) (G_is_within : FnG Z "is_within" 1 (f_is_within Z.T)) (G_others_of : FnG Z "others_of" 1 (f_others_of Z.T)) : MtG Z 1 "settles" 2 (f_Dual_settles Z.T) :=
  mt_of (k := 1) (N := ["self", "layout", "down", "up", "some"]) (ps := ["self", "layout", "down"]) z D ⟨rfl, rfl, rfl, by decide +kernel, rfl, by decide +kernel, by decide +kernel⟩ (fun _ _ _ _ _ _ us hl => match us, hl with | [_, _, _], _ => rfl) fun X W h => b_Dual_settles G_is_within G_others_of h
/-! Dual_shows -/
abbrev d_Dual_shows : Stmt := ((clsBody (top 21)).getD 2 (.Pass ⟨0, 0, 0, 0⟩))
def s_Dual_shows (T : Tb) : SS := (ssCons (ssExpr (sCall (f_check_layout T) (saCons (sVar 1) saNil)))
  (ssCons (ssIf (sNot (sCall allD' (saCons (sLc false [3] (siSeq (sLst false (saStar (sUn (fldD T 2) (sVar 0)) (saStar (sUn (fldD T 3) (sVar 0)) saNil)))) (sgName 3) (fun _ h => .ok true h) (sCall (f_is_set T) (saCons (sVar 3) (saCons (sUn (fldD T 0) (sVar 1)) saNil)))) saNil)))
  (ssCons (ssRet (sK (.bl false)))
  ssNil)
  ssNil)
  (ssCons (ssIf (sNot (sCall allD' (saCons (sLc false [3] (siSeq (sUn (fldD T 2) (sVar 0))) (sgName 3) (fun _ h => .ok true h) (sCall (f_is_losing T) (saCons (sVar 1) (saCons (sVar 3) saNil)))) saNil)))
  (ssCons (ssRet (sK (.bl false)))
  ssNil)
  ssNil)
  (ssCons (ssIf (sNot (sCall allD' (saCons (sLc false [3] (siSeq (sUn (fldD T 3) (sVar 0))) (sgName 3) (fun _ h => .ok true h) (sCall (f_is_keeping T) (saCons (sVar 1) (saCons (sVar 3) saNil)))) saNil)))
  (ssCons (ssRet (sK (.bl false)))
  ssNil)
  ssNil)
  (ssCons (ssRet (sCall allD' (saCons (sLc false [2] (siSeq (sCall (f_sets_of T) (saCons (sUn (fldD T 0) (sVar 1)) saNil))) (sgName 2) (fun _ h => .ok true h) (sMeth 14 (fun c => List.lookup c [(1, (f_Dual_settles T))]) (sVar 0) (saCons (sVar 1) (saCons (sVar 2) saNil)))) saNil)))
  ssNil)))))
def f_Dual_shows (T : Tb) : List D → Bs → R D := runFn 2 4 (s_Dual_shows T)
theorem b_Dual_shows {Z : Cfg} {X : Cx} {W : WX} (G_is_set : FnG Z "is_set" 2 (f_is_set Z.T)) (G_check_layout : FnG Z "check_layout" 1 (f_check_layout Z.T)) (G_sets_of : FnG Z "sets_of" 4 (f_sets_of Z.T)) (G_is_keeping : FnG Z "is_keeping" 5 (f_is_keeping Z.T)) (G_is_losing : FnG Z "is_losing" 6 (f_is_losing Z.T)) (M_Dual_settles : MtG Z 1 "settles" 2 (f_Dual_settles Z.T)) (h : XO Z tx 6 ["self", "layout", "down", "some"] (defScope d_Dual_shows) none X W) : PSs X (defBody d_Dual_shows) (tS' Z.T W (s_Dual_shows Z.T)) :=
  (psv_cons (psv_expr rfl (v_call h G_check_layout rfl (by decide +kernel) rfl (pav_cons rfl (v_var (i := 1) h (by decide +kernel)) pav_nil)))
  (psv_cons (psv_if (pvt_not (pvt_val rfl (v_bf B_all h (by decide +kernel) (pav_cons rfl (v_lc (own := [("some", 3)]) h (by decide +kernel) (i_seq h (pv_lst (pav_star h.K (v_fld (i := 2) h rfl rfl (v_var (i := 0) h (by decide +kernel))) (pav_star h.K (v_fld (i := 3) h rfl rfl (v_var (i := 0) h (by decide +kernel))) pav_nil)))) (fun _ h1 => ⟨(g_name h1 (by decide +kernel) rfl), ptv_nil, (v_call h1 G_is_set rfl (by decide +kernel) rfl (pav_cons rfl (v_var (i := 3) h1 (by decide +kernel)) (pav_cons rfl (v_fld (i := 0) h1 rfl rfl (v_var (i := 1) h1 (by decide +kernel))) pav_nil)))⟩)) pav_nil))))
  (psv_cons (psv_ret pv_bl)
  psv_nil)
  psv_nil)
  (psv_cons (psv_if (pvt_not (pvt_val rfl (v_bf B_all h (by decide +kernel) (pav_cons rfl (v_lc (own := [("some", 3)]) h (by decide +kernel) (i_seq h (v_fld (i := 2) h rfl rfl (v_var (i := 0) h (by decide +kernel)))) (fun _ h1 => ⟨(g_name h1 (by decide +kernel) rfl), ptv_nil, (v_call h1 G_is_losing rfl (by decide +kernel) rfl (pav_cons rfl (v_var (i := 1) h1 (by decide +kernel)) (pav_cons rfl (v_var (i := 3) h1 (by decide +kernel)) pav_nil)))⟩)) pav_nil))))
  (psv_cons (psv_ret pv_bl)
  psv_nil)
  psv_nil)
  (psv_cons (psv_if (pvt_not (pvt_val rfl (v_bf B_all h (by decide +kernel) (pav_cons rfl (v_lc (own := [("some", 3)]) h (by decide +kernel) (i_seq h (v_fld (i := 3) h rfl rfl (v_var (i := 0) h (by decide +kernel)))) (fun _ h1 => ⟨(g_name h1 (by decide +kernel) rfl), ptv_nil, (v_call h1 G_is_keeping rfl (by decide +kernel) rfl (pav_cons rfl (v_var (i := 1) h1 (by decide +kernel)) (pav_cons rfl (v_var (i := 3) h1 (by decide +kernel)) pav_nil)))⟩)) pav_nil))))
  (psv_cons (psv_ret pv_bl)
  psv_nil)
  psv_nil)
  (psv_cons (psv_ret (v_bf B_all h (by decide +kernel) (pav_cons rfl (v_lc (own := [("down", 2)]) h (by decide +kernel) (i_seq h (v_call h G_sets_of rfl (by decide +kernel) rfl (pav_cons rfl (v_fld (i := 0) h rfl rfl (v_var (i := 1) h (by decide +kernel))) pav_nil))) (fun _ h1 => ⟨(g_name h1 (by decide +kernel) rfl), ptv_nil, (v_meth (i := 14) (j := 2) h1 (MtL.cons M_Dual_settles (rfl : Nat.ble 2 2 = true) MtL.nil) rfl rfl (by decide +kernel) (v_var (i := 0) h1 (by decide +kernel)) (pav_cons rfl (v_var (i := 1) h1 (by decide +kernel)) (pav_cons rfl (v_var (i := 2) h1 (by decide +kernel)) pav_nil)))⟩)) pav_nil)))
  psv_nil)))))
theorem g_Dual_shows {Z : Cfg} (z : Z.Ok tx) (D : MDef Z 1 "shows" "Dual.shows" d_Dual_shows) (G_is_set : FnG Z "is_set" 2 (f_is_set Z.T)) (G_check_layout : FnG Z "check_layout" 1 (f_check_layout Z.T)) (G_sets_of : FnG Z "sets_of" 4 (f_sets_of Z.T)) (G_is_keeping : FnG Z "is_keeping" 5 (f_is_keeping Z.T)) (G_is_losing : FnG Z "is_losing" 6 (f_is_losing Z.T)) (M_Dual_settles : MtG Z 1 "settles" 2 (f_Dual_settles Z.T)) : MtG Z 1 "shows" 7 (f_Dual_shows Z.T) :=
  mt_of (k := 6) (N := ["self", "layout", "down", "some"]) (ps := ["self", "layout"]) z D ⟨rfl, rfl, rfl, by decide +kernel, rfl, by decide +kernel, by decide +kernel⟩ (fun _ _ _ _ _ _ us hl => match us, hl with | [_, _], _ => rfl) fun X W h => b_Dual_shows G_is_set G_check_layout G_sets_of G_is_keeping G_is_losing M_Dual_settles h
/-! _law_lost -/
abbrev d__law_lost : Stmt := top 33
def l1__law_lost (T : Tb) : SS := (ssCons (ssIf (sOp ltS (sCall lenD (saCons (sLc false [5] (siSeq (sOp ixD (sVar 4) (sK (.int 0)))) (sgName 5) (sTru (sOp (inD true) (sVar 5) (sVar 1))) (sVar 5)) saNil)) (sOp ixD (sVar 4) (sK (.int 1))))
  (ssCons (ssExpr (sBm appD (sVar 2) (saCons (sVar 3) saNil)))
  ssNil)
  ssNil)
  ssNil)
def s__law_lost (T : Tb) : SS := (ssCons (ssAsg (sLst true saNil) (sgName 2))
  (ssCons (ssFor (siArg itEnum2 (saCons (sVar 0) saNil)) (sgTup 2 (sgCons (sgName 3) (sgCons (sgName 4) sgNil)))
  (l1__law_lost T))
  (ssCons (ssRet (sVar 2))
  ssNil)))
def f__law_lost (T : Tb) : List D → Bs → R D := runFn 2 6 (s__law_lost T)
theorem b__law_lost {Z : Cfg} {X : Cx} {W : WX}  (h : XO Z tx 0 ["_law_items_here", "_law_down", "_law_found", "_law_index", "_law_item", "_law_server"] (defScope d__law_lost) none X W) : PSs X (defBody d__law_lost) (tS' Z.T W (s__law_lost Z.T)) :=
  (psv_cons (s_set h (by decide +kernel) rfl (pv_lst pav_nil))
  (psv_cons (s_for (own := [3, 4]) h rfl (i_enum2 h (by decide +kernel) (pav_cons rfl (v_var (i := 0) h (by decide +kernel)) pav_nil)) (g_tup h rfl (pgsv_cons rfl (g_name h (by decide +kernel) rfl) (pgsv_cons rfl (g_name h (by decide +kernel) rfl) pgsv_nil)))
  (psv_cons (psv_if (t_cmp C_ltS h rfl (v_bf B_len h (by decide +kernel) (pav_cons rfl (v_lc (own := [("_law_server", 5)]) h (by decide +kernel) (i_seq h (v_ix h rfl (v_var (i := 4) h (by decide +kernel)) pv_int)) (fun _ h1 => ⟨(g_name h1 (by decide +kernel) rfl), (ptv_one (t_cmp C_notIn h1 rfl (v_var (i := 5) h1 (by decide +kernel)) (v_var (i := 1) h1 (by decide +kernel)))), (v_var (i := 5) h1 (by decide +kernel))⟩)) pav_nil)) (v_ix h rfl (v_var (i := 4) h (by decide +kernel)) pv_int))
  (psv_cons (psv_expr rfl (v_bm M_append h (by decide +kernel) (v_var (i := 2) h (by decide +kernel)) (pav_cons rfl (v_var (i := 3) h (by decide +kernel)) pav_nil)))
  psv_nil)
  psv_nil)
  psv_nil))
  (psv_cons (psv_ret (v_var (i := 2) h (by decide +kernel)))
  psv_nil)))
theorem g__law_lost {Z : Cfg} (z : Z.Ok tx) (D : DefAt Z "_law_lost" d__law_lost)  : FnG Z "_law_lost" 1 (f__law_lost Z.T) :=
  fn_of (k := 0) (N := ["_law_items_here", "_law_down", "_law_found", "_law_index", "_law_item", "_law_server"]) (ps := ["_law_items_here", "_law_down"]) z D ⟨rfl, rfl, rfl, by decide +kernel, rfl, by decide +kernel, by decide +kernel⟩ (fun _ _ _ _ _ _ us hl => match us, hl with | [_, _], _ => rfl) fun X W h => b__law_lost  h
/-! _law_within -/
abbrev d__law_within : Stmt := top 34
def s__law_within (T : Tb) : SS := (ssCons (ssRet (sOp (eqD false) (sCall lenD (saCons (sLc false [2] (siSeq (sVar 0)) (sgName 2) (sTru (sOp (inD true) (sVar 2) (sVar 1))) (sVar 2)) saNil)) (sK (.int 0))))
  ssNil)
def f__law_within (T : Tb) : List D → Bs → R D := runFn 2 3 (s__law_within T)
theorem b__law_within {Z : Cfg} {X : Cx} {W : WX}  (h : XO Z tx 0 ["_law_one", "_law_other", "_law_server"] (defScope d__law_within) none X W) : PSs X (defBody d__law_within) (tS' Z.T W (s__law_within Z.T)) :=
  (psv_cons (psv_ret (v_cmp C_eq h rfl (v_bf B_len h (by decide +kernel) (pav_cons rfl (v_lc (own := [("_law_server", 2)]) h (by decide +kernel) (i_seq h (v_var (i := 0) h (by decide +kernel))) (fun _ h1 => ⟨(g_name h1 (by decide +kernel) rfl), (ptv_one (t_cmp C_notIn h1 rfl (v_var (i := 2) h1 (by decide +kernel)) (v_var (i := 1) h1 (by decide +kernel)))), (v_var (i := 2) h1 (by decide +kernel))⟩)) pav_nil)) pv_int))
  psv_nil)
theorem g__law_within {Z : Cfg} (z : Z.Ok tx) (D : DefAt Z "_law_within" d__law_within)  : FnG Z "_law_within" 1 (f__law_within Z.T) :=
  fn_of (k := 0) (N := ["_law_one", "_law_other", "_law_server"]) (ps := ["_law_one", "_law_other"]) z D ⟨rfl, rfl, rfl, by decide +kernel, rfl, by decide +kernel, by decide +kernel⟩ (fun _ _ _ _ _ _ us hl => match us, hl with | [_, _], _ => rfl) fun X W h => b__law_within  h
/-! _law_is_dual -/
abbrev d__law_is_dual : Stmt := top 35
def l1__law_is_dual (T : Tb) : SS := (ssCons (ssIf (sOr (sOp (inD true) (sVar 5) (sVar 4)) (sOp (eqD false) (sCall (f__law_lost T) (saCons (sVar 0) (saCons (sVar 5) saNil))) (sLst false saNil)))
  (ssCons (ssRet (sK (.bl false)))
  ssNil)
  ssNil)
  ssNil)
def l2__law_is_dual (T : Tb) : SS := (ssCons (ssAsg (sLc false [10] (siArg itRng1 (saCons (sVar 1) saNil)) (sgName 10) (sTru (sOp (inD true) (sVar 10) (sVar 5))) (sVar 10)) (sgName 7))
  (ssCons (ssIf (sOr (sOp (inD true) (sVar 5) (sVar 4)) (sOp (eqD true) (sCall (f__law_lost T) (saCons (sVar 0) (saCons (sVar 7) saNil))) (sLst false saNil)))
  (ssCons (ssRet (sK (.bl false)))
  ssNil)
  ssNil)
  ssNil))
def l3__law_is_dual (T : Tb) : SS := (ssCons (ssAsg (sLc false [11] (siArg itRng1 (saCons (sVar 1) saNil)) (sgName 11) (sTru (sOp (inD true) (sVar 11) (sVar 6))) (sVar 11)) (sgName 8))
  (ssCons (ssAsg (sOp (addD false) (sLc false [5] (siSeq (sVar 2)) (sgName 5) (fun _ h => .ok true h) (sCall (f__law_within T) (saCons (sVar 5) (saCons (sVar 6) saNil)))) (sLc false [5] (siSeq (sVar 3)) (sgName 5) (fun _ h => .ok true h) (sCall (f__law_within T) (saCons (sVar 5) (saCons (sVar 8) saNil))))) (sgName 9))
  (ssCons (ssIf (sNot (sCall anyD' (saCons (sVar 9) saNil)))
  (ssCons (ssRet (sK (.bl false)))
  ssNil)
  ssNil)
  ssNil)))
def s__law_is_dual (T : Tb) : SS := (ssCons (ssAsg (sCall (f__law_sets T) (saCons (sVar 1) saNil)) (sgName 4))
  (ssCons (ssFor (siSeq (sVar 2)) (sgName 5)
  (l1__law_is_dual T))
  (ssCons (ssFor (siSeq (sVar 3)) (sgName 5)
  (l2__law_is_dual T))
  (ssCons (ssFor (siSeq (sVar 4)) (sgName 6)
  (l3__law_is_dual T))
  (ssCons (ssRet (sK (.bl true)))
  ssNil)))))
def f__law_is_dual (T : Tb) : List D → Bs → R D := runFn 4 12 (s__law_is_dual T)
theorem b__law_is_dual {Z : Cfg} {X : Cx} {W : WX} (G__law_sets : FnG Z "_law_sets" 4 (f__law_sets Z.T)) (G__law_lost : FnG Z "_law_lost" 1 (f__law_lost Z.T)) (G__law_within : FnG Z "_law_within" 1 (f__law_within Z.T)) (h : XO Z tx 4 ["_law_items_here", "_law_servers", "_law_losses", "_law_keepers", "_law_every", "_law_some", "_law_down", "_law_rest", "_law_up", "_law_settled_now", "_law_one", "_law_server"] (defScope d__law_is_dual) none X W) : PSs X (defBody d__law_is_dual) (tS' Z.T W (s__law_is_dual Z.T)) :=
  (psv_cons (s_set h (by decide +kernel) rfl (v_call h G__law_sets rfl (by decide +kernel) rfl (pav_cons rfl (v_var (i := 1) h (by decide +kernel)) pav_nil)))
  (psv_cons (s_for (own := [5]) h rfl (i_seq h (v_var (i := 2) h (by decide +kernel))) (g_name h (by decide +kernel) rfl)
  (psv_cons (psv_if (PW.pt (pvt_or (t_cmp C_notIn h rfl (v_var (i := 5) h (by decide +kernel)) (v_var (i := 4) h (by decide +kernel))) (pvt_or1 (t_cmp C_eq h rfl (v_call h G__law_lost rfl (by decide +kernel) rfl (pav_cons rfl (v_var (i := 0) h (by decide +kernel)) (pav_cons rfl (v_var (i := 5) h (by decide +kernel)) pav_nil))) (pv_lst pav_nil)))))
  (psv_cons (psv_ret pv_bl)
  psv_nil)
  psv_nil)
  psv_nil))
  (psv_cons (s_for (own := [5]) h rfl (i_seq h (v_var (i := 3) h (by decide +kernel))) (g_name h (by decide +kernel) rfl)
  (psv_cons (s_setLc (own := [("_law_one", 10)]) h (by decide +kernel) (by decide +kernel) (i_rng1 h (by decide +kernel) (pav_cons rfl (v_var (i := 1) h (by decide +kernel)) pav_nil)) (fun _ h1 => ⟨(g_name h1 (by decide +kernel) rfl), (ptv_one (t_cmp C_notIn h1 rfl (v_var (i := 10) h1 (by decide +kernel)) (v_var (i := 5) h1 (by decide +kernel)))), (v_var (i := 10) h1 (by decide +kernel))⟩))
  (psv_cons (psv_if (PW.pt (pvt_or (t_cmp C_notIn h rfl (v_var (i := 5) h (by decide +kernel)) (v_var (i := 4) h (by decide +kernel))) (pvt_or1 (t_cmp C_ne h rfl (v_call h G__law_lost rfl (by decide +kernel) rfl (pav_cons rfl (v_var (i := 0) h (by decide +kernel)) (pav_cons rfl (v_var (i := 7) h (by decide +kernel)) pav_nil))) (pv_lst pav_nil)))))
  (psv_cons (psv_ret pv_bl)
  psv_nil)
  psv_nil)
  psv_nil)))
  (psv_cons (s_for (own := [6]) h rfl (i_seq h (v_var (i := 4) h (by decide +kernel))) (g_name h (by decide +kernel) rfl)
  (psv_cons (s_setLcN h (by decide +kernel) (by decide +kernel) (v_lc (own := [("_law_server", 11)]) h (by decide +kernel) (i_rng1 h (by decide +kernel) (pav_cons rfl (v_var (i := 1) h (by decide +kernel)) pav_nil)) (fun _ h1 => ⟨(g_name h1 (by decide +kernel) rfl), (ptv_one (t_cmp C_notIn h1 rfl (v_var (i := 11) h1 (by decide +kernel)) (v_var (i := 6) h1 (by decide +kernel)))), (v_var (i := 11) h1 (by decide +kernel))⟩)))
  (psv_cons (s_set h (by decide +kernel) rfl (v_add h (v_lc (own := [("_law_some", 5)]) h (by decide +kernel) (i_seq h (v_var (i := 2) h (by decide +kernel))) (fun _ h1 => ⟨(g_name h1 (by decide +kernel) rfl), ptv_nil, (v_call h1 G__law_within rfl (by decide +kernel) rfl (pav_cons rfl (v_var (i := 5) h1 (by decide +kernel)) (pav_cons rfl (v_var (i := 6) h1 (by decide +kernel)) pav_nil)))⟩)) (v_lc (own := [("_law_some", 5)]) h (by decide +kernel) (i_seq h (v_var (i := 3) h (by decide +kernel))) (fun _ h1 => ⟨(g_name h1 (by decide +kernel) rfl), ptv_nil, (v_call h1 G__law_within rfl (by decide +kernel) rfl (pav_cons rfl (v_var (i := 5) h1 (by decide +kernel)) (pav_cons rfl (v_var (i := 8) h1 (by decide +kernel)) pav_nil)))⟩))))
  (psv_cons (psv_if (pvt_not (pvt_val rfl (v_bf B_any h (by decide +kernel) (pav_cons rfl (v_var (i := 9) h (by decide +kernel)) pav_nil))))
  (psv_cons (psv_ret pv_bl)
  psv_nil)
  psv_nil)
  psv_nil))))
  (psv_cons (psv_ret pv_bl)
  psv_nil)))))
theorem g__law_is_dual {Z : Cfg} (z : Z.Ok tx) (D : DefAt Z "_law_is_dual" d__law_is_dual) (G__law_sets : FnG Z "_law_sets" 4 (f__law_sets Z.T)) (G__law_lost : FnG Z "_law_lost" 1 (f__law_lost Z.T)) (G__law_within : FnG Z "_law_within" 1 (f__law_within Z.T)) : FnG Z "_law_is_dual" 5 (f__law_is_dual Z.T) :=
  fn_of (k := 4) (N := ["_law_items_here", "_law_servers", "_law_losses", "_law_keepers", "_law_every", "_law_some", "_law_down", "_law_rest", "_law_up", "_law_settled_now", "_law_one", "_law_server"]) (ps := ["_law_items_here", "_law_servers", "_law_losses", "_law_keepers"]) z D ⟨rfl, rfl, rfl, by decide +kernel, rfl, by decide +kernel, by decide +kernel⟩ (fun _ _ _ _ _ _ us hl => match us, hl with | [_, _, _, _], _ => rfl) fun X W h => b__law_is_dual G__law_sets G__law_lost G__law_within h
/-! Layout___eq__ -/
abbrev d_Layout___eq__ : Stmt := ((clsBody (top 14)).getD 1 (.Pass ⟨0, 0, 0, 0⟩))
def s_Layout___eq__ (T : Tb) : SS := (ssCons (ssRet (sAnd (sUn (isiD T 7) (sVar 1)) (sOp (eqD false) (sTup (saCons (sUn (fldD T 0) (sVar 0)) (saCons (sUn (fldD T 1) (sVar 0)) saNil))) (sTup (saCons (sUn (fldD T 0) (sVar 1)) (saCons (sUn (fldD T 1) (sVar 1)) saNil))))))
  ssNil)
def f_Layout___eq__ (T : Tb) : List D → Bs → R D := runFn 2 2 (s_Layout___eq__ T)
theorem b_Layout___eq__ {Z : Cfg} {X : Cx} {W : WX}  (h : XO Z tx 0 ["self", "other"] (defScope d_Layout___eq__) none X W) : PSs X (defBody d_Layout___eq__) (tS' Z.T W (s_Layout___eq__ Z.T)) :=
  (psv_cons (psv_ret (pv_and (v_isi h (by decide +kernel) (N_own (i := 0) h rfl (by decide +kernel)) (v_var (i := 1) h (by decide +kernel))) (pv_one (v_cmp C_eq h rfl (pv_tup (pav_cons rfl (v_fld (i := 0) h rfl rfl (v_var (i := 0) h (by decide +kernel))) (pav_cons rfl (v_fld (i := 1) h rfl rfl (v_var (i := 0) h (by decide +kernel))) pav_nil))) (pv_tup (pav_cons rfl (v_fld (i := 0) h rfl rfl (v_var (i := 1) h (by decide +kernel))) (pav_cons rfl (v_fld (i := 1) h rfl rfl (v_var (i := 1) h (by decide +kernel))) pav_nil)))))))
  psv_nil)
theorem g_Layout___eq__ {Z : Cfg} (z : Z.Ok tx) (D : MDef Z 0 "__eq__" "Layout.__eq__" d_Layout___eq__)  : MtG Z 0 "__eq__" 1 (f_Layout___eq__ Z.T) :=
  mt_of (k := 0) (N := ["self", "other"]) (ps := ["self", "other"]) z D ⟨rfl, rfl, rfl, by decide +kernel, rfl, by decide +kernel, by decide +kernel⟩ (fun _ _ _ _ _ _ us hl => match us, hl with | [_, _], _ => rfl) fun X W h => b_Layout___eq__  h
/-! Dual___eq__ -/
abbrev d_Dual___eq__ : Stmt := ((clsBody (top 21)).getD 1 (.Pass ⟨0, 0, 0, 0⟩))
def s_Dual___eq__ (T : Tb) : SS := (ssCons (ssRet (sAnd (sUn (isiD T 8) (sVar 1)) (sOp (eqD false) (sTup (saCons (sUn (fldD T 2) (sVar 0)) (saCons (sUn (fldD T 3) (sVar 0)) saNil))) (sTup (saCons (sUn (fldD T 2) (sVar 1)) (saCons (sUn (fldD T 3) (sVar 1)) saNil))))))
  ssNil)
def f_Dual___eq__ (T : Tb) : List D → Bs → R D := runFn 2 2 (s_Dual___eq__ T)
theorem b_Dual___eq__ {Z : Cfg} {X : Cx} {W : WX}  (h : XO Z tx 0 ["self", "other"] (defScope d_Dual___eq__) none X W) : PSs X (defBody d_Dual___eq__) (tS' Z.T W (s_Dual___eq__ Z.T)) :=
  (psv_cons (psv_ret (pv_and (v_isi h (by decide +kernel) (N_own (i := 1) h rfl (by decide +kernel)) (v_var (i := 1) h (by decide +kernel))) (pv_one (v_cmp C_eq h rfl (pv_tup (pav_cons rfl (v_fld (i := 2) h rfl rfl (v_var (i := 0) h (by decide +kernel))) (pav_cons rfl (v_fld (i := 3) h rfl rfl (v_var (i := 0) h (by decide +kernel))) pav_nil))) (pv_tup (pav_cons rfl (v_fld (i := 2) h rfl rfl (v_var (i := 1) h (by decide +kernel))) (pav_cons rfl (v_fld (i := 3) h rfl rfl (v_var (i := 1) h (by decide +kernel))) pav_nil)))))))
  psv_nil)
theorem g_Dual___eq__ {Z : Cfg} (z : Z.Ok tx) (D : MDef Z 1 "__eq__" "Dual.__eq__" d_Dual___eq__)  : MtG Z 1 "__eq__" 1 (f_Dual___eq__ Z.T) :=
  mt_of (k := 0) (N := ["self", "other"]) (ps := ["self", "other"]) z D ⟨rfl, rfl, rfl, by decide +kernel, rfl, by decide +kernel, by decide +kernel⟩ (fun _ _ _ _ _ _ us hl => match us, hl with | [_, _], _ => rfl) fun X W h => b_Dual___eq__  h
/-! law -/
abbrev d_law : Stmt := top 36
def t1_law (T : Tb) : SS := (ssAsg (sOp (addD false) (sK (.int 1)) (sOp modD (sCall intD (saCons (sCall (f__law_number T) (saCons (sVar 0) (saCons (sK (.int 0)) saNil))) saNil)) (sK (.int 6)))) (sgName 1))
def t2_law (T : Tb) : SS := (ssAsg (sCall (f__law_items T) (saCons (sVar 0) (saCons (sK (.int 1)) (saCons (sVar 1) (saCons (sK (.int 5)) saNil))))) (sgName 2))
def t3_law (T : Tb) : SS := (ssAsg (sTup (saCons (sCall (makeD 0 true (f_Layout_init T)) (saCons (sVar 1) (saCons (sVar 2) saNil))) (saCons (sCall (f__law_sets T) (saCons (sVar 1) saNil)) saNil))) (sgTup 2 (sgCons (sgName 3) (sgCons (sgName 4) sgNil))))
def t4_law (T : Tb) : SS := (ssAsg (sCall (f_find_dual T) (saCons (sVar 3) saNil)) (sgName 5))
def t5_law (T : Tb) : SS := (ssAsg (sTup (saCons (sCall (f_minimal_losses T) (saCons (sVar 3) saNil)) (saCons (sCall (f_minimal_keepers T) (saCons (sVar 3) saNil)) saNil))) (sgTup 2 (sgCons (sgName 6) (sgCons (sgName 7) sgNil))))
def t6_law (T : Tb) : SS := (ssIf (sOr (sNot (sMeth 13 (fun c => List.lookup c [(1, (f_Dual_shows T))]) (sVar 5) (saCons (sVar 3) saNil))) (sNot (sCall (f__law_is_dual T) (saCons (sVar 2) (saCons (sVar 1) (saCons (sUn (fldD T 2) (sVar 5)) (saCons (sUn (fldD T 3) (sVar 5)) saNil)))))))
  (ssCons (ssRet (sK (.bl false)))
  ssNil)
  ssNil)
def t7_law (T : Tb) : SS := (ssAsg (sOp ixD (sVar 4) (sOp modD (sCall intD (saCons (sCall (f__law_number T) (saCons (sVar 0) (saCons (sK (.int 80)) saNil))) saNil)) (sCall lenD (saCons (sVar 4) saNil)))) (sgName 8))
def t8_law (T : Tb) : SS := (ssAsg (sLst false (saCons (sTup (saCons (sVar 6) (saCons (sVar 7) saNil))) (saCons (sTup (saCons (sOp (addD false) (sVar 6) (sLst false (saCons (sVar 8) saNil))) (saCons (sVar 7) saNil))) (saCons (sTup (saCons (sVar 6) (saCons (sOp (addD false) (sVar 7) (sLst false (saCons (sVar 8) saNil))) saNil))) (saCons (sTup (saCons (sSl false (sVar 6) (soSome (sK (.int 1))) soNone) (saCons (sVar 7) saNil))) saNil))))) (sgName 9))
def t9_law (T : Tb) : SS := (ssAsg (sOp (addD false) (sVar 9) (sLst false (saCons (sTup (saCons (sVar 6) (saCons (sSl false (sVar 7) (soSome (sK (.int 1))) soNone) saNil))) (saCons (sTup (saCons (sUn (revY false) (sVar 6)) (saCons (sOp (addD false) (sUn (revY false) (sVar 7)) (sVar 7)) saNil))) (saCons (sTup (saCons (sLst false saNil) (saCons (sLst false saNil) saNil))) (saCons (sTup (saCons (sLst false (saCons (sTup (saCons (sVar 1) saNil)) saNil)) (saCons (sVar 7) saNil))) saNil)))))) (sgName 9))
def t10_law (T : Tb) : SS := (ssAsg (sOp (addD false) (sVar 9) (sLst false (saCons (sTup (saCons (sOp (addD false) (sVar 6) (sLst false (saCons (sUn (revY false) (sOp ixD (sVar 6) (sK (.int 0)))) saNil))) (saCons (sVar 7) saNil))) (saCons (sTup (saCons (sSl false (sVar 4) (soSome (sUn negD (sK (.int 1)))) soNone) (saCons (sVar 7) saNil))) (saCons (sTup (saCons (sVar 6) (saCons (sSl false (sVar 4) (soSome (sUn negD (sK (.int 1)))) soNone) saNil))) saNil))))) (sgName 9))
def t11_law (T : Tb) : SS := (ssIf (sOp (eqD true) (sMeth 13 (fun c => List.lookup c [(1, (f_Dual_shows T))]) (sCall (makeD 1 true (f_Dual_init T)) (saCons (sVar 10) (saCons (sVar 11) saNil))) (saCons (sVar 3) saNil)) (sCall (f__law_is_dual T) (saCons (sVar 2) (saCons (sVar 1) (saCons (sVar 10) (saCons (sVar 11) saNil))))))
  (ssCons (ssRet (sK (.bl false)))
  ssNil)
  ssNil)
def l12_law (T : Tb) : SS := (ssCons (t11_law T)
  ssNil)
def t12_law (T : Tb) : SS := (ssFor (siSeq (sVar 9)) (sgTup 2 (sgCons (sgName 10) (sgCons (sgName 11) sgNil)))
  (l12_law T))
def t13_law (T : Tb) : SS := (ssAsg (sLc false [14] (siSeq (sVar 6)) (sgName 14) (fun _ h => .ok true h) (sCall (listD true) (saCons (sVar 14) saNil))) (sgName 12))
def t14_law (T : Tb) : SS := (ssAsg (sCall (makeD 1 true (f_Dual_init T)) (saCons (sVar 12) (saCons (sVar 7) saNil))) (sgName 13))
def t15_law (T : Tb) : SS := (ssExpr (sBm clrD (sVar 14) saNil))
def l17_law (T : Tb) : SS := (ssCons (t15_law T)
  ssNil)
def t16_law (T : Tb) : SS := (ssFor (siSeq (sVar 12)) (sgName 14)
  (l17_law T))
def t17_law (T : Tb) : SS := (ssIf (sOr (sOp (neO [(0, (f_Layout___eq__ T)), (1, (f_Dual___eq__ T))]) (sVar 13) (sCall (makeD 1 true (f_Dual_init T)) (saCons (sVar 6) (saCons (sVar 7) saNil)))) (sOr (sOp (eqO [(0, (f_Layout___eq__ T)), (1, (f_Dual___eq__ T))]) (sCall (makeD 1 true (f_Dual_init T)) (saCons (sVar 6) (saCons (sLst false saNil) saNil))) (sVar 13)) (sOp (eqO [(0, (f_Layout___eq__ T)), (1, (f_Dual___eq__ T))]) (sCall (makeD 1 true (f_Dual_init T)) (saCons (sLst false saNil) (saCons (sVar 7) saNil))) (sVar 13))))
  (ssCons (ssRet (sK (.bl false)))
  ssNil)
  ssNil)
def t18_law (T : Tb) : SS := (ssRet (sAnd (sOp (eqD false) (sUn (fldD T 2) (sVar 13)) (sVar 6)) (sOp (eqD false) (sUn (fldD T 3) (sVar 13)) (sVar 7))))
def s_law (T : Tb) : SS := (ssCons (t1_law T)
  (ssCons (t2_law T)
  (ssCons (t3_law T)
  (ssCons (t4_law T)
  (ssCons (t5_law T)
  (ssCons (t6_law T)
  (ssCons (t7_law T)
  (ssCons (t8_law T)
  (ssCons (t9_law T)
  (ssCons (t10_law T)
  (ssCons (t12_law T)
  (ssCons (t13_law T)
  (ssCons (t14_law T)
  (ssCons (t16_law T)
  (ssCons (t17_law T)
  (ssCons (t18_law T)
  ssNil))))))))))))))))
def f_law (T : Tb) : List D → Bs → R D := runFn 1 15 (s_law T)
theorem b_law {Z : Cfg} {X : Cx} {W : WX} (G__law_number : FnG Z "_law_number" 1 (f__law_number Z.T)) (G__law_items : FnG Z "_law_items" 2 (f__law_items Z.T)) (K_Layout : MkG Z "Layout" 0 4 (f_Layout_init Z.T)) (G__law_sets : FnG Z "_law_sets" 4 (f__law_sets Z.T)) (K_Dual : MkG Z "Dual" 1 1 (f_Dual_init Z.T)) (G_minimal_keepers : FnG Z "minimal_keepers" 6 (f_minimal_keepers Z.T)) (G_minimal_losses : FnG Z "minimal_losses" 7 (f_minimal_losses Z.T)) (G_find_dual : FnG Z "find_dual" 8 (f_find_dual Z.T)) (M_Dual_shows : MtG Z 1 "shows" 7 (f_Dual_shows Z.T)) (G__law_is_dual : FnG Z "_law_is_dual" 5 (f__law_is_dual Z.T)) (M_Layout___eq__ : MtG Z 0 "__eq__" 1 (f_Layout___eq__ Z.T)) (M_Dual___eq__ : MtG Z 1 "__eq__" 1 (f_Dual___eq__ Z.T)) (h : XO Z tx 8 ["_law_script", "_law_servers", "_law_items_here", "_law_layout", "_law_every", "_law_found", "_law_losses", "_law_keepers", "_law_drawn", "_law_pairs", "_law_one", "_law_other", "_law_given", "_law_kept", "_law_some"] (defScope d_law) none X W) : PSs X (defBody d_law) (tS' Z.T W (s_law Z.T)) :=
  (psv_cons (s_set h (by decide +kernel) rfl (v_add h pv_int (v_mod h (v_bt B_int h (by decide +kernel) (pav_cons rfl (v_call h G__law_number rfl (by decide +kernel) rfl (pav_cons rfl (v_var (i := 0) h (by decide +kernel)) (pav_cons rfl pv_int pav_nil))) pav_nil)) pv_int)))
  (psv_cons (s_set h (by decide +kernel) rfl (v_call h G__law_items rfl (by decide +kernel) rfl (pav_cons rfl (v_var (i := 0) h (by decide +kernel)) (pav_cons rfl pv_int (pav_cons rfl (v_var (i := 1) h (by decide +kernel)) (pav_cons rfl pv_int pav_nil))))))
  (psv_cons (s_par h (by decide +kernel) (by decide +kernel) (by decide +kernel) (by decide +kernel) (pav_cons rfl (v_make h K_Layout rfl (by decide +kernel) rfl (pav_cons rfl (v_var (i := 1) h (by decide +kernel)) (pav_cons rfl (v_var (i := 2) h (by decide +kernel)) pav_nil))) (pav_cons rfl (v_call h G__law_sets rfl (by decide +kernel) rfl (pav_cons rfl (v_var (i := 1) h (by decide +kernel)) pav_nil)) pav_nil)))
  (psv_cons (s_set h (by decide +kernel) rfl (v_call h G_find_dual rfl (by decide +kernel) rfl (pav_cons rfl (v_var (i := 3) h (by decide +kernel)) pav_nil)))
  (psv_cons (s_par h (by decide +kernel) (by decide +kernel) (by decide +kernel) (by decide +kernel) (pav_cons rfl (v_call h G_minimal_losses rfl (by decide +kernel) rfl (pav_cons rfl (v_var (i := 3) h (by decide +kernel)) pav_nil)) (pav_cons rfl (v_call h G_minimal_keepers rfl (by decide +kernel) rfl (pav_cons rfl (v_var (i := 3) h (by decide +kernel)) pav_nil)) pav_nil)))
  (psv_cons (psv_if (PW.pt (pvt_or (pvt_not (pvt_val rfl (v_meth (i := 13) (j := 7) h (MtL.cons M_Dual_shows (rfl : Nat.ble 7 7 = true) MtL.nil) rfl rfl (by decide +kernel) (v_var (i := 5) h (by decide +kernel)) (pav_cons rfl (v_var (i := 3) h (by decide +kernel)) pav_nil)))) (pvt_or1 (pvt_not (pvt_val rfl (v_call h G__law_is_dual rfl (by decide +kernel) rfl (pav_cons rfl (v_var (i := 2) h (by decide +kernel)) (pav_cons rfl (v_var (i := 1) h (by decide +kernel)) (pav_cons rfl (v_fld (i := 2) h rfl rfl (v_var (i := 5) h (by decide +kernel))) (pav_cons rfl (v_fld (i := 3) h rfl rfl (v_var (i := 5) h (by decide +kernel))) pav_nil))))))))))
  (psv_cons (psv_ret pv_bl)
  psv_nil)
  psv_nil)
  (psv_cons (s_set h (by decide +kernel) rfl (v_ix h rfl (v_var (i := 4) h (by decide +kernel)) (v_mod h (v_bt B_int h (by decide +kernel) (pav_cons rfl (v_call h G__law_number rfl (by decide +kernel) rfl (pav_cons rfl (v_var (i := 0) h (by decide +kernel)) (pav_cons rfl pv_int pav_nil))) pav_nil)) (v_bf B_len h (by decide +kernel) (pav_cons rfl (v_var (i := 4) h (by decide +kernel)) pav_nil)))))
  (psv_cons (s_set h (by decide +kernel) rfl (pv_lst (pav_cons rfl (pv_tup (pav_cons rfl (v_var (i := 6) h (by decide +kernel)) (pav_cons rfl (v_var (i := 7) h (by decide +kernel)) pav_nil))) (pav_cons rfl (pv_tup (pav_cons rfl (v_add h (v_var (i := 6) h (by decide +kernel)) (pv_lst (pav_cons rfl (v_var (i := 8) h (by decide +kernel)) pav_nil))) (pav_cons rfl (v_var (i := 7) h (by decide +kernel)) pav_nil))) (pav_cons rfl (pv_tup (pav_cons rfl (v_var (i := 6) h (by decide +kernel)) (pav_cons rfl (v_add h (v_var (i := 7) h (by decide +kernel)) (pv_lst (pav_cons rfl (v_var (i := 8) h (by decide +kernel)) pav_nil))) pav_nil))) (pav_cons rfl (pv_tup (pav_cons rfl (v_sl h (v_var (i := 6) h (by decide +kernel)) (pov_some pv_int) pov_none) (pav_cons rfl (v_var (i := 7) h (by decide +kernel)) pav_nil))) pav_nil))))))
  (psv_cons (s_set h (by decide +kernel) rfl (v_add h (v_var (i := 9) h (by decide +kernel)) (pv_lst (pav_cons rfl (pv_tup (pav_cons rfl (v_var (i := 6) h (by decide +kernel)) (pav_cons rfl (v_sl h (v_var (i := 7) h (by decide +kernel)) (pov_some pv_int) pov_none) pav_nil))) (pav_cons rfl (pv_tup (pav_cons rfl (pv_revY h.K (v_var (i := 6) h (by decide +kernel))) (pav_cons rfl (v_add h (pv_revY h.K (v_var (i := 7) h (by decide +kernel))) (v_var (i := 7) h (by decide +kernel))) pav_nil))) (pav_cons rfl (pv_tup (pav_cons rfl (pv_lst pav_nil) (pav_cons rfl (pv_lst pav_nil) pav_nil))) (pav_cons rfl (pv_tup (pav_cons rfl (pv_lst (pav_cons rfl (pv_tup (pav_cons rfl (v_var (i := 1) h (by decide +kernel)) pav_nil)) pav_nil)) (pav_cons rfl (v_var (i := 7) h (by decide +kernel)) pav_nil))) pav_nil)))))))
  (psv_cons (s_set h (by decide +kernel) rfl (v_add h (v_var (i := 9) h (by decide +kernel)) (pv_lst (pav_cons rfl (pv_tup (pav_cons rfl (v_add h (v_var (i := 6) h (by decide +kernel)) (pv_lst (pav_cons rfl (pv_revY h.K (v_ix h rfl (v_var (i := 6) h (by decide +kernel)) pv_int)) pav_nil))) (pav_cons rfl (v_var (i := 7) h (by decide +kernel)) pav_nil))) (pav_cons rfl (pv_tup (pav_cons rfl (v_sl h (v_var (i := 4) h (by decide +kernel)) (pov_some (pv_neg pv_int)) pov_none) (pav_cons rfl (v_var (i := 7) h (by decide +kernel)) pav_nil))) (pav_cons rfl (pv_tup (pav_cons rfl (v_var (i := 6) h (by decide +kernel)) (pav_cons rfl (v_sl h (v_var (i := 4) h (by decide +kernel)) (pov_some (pv_neg pv_int)) pov_none) pav_nil))) pav_nil))))))
  (psv_cons (s_for (own := [10, 11]) h rfl (i_seq h (v_var (i := 9) h (by decide +kernel))) (g_tup h rfl (pgsv_cons rfl (g_name h (by decide +kernel) rfl) (pgsv_cons rfl (g_name h (by decide +kernel) rfl) pgsv_nil)))
  (psv_cons (psv_if (t_cmp C_ne h rfl (v_meth (i := 13) (j := 7) h (MtL.cons M_Dual_shows (rfl : Nat.ble 7 7 = true) MtL.nil) rfl rfl (by decide +kernel) (v_make h K_Dual rfl (by decide +kernel) rfl (pav_cons rfl (v_var (i := 10) h (by decide +kernel)) (pav_cons rfl (v_var (i := 11) h (by decide +kernel)) pav_nil))) (pav_cons rfl (v_var (i := 3) h (by decide +kernel)) pav_nil)) (v_call h G__law_is_dual rfl (by decide +kernel) rfl (pav_cons rfl (v_var (i := 2) h (by decide +kernel)) (pav_cons rfl (v_var (i := 1) h (by decide +kernel)) (pav_cons rfl (v_var (i := 10) h (by decide +kernel)) (pav_cons rfl (v_var (i := 11) h (by decide +kernel)) pav_nil))))))
  (psv_cons (psv_ret pv_bl)
  psv_nil)
  psv_nil)
  psv_nil))
  (psv_cons (s_setLc (own := [("_law_some", 14)]) h (by decide +kernel) (by decide +kernel) (i_seq h (v_var (i := 6) h (by decide +kernel))) (fun _ h1 => ⟨(g_name h1 (by decide +kernel) rfl), ptv_nil, (v_bt B_list h1 (by decide +kernel) (pav_cons rfl (v_var (i := 14) h1 (by decide +kernel)) pav_nil))⟩))
  (psv_cons (s_set h (by decide +kernel) rfl (v_make h K_Dual rfl (by decide +kernel) rfl (pav_cons rfl (v_var (i := 12) h (by decide +kernel)) (pav_cons rfl (v_var (i := 7) h (by decide +kernel)) pav_nil))))
  (psv_cons (s_for (own := [14]) h rfl (i_seq h (v_var (i := 12) h (by decide +kernel))) (g_name h (by decide +kernel) rfl)
  (psv_cons (psv_expr rfl (v_bm0 M_clear h (by decide +kernel) (v_var (i := 14) h (by decide +kernel))))
  psv_nil))
  (psv_cons (psv_if (PW.pt (pvt_or (t_neO (j := 1) h (MtL.cons M_Layout___eq__ (rfl : Nat.ble 1 1 = true) (MtL.cons M_Dual___eq__ (rfl : Nat.ble 1 1 = true) MtL.nil)) rfl rfl (v_var (i := 13) h (by decide +kernel)) (v_make h K_Dual rfl (by decide +kernel) rfl (pav_cons rfl (v_var (i := 6) h (by decide +kernel)) (pav_cons rfl (v_var (i := 7) h (by decide +kernel)) pav_nil)))) (pvt_or (t_eqO (j := 1) h (MtL.cons M_Layout___eq__ (rfl : Nat.ble 1 1 = true) (MtL.cons M_Dual___eq__ (rfl : Nat.ble 1 1 = true) MtL.nil)) rfl rfl (v_make h K_Dual rfl (by decide +kernel) rfl (pav_cons rfl (v_var (i := 6) h (by decide +kernel)) (pav_cons rfl (pv_lst pav_nil) pav_nil))) (v_var (i := 13) h (by decide +kernel))) (pvt_or1 (t_eqO (j := 1) h (MtL.cons M_Layout___eq__ (rfl : Nat.ble 1 1 = true) (MtL.cons M_Dual___eq__ (rfl : Nat.ble 1 1 = true) MtL.nil)) rfl rfl (v_make h K_Dual rfl (by decide +kernel) rfl (pav_cons rfl (pv_lst pav_nil) (pav_cons rfl (v_var (i := 7) h (by decide +kernel)) pav_nil))) (v_var (i := 13) h (by decide +kernel)))))))
  (psv_cons (psv_ret pv_bl)
  psv_nil)
  psv_nil)
  (psv_cons (psv_ret (pv_and (v_cmp C_eq h rfl (v_fld (i := 2) h rfl rfl (v_var (i := 13) h (by decide +kernel))) (v_var (i := 6) h (by decide +kernel))) (pv_one (v_cmp C_eq h rfl (v_fld (i := 3) h rfl rfl (v_var (i := 13) h (by decide +kernel))) (v_var (i := 7) h (by decide +kernel))))))
  psv_nil))))))))))))))))
theorem g_law {Z : Cfg} (z : Z.Ok tx) (D : DefAt Z "law" d_law) (G__law_number : FnG Z "_law_number" 1 (f__law_number Z.T)) (G__law_items : FnG Z "_law_items" 2 (f__law_items Z.T)) (K_Layout : MkG Z "Layout" 0 4 (f_Layout_init Z.T)) (G__law_sets : FnG Z "_law_sets" 4 (f__law_sets Z.T)) (K_Dual : MkG Z "Dual" 1 1 (f_Dual_init Z.T)) (G_minimal_keepers : FnG Z "minimal_keepers" 6 (f_minimal_keepers Z.T)) (G_minimal_losses : FnG Z "minimal_losses" 7 (f_minimal_losses Z.T)) (G_find_dual : FnG Z "find_dual" 8 (f_find_dual Z.T)) (M_Dual_shows : MtG Z 1 "shows" 7 (f_Dual_shows Z.T)) (G__law_is_dual : FnG Z "_law_is_dual" 5 (f__law_is_dual Z.T)) (M_Layout___eq__ : MtG Z 0 "__eq__" 1 (f_Layout___eq__ Z.T)) (M_Dual___eq__ : MtG Z 1 "__eq__" 1 (f_Dual___eq__ Z.T)) : FnG Z "law" 9 (f_law Z.T) :=
  fn_of (k := 8) (N := ["_law_script", "_law_servers", "_law_items_here", "_law_layout", "_law_every", "_law_found", "_law_losses", "_law_keepers", "_law_drawn", "_law_pairs", "_law_one", "_law_other", "_law_given", "_law_kept", "_law_some"]) (ps := ["_law_script"]) z D ⟨rfl, rfl, rfl, by decide +kernel, rfl, by decide +kernel, by decide +kernel⟩ (fun _ _ _ _ _ _ us hl => match us, hl with | [_], _ => rfl) fun X W h => b_law G__law_number G__law_items K_Layout G__law_sets K_Dual G_minimal_keepers G_minimal_losses G_find_dual M_Dual_shows G__law_is_dual M_Layout___eq__ M_Dual___eq__ h
end VI.K21
end
section
namespace VI.K21
open PySem PySem.Spec PyProof.Rows L2 VI
/-! ### the head -/
def dd__law_number : He.DefD := ⟨("_law_number", none), "_law_number", "_law_number", defArgs d__law_number, defBody d__law_number, defScope d__law_number, [], []⟩
def dd__law_items : He.DefD := ⟨("_law_items", none), "_law_items", "_law_items", defArgs d__law_items, defBody d__law_items, defScope d__law_items, [], []⟩
def dd_is_number : He.DefD := ⟨("is_number", none), "is_number", "is_number", defArgs d_is_number, defBody d_is_number, defScope d_is_number, [], []⟩
def dd_is_set : He.DefD := ⟨("is_set", none), "is_set", "is_set", defArgs d_is_set, defBody d_is_set, defScope d_is_set, [], []⟩
def dd_is_item : He.DefD := ⟨("is_item", none), "is_item", "is_item", defArgs d_is_item, defBody d_is_item, defScope d_is_item, [], []⟩
def dd_Layout_init : He.DefD := ⟨("Layout", some "__init__"), "__init__", "Layout.__init__", defArgs d_Layout_init, defBody d_Layout_init, defScope d_Layout_init, [], []⟩
def dd__law_sets : He.DefD := ⟨("_law_sets", none), "_law_sets", "_law_sets", defArgs d__law_sets, defBody d__law_sets, defScope d__law_sets, [], []⟩
def dd_Dual_init : He.DefD := ⟨("Dual", some "__init__"), "__init__", "Dual.__init__", defArgs d_Dual_init, defBody d_Dual_init, defScope d_Dual_init, [], []⟩
def dd_check_layout : He.DefD := ⟨("check_layout", none), "check_layout", "check_layout", defArgs d_check_layout, defBody d_check_layout, defScope d_check_layout, [], []⟩
def dd_is_within : He.DefD := ⟨("is_within", none), "is_within", "is_within", defArgs d_is_within, defBody d_is_within, defScope d_is_within, [], []⟩
def dd_minimal : He.DefD := ⟨("minimal", none), "minimal", "minimal", defArgs d_minimal, defBody d_minimal, defScope d_minimal, [], []⟩
def dd_sets_of : He.DefD := ⟨("sets_of", none), "sets_of", "sets_of", defArgs d_sets_of, defBody d_sets_of, defScope d_sets_of, [], []⟩
def dd_check_set : He.DefD := ⟨("check_set", none), "check_set", "check_set", defArgs d_check_set, defBody d_check_set, defScope d_check_set, [], []⟩
def dd_common : He.DefD := ⟨("common", none), "common", "common", defArgs d_common, defBody d_common, defScope d_common, [], []⟩
def dd_Layout_readable : He.DefD := ⟨("Layout", some "readable"), "readable", "Layout.readable", defArgs d_Layout_readable, defBody d_Layout_readable, defScope d_Layout_readable, [], []⟩
def dd_Layout___len__ : He.DefD := ⟨("Layout", some "__len__"), "__len__", "Layout.__len__", defArgs d_Layout___len__, defBody d_Layout___len__, defScope d_Layout___len__, [], []⟩
def dd_is_keeping : He.DefD := ⟨("is_keeping", none), "is_keeping", "is_keeping", defArgs d_is_keeping, defBody d_is_keeping, defScope d_is_keeping, [], []⟩
def dd_minimal_keepers : He.DefD := ⟨("minimal_keepers", none), "minimal_keepers", "minimal_keepers", defArgs d_minimal_keepers, defBody d_minimal_keepers, defScope d_minimal_keepers, [], []⟩
def dd_others_of : He.DefD := ⟨("others_of", none), "others_of", "others_of", defArgs d_others_of, defBody d_others_of, defScope d_others_of, [], []⟩
def dd_is_losing : He.DefD := ⟨("is_losing", none), "is_losing", "is_losing", defArgs d_is_losing, defBody d_is_losing, defScope d_is_losing, [], []⟩
def dd_minimal_losses : He.DefD := ⟨("minimal_losses", none), "minimal_losses", "minimal_losses", defArgs d_minimal_losses, defBody d_minimal_losses, defScope d_minimal_losses, [], []⟩
def dd_find_dual : He.DefD := ⟨("find_dual", none), "find_dual", "find_dual", defArgs d_find_dual, defBody d_find_dual, defScope d_find_dual, [], []⟩
def dd_Dual_settles : He.DefD := ⟨("Dual", some "settles"), "settles", "Dual.settles", defArgs d_Dual_settles, defBody d_Dual_settles, defScope d_Dual_settles, [], []⟩
def dd_Dual_shows : He.DefD := ⟨("Dual", some "shows"), "shows", "Dual.shows", defArgs d_Dual_shows, defBody d_Dual_shows, defScope d_Dual_shows, [], []⟩
def dd__law_lost : He.DefD := ⟨("_law_lost", none), "_law_lost", "_law_lost", defArgs d__law_lost, defBody d__law_lost, defScope d__law_lost, [], []⟩
def dd__law_within : He.DefD := ⟨("_law_within", none), "_law_within", "_law_within", defArgs d__law_within, defBody d__law_within, defScope d__law_within, [], []⟩
def dd__law_is_dual : He.DefD := ⟨("_law_is_dual", none), "_law_is_dual", "_law_is_dual", defArgs d__law_is_dual, defBody d__law_is_dual, defScope d__law_is_dual, [], []⟩
def dd_Layout___eq__ : He.DefD := ⟨("Layout", some "__eq__"), "__eq__", "Layout.__eq__", defArgs d_Layout___eq__, defBody d_Layout___eq__, defScope d_Layout___eq__, [], []⟩
def dd_Dual___eq__ : He.DefD := ⟨("Dual", some "__eq__"), "__eq__", "Dual.__eq__", defArgs d_Dual___eq__, defBody d_Dual___eq__, defScope d_Dual___eq__, [], []⟩
def dd_law : He.DefD := ⟨("law", none), "law", "law", defArgs d_law, defBody d_law, defScope d_law, [], []⟩
def fn : List He.DefD := [dd__law_number, dd__law_items, dd_is_number, dd_is_set, dd_is_item, dd_Layout_init, dd__law_sets, dd_Dual_init, dd_check_layout, dd_is_within, dd_minimal, dd_sets_of, dd_check_set, dd_common, dd_Layout_readable, dd_Layout___len__, dd_is_keeping, dd_minimal_keepers, dd_others_of, dd_is_losing, dd_minimal_losses, dd_find_dual, dd_Dual_settles, dd_Dual_shows, dd__law_lost, dd__law_within, dd__law_is_dual, dd_Layout___eq__, dd_Dual___eq__, dd_law]
def fa : List He.Fa := [.glo "_law_number", .glo "_law_items", .glo "is_number", .glo "is_set", .glo "is_item", .mkr "Layout", .glo "_law_sets", .mkr "Dual", .glo "check_layout", .glo "is_within", .glo "minimal", .glo "sets_of", .glo "check_set", .glo "common", .meth "Layout" "readable", .meth "Layout" "__len__", .glo "is_keeping", .glo "minimal_keepers", .glo "others_of", .glo "is_losing", .glo "minimal_losses", .glo "find_dual", .meth "Dual" "settles", .meth "Dual" "shows", .glo "_law_lost", .glo "_law_within", .glo "_law_is_dual", .meth "Layout" "__eq__", .meth "Dual" "__eq__", .glo "law", .free "all", .free "any", .free "bool", .free "enumerate", .free "int", .free "isinstance", .free "len", .free "list", .free "range", .free "sorted", .free "tuple", .free "zip", .int "MOST_SERVERS" 8, .int "MOST_ITEMS" 10, .glo "Layout", .keep "Layout", .glo "Dual", .keep "Dual"]
def ct : Ct := ⟨["Layout", "Dual"], ["servers", "entries", "losses", "keepers", "__eq__", "__len__", "__getitem__", "__iter__", "loads", "held", "partners", "readable", "renamed", "shows", "settles"], [(0, 0), (0, 1), (1, 2), (1, 3)], [1, 2, 4, 5, 7, 8], [(("_law_sets", none), "_law_sets"), (("sets_of", none), "sets_of")]⟩
abbrev Rr : PySem.W.OpenRow := PySem.W.OpenLaw.row PySem.Challenge.rw_copylots_k21_whole_dual
abbrev hk : PySem.W.Hook := hookT 7 ct fa fn
def ob (s : PySem.W.SharedT) : He.AlD × Bool := obsT 7 ct fa fn (HandSHeadRun.getT s)
theorem ob_eq (s : PySem.W.SharedT) : ob s = hk.obs s.abs := obsT_eq (HandSHeadRun.getT_eq s)
def loose0 : List Str := ["_wall", "LotError", "BadServers", "BadItems", "BadLayout", "BadSet", "BadIndex", "MOST_SERVERS", "MOST_ITEMS", "is_number", "is_set", "is_item", "Layout", "check_layout", "check_set", "common", "others_of", "sets_of", "Dual", "is_within", "is_keeping", "is_losing", "minimal", "minimal_losses", "minimal_keepers", "find_dual", "_law_number", "_law_items", "_law_sets", "_law_lost"]
def loose1 : List Str := ["_law_within", "_law_is_dual"]
abbrev loose : List Str := loose0 ++ loose1
theorem run (w : World) : HandSHeadRun.RunEq Rr (PySem.W.view Rr.prog [36]) hk ob 4000 loose w := by
  intro os
  kernel_rfl
end VI.K21
end
section
namespace VI.K21
open PySem PySem.Spec PyProof.Rows L2 VI VI.Std VI.Lay
section
variable {K : PySem.W.Frag} {h : Bs} {ns : List Int} {n : Nat} {its : List Lay.It} {X Y : List Int} {A B : List (List Int)}
theorem layT : LayT (tbC ct K) := ⟨rfl, rfl, rfl, rfl⟩
/-! ### is_set, for any tuple -/
def setB (n : Nat) (X : List Int) : Bool := (X.all fun x => decide (0 ≤ x) && decide (x ≤ (n : Int) - 1)) && (X.zip (X.drop 1)).all fun p => decide (p.1 < p.2)
theorem adj_up : ∀ X : List Int, ((X.zip (X.drop 1)).all fun p => decide (p.1 < p.2)) = true → X.Pairwise (· < ·)
  | [], _ => .nil
  | [x], _ => by simp
  | x :: y :: X, e => by
    have e' : (decide (x < y) && (((y :: X).zip ((y :: X).drop 1)).all fun p => decide (p.1 < p.2))) = true := e
    rw [Bool.and_eq_true, decide_eq_true_eq] at e'
    have ih := adj_up (y :: X) e'.2
    rw [List.pairwise_cons]
    refine ⟨fun z hz => ?_, ih⟩
    rcases List.mem_cons.mp hz with q | q
    · rw [q]; exact e'.1
    · have := (List.pairwise_cons.mp ih).1 z q
      have := e'.1
      omega
theorem setB_iff : setB n X = true ↔ SetN n X := by
  unfold setB
  rw [Bool.and_eq_true, List.all_eq_true]
  constructor
  · rintro ⟨a, b⟩
    refine ⟨adj_up X b, fun x hx => ?_⟩
    have := a x hx
    simp only [Bool.and_eq_true, decide_eq_true_eq] at this
    omega
  · intro hX
    refine ⟨fun x hx => ?_, ?_⟩
    · have := hX.lo x hx
      simp only [Bool.and_eq_true, decide_eq_true_eq]
      omega
    · rw [List.all_eq_true]
      intro p hp
      obtain ⟨i, hi, rfl⟩ := List.getElem_of_mem hp
      rw [List.getElem_zip, List.getElem_drop]
      have hi' : 1 + i < X.length := by rw [List.length_zip, List.length_drop] at hi; omega
      have := List.pairwise_iff_getElem.mp hX.up i (1 + i) (by omega) hi' (by omega)
      simpa using this
theorem set_okB (hl : X.length ≤ 1000) : f_is_set (tbC ct K) [tI X, .int n] h = .ok (.bl (setB n X)) h := by
  have sz : (1000 : Nat) ≤ sizeLine := by decide
  refine run_rt rfl ?_ rfl
  show sSet (tbC ct K) [some (tI X), some (.int n), none, none, none] (inB h) = _
  unfold sSet setB
  have c1 := or_ok (sa := sNot (sUn (isiD (tbC ct K) 4) (sVar 0))) (h := inB h) (ρ := [some (tI X), some (.int n), none, none, none]) (a := false) (not_ok (a := true) rfl) fun _ => not_ok (all_emb (h := inB h) (own := [4]) (g := sgName 4) .int X (fun x => decide (0 ≤ x) && decide (x ≤ (n : Int) - 1)) (it := siSeq (sVar 0)) (ρ := [some (tI X), some (.int n), none, none, none]) (el := sCall (fNum (tbC ct K)) (saCons (sVar 4) (saCons (sK (.int 0)) (saCons (sOp subD (sVar 1) (sK (.int 1))) saNil)))) rfl (fun x hx => ⟨_, rfl, call_ok (h1 := inB h) (xs := [.int x, .int 0, .int ((n : Int) - 1)]) rfl (num_ok (ct := ct) (K := K))⟩) (by omega))
  rw [Bool.false_or] at c1
  have c2 := if_ok (t := (ssCons (ssRet (sK (.bl false))) ssNil)) (u := ssNil) c1
  cases q : X.all fun x => decide (0 ≤ x) && decide (x ≤ (n : Int) - 1) with
  | false =>
    rw [q] at c2
    exact cons_rt (c2.trans rfl)
  | true =>
    rw [q] at c2
    rw [Bool.true_and]
    refine (cons_nx (c2.trans rfl)).trans ?_
    exact ret_ok (all_emb (h := inB h) pT (X.zip (X.drop 1)) (fun p => decide (p.1 < p.2)) (arg_ok (h1 := inB h) (xs := [tI X, tI (X.drop 1)]) (cons_ok (h1 := inB h) rfl (cons_ok (h1 := inB h) (slOk rfl (soOk rfl) rfl (slT_lo (n := 1) (by omega))) rfl)) (zipT.trans (by rw [zip_ints]))) (fun p hp => ⟨_, rfl, op_ok (x := .int p.1) (y := .int p.2) rfl rfl lt_ok⟩) (by rw [List.length_zip]; omega))
/-! ### a dual -/
def oD (A B : List (List Int)) : D := .obj 1 [2, 3] [lT A, lT B]
theorem fld2 : fldD (tbC ct K) 2 (oD A B) h = .ok (lT A) h := rfl
theorem fld3 : fldD (tbC ct K) 3 (oD A B) h = .ok (lT B) h := rfl
theorem noR_lT : ∀ A : List (List Int), noRs (A.map fun X => tI X) = true
  | [] => rfl
  | X :: A => by simp only [List.map_cons, noRs, noR, noR_ints, noR_lT A, Bool.and_self]
/-- the state is one that goes on from h -/
def Ext (h g : Bs) : Prop := ∀ (b : Nat) (x : Bx), h.bs[b]? = some x → g.bs[b]? = some x
theorem make_dual {α : Type} {eA eB : α → D} {vA vB : α → List Int} {lA lB : List α} (hA : lA.length ≤ 1000) (hB : lB.length ≤ 1000) (gA : ∀ a ∈ lA, ∀ g, Ext h g → tupleD [eA a] g = .ok (tI (vA a)) g) (gB : ∀ a ∈ lB, ∀ g, Ext h g → tupleD [eB a] g = .ok (tI (vB a)) g) :
    makeD 1 true (f_Dual_init (tbC ct K)) [.lst (lA.map eA), .lst (lB.map eB)] h = .ok (oD (lA.map vA) (lB.map vB)) h := by
  have sz : (1000 : Nat) ≤ sizeLine := by decide
  have lc : ∀ {i : Nat} {l : List α} {e : α → D} {v : α → List Int} {ρ : Ev} {g : Bs}, l.length ≤ 1000 → Ext h g → ρ[i]? = some (some (.lst (l.map e))) → 3 < ρ.length → (∀ a ∈ l, ∀ g, Ext h g → tupleD [e a] g = .ok (tI (v a)) g) → (sLc false [3] (siSeq (sVar i)) (sgName 3) (fun _ h => .ok true h) (sCall tupleD (saCons (sVar 3) saNil))) ρ g = .ok (lT (l.map v)) g := by
    intro i l e v ρ g hl hg hi h3 ge
    refine lc_ok (xs := l.map e) (seq_ok (var_ok hi) rfl) ?_ (by rw [List.length_map, List.length_map]; omega)
    rw [List.map_map]
    refine lc_emb1 e _ l fun a ha => ⟨(wipeE ρ [3]).set 3 (some (e a)), rfl, call_ok (cons_ok (var_ok ?_) rfl) (ge a ha g hg)⟩
    exact List.getElem?_set_self (by simpa [wipeE] using h3)
  have e2 : f_Dual_init (tbC ct K) [.ref h.bs.length, .lst (lA.map eA), .lst (lB.map eB)] ⟨h.bs.length :: h.fbs, h.bs ++ [.obj 1 [] []]⟩ = .ok .non ⟨h.bs.length :: h.fbs, h.bs ++ [.obj 1 [2, 3] [lT (lA.map vA), lT (lB.map vB)]]⟩ := by
    have e3 : ∀ fs xs, fs.length < 1000 → ∀ (f : Nat) (v : D), (tbC ct K).fok 1 f = true → noR v = true → setF (tbC ct K) f (.ref h.bs.length) v (⟨(h.bs.length + 1) :: h.bs.length :: h.fbs, h.bs ++ [.obj 1 fs xs]⟩ : Bs) = .ok .non ⟨(h.bs.length + 1) :: h.bs.length :: h.fbs, h.bs ++ [.obj 1 (putN f fs) (putX f v fs xs)]⟩ := by
      intro fs xs hfs f v g3 nr
      have g1 : (h.bs ++ [Bx.obj 1 fs xs])[h.bs.length]? = some (.obj 1 fs xs) := by simp
      have g2 : okW (⟨(h.bs.length + 1) :: h.bs.length :: h.fbs, h.bs ++ [.obj 1 fs xs]⟩ : Bs) h.bs.length v = true := by
        show (decide (h.bs.length + 1 ≤ h.bs.length) || noR v) = true
        rw [nr, Bool.or_true]
      simp -implicitDefEqProofs only [setF, g1, g2, g3, Bool.and_self, Bool.true_and]
      rw [if_pos (decide_eq_true hfs)]
      simp
    have ext : ∀ x, Ext h (⟨(h.bs.length + 1) :: h.bs.length :: h.fbs, h.bs ++ [x]⟩ : Bs) := fun x b y e => by
      show (h.bs ++ [x])[b]? = _
      rw [List.getElem?_append_left (List.getElem?_eq_some_iff.mp e).1]
      exact e
    have hb : s_Dual_init (tbC ct K) [some (.ref h.bs.length), some (.lst (lA.map eA)), some (.lst (lB.map eB)), none] (⟨(h.bs.length + 1) :: h.bs.length :: h.fbs, h.bs ++ [.obj 1 [] []]⟩ : Bs) = .nx [some (.ref h.bs.length), some (.lst (lA.map eA)), some (.lst (lB.map eB)), none] ⟨(h.bs.length + 1) :: h.bs.length :: h.fbs, h.bs ++ [.obj 1 [2, 3] [lT (lA.map vA), lT (lB.map vB)]]⟩ := by
      unfold s_Dual_init
      refine (cons_nx (ρ1 := [some (.ref h.bs.length), some (.lst (lA.map eA)), some (.lst (lB.map eB)), none]) (h1 := ⟨(h.bs.length + 1) :: h.bs.length :: h.fbs, h.bs ++ [.obj 1 [2] [lT (lA.map vA)]]⟩) ?_).trans ((cons_nx (ρ1 := [some (.ref h.bs.length), some (.lst (lA.map eA)), some (.lst (lB.map eB)), none]) (h1 := ⟨(h.bs.length + 1) :: h.bs.length :: h.fbs, h.bs ++ [.obj 1 [2, 3] [lT (lA.map vA), lT (lB.map vB)]]⟩) ?_).trans rfl)
      · unfold ssFld
        rw [lc (i := 1) (l := lA) (e := eA) (v := vA) (ρ := [some (.ref h.bs.length), some (.lst (lA.map eA)), some (.lst (lB.map eB)), none]) hA (ext _) rfl (show 3 < 4 by decide) gA]
        show (setF (tbC ct K) 2 (.ref h.bs.length) (lT (lA.map vA)) _).toF _ _ = _
        rw [e3 [] [] (by decide) 2 _ rfl (by simp only [noR]; exact noR_lT _)]
        rfl
      · unfold ssFld
        rw [lc (i := 2) (l := lB) (e := eB) (v := vB) (ρ := [some (.ref h.bs.length), some (.lst (lA.map eA)), some (.lst (lB.map eB)), none]) hB (ext _) rfl (show 3 < 4 by decide) gB]
        show (setF (tbC ct K) 3 (.ref h.bs.length) (lT (lB.map vB)) _).toF _ _ = _
        rw [e3 [2] [lT (lA.map vA)] (by decide) 3 _ rfl (by simp only [noR]; exact noR_lT _)]
        rfl
    unfold f_Dual_init runFn
    rw [if_pos (by rfl), show slots 4 [.ref h.bs.length, .lst (lA.map eA), .lst (lB.map eB)] = [some (.ref h.bs.length), some (.lst (lA.map eA)), some (.lst (lB.map eB)), none] from rfl]
    have hi : inB (⟨h.bs.length :: h.fbs, h.bs ++ [.obj 1 [] []]⟩ : Bs) = ⟨(h.bs.length + 1) :: h.bs.length :: h.fbs, h.bs ++ [.obj 1 [] []]⟩ := by simp [inB]
    rw [hi, hb]
    simp [finF, outB]
    exact List.take_of_length_le (by simp)
  unfold makeD
  rw [e2]
  have nd : noDs [lT (lA.map vA), lT (lB.map vB)] = true := by simp only [noDs, noD_lT, Bool.and_self]
  have f1 : frzR h.bs.length (h.bs ++ [.obj 1 [2, 3] [lT (lA.map vA), lT (lB.map vB)]]) 4 h.bs.length = some (oD (lA.map vA) (lB.map vB)) := by
    simp -implicitDefEqProofs only [frzR]
    rw [if_neg (by omega), List.getElem?_append_right (Nat.le_refl _), Nat.sub_self]
    simp -implicitDefEqProofs only [List.getElem?_cons_zero, frzDs_id _ _ nd]
    rfl
  simp -implicitDefEqProofs only [f1, outB]
  simp
theorem tup_t {g : Bs} : tupleD [tI X] g = .ok (tI X) g := rfl
theorem make_ok2 (hA : A.length ≤ 1000) (hB : B.length ≤ 1000) : makeD 1 true (f_Dual_init (tbC ct K)) [lT A, lT B] h = .ok (oD A B) h := by
  have := make_dual (K := K) (h := h) (eA := fun X => tI X) (eB := fun X => tI X) (vA := id) (vB := id) (lA := A) (lB := B) hA hB (fun _ _ _ _ => rfl) (fun _ _ _ _ => rfl)
  rw [List.map_id, List.map_id] at this
  exact this
/-! ### what settles -/
def stl (n : Nat) (A B : List (List Int)) (Y : List Int) : Bool := A.any (fun X => wi X Y) || B.any fun X => wi X (oth n Y)
theorem settles_ok (hn : n ≤ 8) (hA : A.length ≤ 1000) (hB : B.length ≤ 1000) (lA : ∀ X ∈ A, X.length ≤ 1000) (lB : ∀ X ∈ B, X.length ≤ 1000) : f_Dual_settles (tbC ct K) [oD A B, oL n its, tI Y] h = .ok (.bl (stl n A B Y)) h := by
  have sz : (1000 : Nat) ≤ sizeLine := by decide
  have L := layT (K := K)
  refine run_rt rfl ?_ rfl
  show s_Dual_settles (tbC ct K) [some (oD A B), some (oL n its), some (tI Y), none, none] (inB h) = _
  unfold s_Dual_settles stl
  refine (cons_nx (asg_ok (call_ok (h1 := inB h) (xs := [.int n, tI Y]) (cons_ok (h1 := inB h) (un_ok (x := oL n its) rfl (fld0 L)) (cons_ok (h1 := inB h) rfl rfl)) (others_ok (by omega))) rfl)).trans ?_
  have c1 := if_ok (t := (ssCons (ssRet (sK (.bl true))) ssNil)) (u := ssNil) (any_emb (h := inB h) (own := [4]) (g := sgName 4) (fun X => tI X) A (fun X => wi X Y) (it := siSeq (sUn (fldD (tbC ct K) 2) (sVar 0))) (ρ := [some (oD A B), some (oL n its), some (tI Y), some (tI (oth n Y)), none]) (el := sCall (f_is_within (tbC ct K)) (saCons (sVar 4) (saCons (sVar 2) saNil))) rfl (fun X hX => ⟨_, rfl, call_ok (h1 := inB h) (xs := [tI X, tI Y]) rfl (within_ok (lA X hX))⟩) (by omega))
  cases q : A.any fun X => wi X Y with
  | true => rw [q] at c1; exact cons_rt (c1.trans rfl)
  | false =>
    rw [q] at c1
    rw [Bool.false_or]
    refine (cons_nx (c1.trans rfl)).trans ?_
    exact ret_ok (any_emb (h := inB h) (fun X => tI X) B (fun X => wi X (oth n Y)) rfl (fun X hX => ⟨_, rfl, call_ok (h1 := inB h) (xs := [tI X, tI (oth n Y)]) rfl (within_ok (lB X hX))⟩) (by omega))
def shw (n : Nat) (its : List Lay.It) (A B : List (List Int)) : Bool := A.all (fun X => setB n X && loseB n its X) && (B.all (fun X => setB n X && keepB its X) && (sets n).all (stl n A B))
end
end VI.K21
end
section
namespace VI.K21
open PySem PySem.Spec PyProof.Rows L2 VI VI.Std VI.Lay
section
variable {K : PySem.W.Frag} {h : Bs} {ns : List Int} {n : Nat} {its : List Lay.It} {X Y : List Int} {A B : List (List Int)}
theorem all_and {α : Type} (p q : α → Bool) : ∀ l : List α, (l.all fun x => p x && q x) = (l.all p && l.all q)
  | [] => rfl
  | x :: l => by
    simp only [List.all_cons, all_and p q l]
    cases p x <;> cases q x <;> cases l.all p <;> cases l.all q <;> rfl
theorem meth_t (hn : n ≤ 8) (hA : A.length ≤ 1000) (hB : B.length ≤ 1000) (lA : ∀ X ∈ A, X.length ≤ 1000) (lB : ∀ X ∈ B, X.length ≤ 1000) {so : SV} {sx : SA} {ρ : Ev} (e1 : so ρ h = .ok (oD A B) h) (e2 : sx ρ h = .ok [oL n its, tI Y] h) :
    (sMeth 14 (fun c => List.lookup c [(1, (f_Dual_settles (tbC ct K)))]) so sx) ρ h = .ok (.bl (stl n A B Y)) h := by
  have e3 : mthD 14 (fun c => List.lookup c [(1, (f_Dual_settles (tbC ct K)))]) (oD A B) h = some (f_Dual_settles (tbC ct K)) := rfl
  unfold sMeth
  rw [e1, bind_ok]
  simp -implicitDefEqProofs only [e3, e2, bind_ok]
  exact settles_ok (K := K) (h := h) (n := n) (its := its) (A := A) (B := B) (Y := Y) hn hA hB lA lB
theorem shows_ok (H : LayOk n its) (t1 : h.bs[1]? = some (.tbl 1)) (hA : A.length ≤ 400) (hB : B.length ≤ 400) (lA : ∀ X ∈ A, X.length ≤ 1000) (lB : ∀ X ∈ B, X.length ≤ 1000) : f_Dual_shows (tbC ct K) [oD A B, oL n its] h = .ok (.bl (shw n its A B)) h := by
  have sz : (1000 : Nat) ≤ sizeLine := by decide
  have L := layT (K := K)
  have h8 := H.hi
  have s256 := sets_small h8
  refine run_rt rfl ?_ rfl
  show s_Dual_shows (tbC ct K) [some (oD A B), some (oL n its), none, none] (inB h) = _
  have lAB : ∀ X ∈ A ++ B, X.length ≤ 1000 := fun X hX => by
    rcases List.mem_append.mp hX with z | z
    · exact lA X z
    · exact lB X z
  have e0 : (sLst false (saStar (sUn (fldD (tbC ct K) 2) (sVar 0)) (saStar (sUn (fldD (tbC ct K) 3) (sVar 0)) saNil))) [some (oD A B), some (oL n its), none, none] (inB h) = .ok (lT (A ++ B)) (inB h) := by
    refine lst_ok ((star_ok (x := lT A) rfl rfl (star_ok (x := lT B) rfl rfl rfl)).trans ?_) (by rw [List.length_map, List.length_append]; omega)
    rw [List.append_nil, ← List.map_append]
  have c1 := if_ok (t := (ssCons (ssRet (sK (.bl false))) ssNil)) (u := ssNil) (not_ok (all_emb (h := inB h) (own := [3]) (g := sgName 3) (fun X => tI X) (A ++ B) (setB n) (it := siSeq (sLst false (saStar (sUn (fldD (tbC ct K) 2) (sVar 0)) (saStar (sUn (fldD (tbC ct K) 3) (sVar 0)) saNil)))) (ρ := [some (oD A B), some (oL n its), none, none]) (el := sCall (f_is_set (tbC ct K)) (saCons (sVar 3) (saCons (sUn (fldD (tbC ct K) 0) (sVar 1)) saNil))) (seq_ok e0 rfl) (fun X hX => ⟨[some (oD A B), some (oL n its), none, some (tI X)], rfl, call_ok (h1 := inB h) (xs := [tI X, .int n]) (cons_ok (h1 := inB h) rfl (cons_ok (h1 := inB h) (un_ok (x := oL n its) rfl (fld0 L)) rfl)) (set_okB (lAB X hX))⟩) (by rw [List.length_append]; omega)))
  have c2 := if_ok (t := (ssCons (ssRet (sK (.bl false))) ssNil)) (u := ssNil) (not_ok (all_emb (h := inB h) (own := [3]) (g := sgName 3) (fun X => tI X) A (loseB n its) (it := siSeq (sUn (fldD (tbC ct K) 2) (sVar 0))) (ρ := [some (oD A B), some (oL n its), none, none]) (el := sCall (f_is_losing (tbC ct K)) (saCons (sVar 1) (saCons (sVar 3) saNil))) rfl (fun X hX => ⟨[some (oD A B), some (oL n its), none, some (tI X)], rfl, call_ok (h1 := inB h) (xs := [oL n its, tI X]) rfl (lose_ok (mR := 11) rfl L H)⟩) (by omega)))
  unfold s_Dual_shows shw
  rw [all_and, all_and]
  refine (cons_nx (expr_ok (call_ok (h1 := inB h) (xs := [oL n its]) rfl (chkL_ok L)))).trans ?_
  rw [List.all_append] at c1
  cases q1 : A.all (setB n) with
  | false =>
    rw [q1, Bool.false_and] at c1
    rw [Bool.false_and, Bool.false_and]
    exact cons_rt (c1.trans rfl)
  | true =>
    rw [q1, Bool.true_and] at c1
    rw [Bool.true_and]
    cases q2 : B.all (setB n) with
    | false =>
      rw [q2] at c1
      rw [Bool.false_and, Bool.false_and, Bool.and_false]
      exact cons_rt (c1.trans rfl)
    | true =>
      rw [q2] at c1
      rw [Bool.true_and]
      refine (cons_nx (c1.trans rfl)).trans ?_
      cases q3 : A.all (loseB n its) with
      | false =>
        rw [q3] at c2
        rw [Bool.false_and]
        exact cons_rt (c2.trans rfl)
      | true =>
        rw [q3] at c2
        rw [Bool.true_and]
        refine (cons_nx (c2.trans rfl)).trans ?_
        have sB : ∀ X ∈ B, SetN n X := fun X hX => setB_iff.mp (List.all_eq_true.mp q2 X hX)
        have c3 := if_ok (t := (ssCons (ssRet (sK (.bl false))) ssNil)) (u := ssNil) (not_ok (all_emb (h := inB h) (own := [3]) (g := sgName 3) (fun X => tI X) B (keepB its) (it := siSeq (sUn (fldD (tbC ct K) 3) (sVar 0))) (ρ := [some (oD A B), some (oL n its), none, none]) (el := sCall (f_is_keeping (tbC ct K)) (saCons (sVar 1) (saCons (sVar 3) saNil))) rfl (fun X hX => ⟨[some (oD A B), some (oL n its), none, some (tI X)], rfl, call_ok (h1 := inB h) (xs := [oL n its, tI X]) rfl (keep_ok (mR := 11) rfl L H (sB X hX))⟩) (by omega)))
        cases q4 : B.all (keepB its) with
        | false =>
          rw [q4] at c3
          rw [Bool.false_and]
          exact cons_rt (c3.trans rfl)
        | true =>
          rw [q4] at c3
          rw [Bool.true_and]
          refine (cons_nx (c3.trans rfl)).trans ?_
          refine ret_ok (all_emb (h := inB h) (fun X => tI X) (sets n) (stl n A B) (seq_ok (call_ok (cons_ok (un_ok (x := oL n its) rfl (fld0 L)) rfl) (sets_ok (ti := 1) (h := inB h) t1 h8)) rfl) (fun Y hY => ⟨[some (oD A B), some (oL n its), some (tI Y), none], rfl, meth_t h8 (by omega) (by omega) lA lB rfl rfl⟩) (by omega))
theorem meth_s (H : LayOk n its) (t1 : h.bs[1]? = some (.tbl 1)) (hA : A.length ≤ 400) (hB : B.length ≤ 400) (lA : ∀ X ∈ A, X.length ≤ 1000) (lB : ∀ X ∈ B, X.length ≤ 1000) {so : SV} {sx : SA} {ρ : Ev} (e1 : so ρ h = .ok (oD A B) h) (e2 : sx ρ h = .ok [oL n its] h) :
    (sMeth 13 (fun c => List.lookup c [(1, (f_Dual_shows (tbC ct K)))]) so sx) ρ h = .ok (.bl (shw n its A B)) h := by
  unfold sMeth
  rw [e1]
  show (sx ρ h).bind _ = _
  rw [e2]
  exact shows_ok (K := K) (h := h) (n := n) (its := its) (A := A) (B := B) H t1 hA hB lA lB
/-! ### the law's own -/
theorem lwithin {d : D} (hin : ∀ x hh, inD true (.int x) d hh = .ok (.bl (!decide (x ∈ Y))) hh) (hX : X.length ≤ 1000) : f__law_within (tbC ct K) [tI X, d] h = .ok (.bl (wi X Y)) h := by
  have sz : (1000 : Nat) ≤ sizeLine := by decide
  refine run_rt rfl ?_ rfl
  show s__law_within (tbC ct K) [some (tI X), some d, none] (inB h) = _
  unfold s__law_within
  refine ret_ok ((op_ok (x := .int ((X.filter fun x => !decide (x ∈ Y)).length : Nat)) (y := .int 0) (call_ok (cons_ok (fil_emb (h := inB h) .int X (fun x => !decide (x ∈ Y)) rfl (fun x hx => ⟨_, rfl, op_ok (x := .int x) (y := d) rfl rfl (hin x _), rfl⟩) (by omega)) rfl) (IsX.len (.inr rfl))) rfl (eq_ints (neg := false))).trans ?_)
  rw [if_neg (by decide)]
  congr 2
  rw [Bool.eq_iff_iff, decide_eq_true_eq, wi_iff]
  have : (((X.filter fun x => !decide (x ∈ Y)).length : Int) = 0) ↔ X.filter (fun x => !decide (x ∈ Y)) = [] := by
    rw [← List.length_eq_zero_iff]
    omega
  rw [this, List.filter_eq_nil_iff]
  constructor
  · intro z x hx
    have := z x hx
    simpa using this
  · intro z x hx
    simp [z x hx]
theorem py_lT (A : List (List Int)) : py pyN h (lT A) = some (.list (A.map fun X => .tuple (X.map .int))) := by
  show (mapO (py 11 h) (A.map fun X => tI X)).map PyData.list = _
  have : mapO (py 11 h) (A.map fun X => tI X) = some (A.map fun X => .tuple (X.map .int)) := by
    induction A with
    | nil => rfl
    | cons Y l ih =>
      have e1 : py 11 h (tI Y) = some (.tuple (Y.map .int)) := py_tI Y
      simp only [List.map_cons, mapO, e1, ih]
  rw [this]
  rfl
theorem in_lT {A : List (List Int)} {X : List Int} {neg : Bool} : inD neg (tI X) (lT A) h = .ok (.bl (if neg then !decide (X ∈ A) else decide (X ∈ A))) h := by
  have e1 : py pyN h (tI X) = some (.tuple (X.map .int)) := py_tI X
  have e2 : ((A.map fun X => PyData.tuple (X.map .int)).any fun z => PyData.eqv z (.tuple (X.map .int))) = decide (X ∈ A) := by
    rw [List.any_map, Bool.eq_iff_iff, List.any_eq_true, decide_eq_true_eq]
    constructor
    · rintro ⟨Y, hY, e⟩
      have e : PyData.eqvAll (Y.map .int) (X.map .int) = true := by simpa [PyData.eqv] using e
      rw [eqvAll_ints, decide_eq_true_eq] at e
      rw [← e]
      exact hY
    · intro hX
      refine ⟨X, hX, ?_⟩
      show PyData.eqv (.tuple (X.map .int)) (.tuple (X.map .int)) = true
      rw [PyData.eqv, eqvAll_ints, decide_eq_true rfl]
  simp only [inD, e1, py_lT, e2]
abbrev eI (its : List Lay.It) (n : Nat) (A B : List (List Int)) (x5 x6 x7 x8 x9 : Option D) : Ev := [some (.lst (its.map itD)), some (.int n), some (lT A), some (lT B), some (lT (sets n)), x5, x6, x7, x8, x9, none, none]
theorem mem_setB : decide (X ∈ sets n) = setB n X := by
  rw [Bool.eq_iff_iff, decide_eq_true_eq, mem_sets, setB_iff]
theorem eq_nil {Z : List Int} : eqD false (lI Z) (.lst []) h = .ok (.bl (decide (Z = []))) h := by
  have := eq_lI (h := h) (l := Z) (m := []) (neg := false)
  rw [if_neg (by decide)] at this
  exact this
theorem ne_nil {Z : List Int} : eqD true (lI Z) (.lst []) h = .ok (.bl (!decide (Z = []))) h := by
  have := eq_lI (h := h) (l := Z) (m := []) (neg := true)
  rw [if_pos rfl] at this
  exact this
theorem d1_loop (H : LayOk n its) {x6 x7 x8 x9 : Option D} : ∀ (l : List (List Int)) (x5 : Option D),
    (l.all (fun X => setB n X && loseB n its X) = true → ∃ y5, loopS (sgName 5) (l1__law_is_dual (tbC ct K)) (l.map fun X => tI X) (eI its n A B x5 x6 x7 x8 x9) h = .nx (eI its n A B y5 x6 x7 x8 x9) h) ∧
    (l.all (fun X => setB n X && loseB n its X) = false → loopS (sgName 5) (l1__law_is_dual (tbC ct K)) (l.map fun X => tI X) (eI its n A B x5 x6 x7 x8 x9) h = .rt (.bl false) h)
  | [], x5 => ⟨fun _ => ⟨x5, rfl⟩, (fun z => by cases z)⟩
  | X :: l, x5 => by
    have c := if_ok (t := (ssCons (ssRet (sK (.bl false))) ssNil)) (u := ssNil) (or_ok (ρ := eI its n A B (some (tI X)) x6 x7 x8 x9) (h := h) (sa := sOp (inD true) (sVar 5) (sVar 4)) (sb := sOp (eqD false) (sCall (f__law_lost (tbC ct K)) (saCons (sVar 0) (saCons (sVar 5) saNil))) (sLst false saNil)) (op_ok (x := tI X) (y := lT (sets n)) rfl rfl (in_lT (neg := true))) fun _ => op_ok (x := lI (lostI its X)) (y := .lst []) (call_ok (h1 := h) (xs := [.lst (its.map itD), tI X]) rfl (lost_ok H)) (lst_ok rfl (Nat.zero_le _)) eq_nil)
    rw [if_pos rfl, mem_setB, lostI_nil H] at c
    have e : (!setB n X || !loseB n its X) = !(setB n X && loseB n its X) := by cases setB n X <;> rfl
    rw [e] at c
    rw [List.all_cons, List.map_cons]
    cases q : setB n X && loseB n its X with
    | true =>
      rw [q] at c
      rw [Bool.true_and]
      have b : l1__law_is_dual (tbC ct K) (eI its n A B (some (tI X)) x6 x7 x8 x9) h = .nx (eI its n A B (some (tI X)) x6 x7 x8 x9) h := by
        unfold l1__law_is_dual
        exact (cons_nx (c.trans rfl)).trans rfl
      rw [loop_step (ρ1 := eI its n A B (some (tI X)) x6 x7 x8 x9) (h1 := h) rfl b]
      exact d1_loop H l _
    | false =>
      rw [q] at c
      rw [Bool.false_and]
      refine ⟨(fun z => by cases z), fun _ => loop_rt (ρ1 := eI its n A B (some (tI X)) x6 x7 x8 x9) (h1 := h) rfl ?_⟩
      unfold l1__law_is_dual
      exact cons_rt (c.trans rfl)
theorem rest_ok (hn : n ≤ 8) {i j k : Nat} {ρ : Ev} (e1 : ρ[1]? = some (some (.int n))) (ej : ρ[j]? = some (some (tI Y))) (hjk : j ≠ k) (hk : k < ρ.length) : (sLc false [k] (siArg itRng1 (saCons (sVar 1) saNil)) (sgName k) (sTru (sOp (inD true) (sVar k) (sVar j))) (sVar k)) ρ h = .ok (lI (oth n Y)) h := by
  have sz : (1000 : Nat) ≤ sizeLine := by decide
  refine fil_emb (h := h) .int (rgI n) (fun x => !decide (x ∈ Y)) (arg_ok (cons_ok (var_ok e1) rfl) (rng_I (by omega))) (fun x hx => ⟨(wipeE ρ [k]).set k (some (.int x)), rfl, ?_, ?_⟩) (by rw [rgI_len]; omega)
  · refine op_ok (x := .int x) (y := tI Y) (var_ok (List.getElem?_set_self (by simpa [wipeE] using hk))) (var_ok ?_) ((in_tI (neg := true)).trans rfl)
    rw [List.getElem?_set_ne (Ne.symm hjk)]
    show (ρ.set k none)[j]? = _
    rw [List.getElem?_set_ne (Ne.symm hjk)]
    exact ej
  · exact var_ok (List.getElem?_set_self (by simpa [wipeE] using hk))
theorem d2_loop (H : LayOk n its) {x6 x8 x9 : Option D} : ∀ (l : List (List Int)) (x5 x7 : Option D),
    (l.all (fun X => setB n X && keepB its X) = true → ∃ y5 y7, loopS (sgName 5) (l2__law_is_dual (tbC ct K)) (l.map fun X => tI X) (eI its n A B x5 x6 x7 x8 x9) h = .nx (eI its n A B y5 x6 y7 x8 x9) h) ∧
    (l.all (fun X => setB n X && keepB its X) = false → loopS (sgName 5) (l2__law_is_dual (tbC ct K)) (l.map fun X => tI X) (eI its n A B x5 x6 x7 x8 x9) h = .rt (.bl false) h)
  | [], x5, x7 => ⟨fun _ => ⟨x5, x7, rfl⟩, (fun z => by cases z)⟩
  | X :: l, x5, x7 => by
    have h8 := H.hi
    have c := if_ok (t := (ssCons (ssRet (sK (.bl false))) ssNil)) (u := ssNil) (or_ok (ρ := eI its n A B (some (tI X)) x6 (some (lI (oth n X))) x8 x9) (h := h) (sa := sOp (inD true) (sVar 5) (sVar 4)) (sb := sOp (eqD true) (sCall (f__law_lost (tbC ct K)) (saCons (sVar 0) (saCons (sVar 7) saNil))) (sLst false saNil)) (op_ok (x := tI X) (y := lT (sets n)) rfl rfl (in_lT (neg := true))) fun _ => op_ok (x := lI (lostI its (oth n X))) (y := .lst []) (call_ok (h1 := h) (xs := [.lst (its.map itD), lI (oth n X)]) rfl (lost_okL H)) (lst_ok rfl (Nat.zero_le _)) ne_nil)
    rw [if_pos rfl, mem_setB, lostI_nil H, Bool.not_not] at c
    have e : (!setB n X || loseB n its (oth n X)) = !(setB n X && keepB its X) := by
      cases q : setB n X with
      | false => rfl
      | true =>
        have := oth_oth (setB_iff.mp q)
        unfold loseB
        rw [this]
        rfl
    rw [e] at c
    have g := rest_ok (h := h) (j := 5) (k := 10) (i := 0) (Y := X) (ρ := eI its n A B (some (tI X)) x6 x7 x8 x9) h8 rfl rfl (by decide) (show 10 < 12 by decide)
    rw [List.all_cons, List.map_cons]
    cases q : setB n X && keepB its X with
    | true =>
      rw [q] at c
      rw [Bool.true_and]
      have b : l2__law_is_dual (tbC ct K) (eI its n A B (some (tI X)) x6 x7 x8 x9) h = .nx (eI its n A B (some (tI X)) x6 (some (lI (oth n X))) x8 x9) h := by
        unfold l2__law_is_dual
        exact (cons_nx (asg_ok g rfl)).trans ((cons_nx (c.trans rfl)).trans rfl)
      rw [loop_step (ρ1 := eI its n A B (some (tI X)) x6 x7 x8 x9) (h1 := h) rfl b]
      exact d2_loop H l _ _
    | false =>
      rw [q] at c
      rw [Bool.false_and]
      refine ⟨(fun z => by cases z), fun _ => loop_rt (ρ1 := eI its n A B (some (tI X)) x6 x7 x8 x9) (h1 := h) rfl ?_⟩
      unfold l2__law_is_dual
      exact (cons_nx (asg_ok g rfl)).trans (cons_rt (c.trans rfl))
theorem d3_loop (H : LayOk n its) (hA : A.length ≤ 400) (hB : B.length ≤ 400) (lA : ∀ X ∈ A, X.length ≤ 1000) (lB : ∀ X ∈ B, X.length ≤ 1000) {x5 x7 : Option D} : ∀ (l : List (List Int)) (x6 x8 x9 : Option D),
    (l.all (stl n A B) = true → ∃ y6 y8 y9, loopS (sgName 6) (l3__law_is_dual (tbC ct K)) (l.map fun X => tI X) (eI its n A B x5 x6 x7 x8 x9) h = .nx (eI its n A B x5 y6 x7 y8 y9) h) ∧
    (l.all (stl n A B) = false → loopS (sgName 6) (l3__law_is_dual (tbC ct K)) (l.map fun X => tI X) (eI its n A B x5 x6 x7 x8 x9) h = .rt (.bl false) h)
  | [], x6, x8, x9 => ⟨fun _ => ⟨x6, x8, x9, rfl⟩, (fun z => by cases z)⟩
  | Y :: l, x6, x8, x9 => by
    have sz : (1000 : Nat) ≤ sizeLine := by decide
    have h8 := H.hi
    have g := rest_ok (h := h) (j := 6) (k := 11) (i := 0) (Y := Y) (ρ := eI its n A B x5 (some (tI Y)) x7 x8 x9) h8 rfl rfl (by decide) (show 11 < 12 by decide)
    have k1 : (sLc false [5] (siSeq (sVar 2)) (sgName 5) (fun _ h => .ok true h) (sCall (f__law_within (tbC ct K)) (saCons (sVar 5) (saCons (sVar 6) saNil)))) (eI its n A B x5 (some (tI Y)) x7 (some (lI (oth n Y))) x9) h = .ok (.lst ((A.map fun X => wi X Y).map .bl)) h := by
      refine lc_ok (xs := A.map fun X => tI X) rfl ?_ (by rw [List.length_map, List.length_map]; omega)
      rw [List.map_map]
      exact lc_emb1 (fun X => tI X) _ A fun X hX => ⟨eI its n A B (some (tI X)) (some (tI Y)) x7 (some (lI (oth n Y))) x9, rfl, call_ok (h1 := h) (xs := [tI X, tI Y]) rfl (lwithin (fun x hh => (in_tI (neg := true)).trans rfl) (lA X hX))⟩
    have k2 : (sLc false [5] (siSeq (sVar 3)) (sgName 5) (fun _ h => .ok true h) (sCall (f__law_within (tbC ct K)) (saCons (sVar 5) (saCons (sVar 8) saNil)))) (eI its n A B x5 (some (tI Y)) x7 (some (lI (oth n Y))) x9) h = .ok (.lst ((B.map fun X => wi X (oth n Y)).map .bl)) h := by
      refine lc_ok (xs := B.map fun X => tI X) rfl ?_ (by rw [List.length_map, List.length_map]; omega)
      rw [List.map_map]
      exact lc_emb1 (fun X => tI X) _ B fun X hX => ⟨eI its n A B (some (tI X)) (some (tI Y)) x7 (some (lI (oth n Y))) x9, rfl, call_ok (h1 := h) (xs := [tI X, lI (oth n Y)]) rfl (lwithin (fun x hh => (in_lI (neg := true)).trans rfl) (lB X hX))⟩
    have k3 : addD false (.lst ((A.map fun X => wi X Y).map .bl)) (.lst ((B.map fun X => wi X (oth n Y)).map .bl)) h = .ok (.lst ((A.map (fun X => wi X Y) ++ B.map fun X => wi X (oth n Y)).map .bl)) h := by
      show newL false (_ ++ _) h = _
      rw [← List.map_append, newL_f (by rw [List.length_map, List.length_append, List.length_map, List.length_map]; omega)]
    have an : (A.map (fun X => wi X Y) ++ B.map fun X => wi X (oth n Y)).any id = stl n A B Y := by
      unfold stl
      rw [List.any_append, List.any_map, List.any_map]
      rfl
    have c := if_ok (t := (ssCons (ssRet (sK (.bl false))) ssNil)) (u := ssNil) (not_ok (sa := sCall anyD' (saCons (sVar 9) saNil)) (ρ := eI its n A B x5 (some (tI Y)) x7 (some (lI (oth n Y))) (some (.lst ((A.map (fun X => wi X Y) ++ B.map fun X => wi X (oth n Y)).map .bl)))) (h := h) (call_ok (h1 := h) (xs := [.lst ((A.map (fun X => wi X Y) ++ B.map fun X => wi X (oth n Y)).map .bl)]) rfl (any_bls.trans (by rw [an]))))
    rw [List.all_cons, List.map_cons]
    cases q : stl n A B Y with
    | true =>
      rw [q] at c
      rw [Bool.true_and]
      have b : l3__law_is_dual (tbC ct K) (eI its n A B x5 (some (tI Y)) x7 x8 x9) h = .nx (eI its n A B x5 (some (tI Y)) x7 (some (lI (oth n Y))) (some (.lst ((A.map (fun X => wi X Y) ++ B.map fun X => wi X (oth n Y)).map .bl)))) h := by
        unfold l3__law_is_dual
        exact (cons_nx (asg_ok g rfl)).trans ((cons_nx (asg_ok (op_ok k1 k2 k3) rfl)).trans ((cons_nx (c.trans rfl)).trans rfl))
      rw [loop_step (ρ1 := eI its n A B x5 (some (tI Y)) x7 x8 x9) (h1 := h) rfl b]
      exact d3_loop H hA hB lA lB l _ _ _
    | false =>
      rw [q] at c
      rw [Bool.false_and]
      refine ⟨(fun z => by cases z), fun _ => loop_rt (ρ1 := eI its n A B x5 (some (tI Y)) x7 x8 x9) (h1 := h) rfl ?_⟩
      unfold l3__law_is_dual
      exact (cons_nx (asg_ok g rfl)).trans ((cons_nx (asg_ok (op_ok k1 k2 k3) rfl)).trans (cons_rt (c.trans rfl)))
theorem isdual_ok (H : LayOk n its) (t0 : h.bs[0]? = some (.tbl 0)) (hA : A.length ≤ 400) (hB : B.length ≤ 400) (lA : ∀ X ∈ A, X.length ≤ 1000) (lB : ∀ X ∈ B, X.length ≤ 1000) : f__law_is_dual (tbC ct K) [.lst (its.map itD), .int n, lT A, lT B] h = .ok (.bl (shw n its A B)) h := by
  have h8 := H.hi
  refine run_rt rfl ?_ rfl
  show s__law_is_dual (tbC ct K) [some (.lst (its.map itD)), some (.int n), some (lT A), some (lT B), none, none, none, none, none, none, none, none] (inB h) = _
  unfold s__law_is_dual shw
  refine (cons_nx (ρ1 := eI its n A B none none none none none) (h1 := inB h) (asg_ok (call_ok (h1 := inB h) (xs := [.int n]) rfl (sets_ok' (ti := 0) (h := inB h) t0 h8)) rfl)).trans ?_
  obtain ⟨a1, a2⟩ := d1_loop (K := K) (h := inB h) (A := A) (B := B) H (x6 := none) (x7 := none) (x8 := none) (x9 := none) A none
  cases q1 : A.all fun X => setB n X && loseB n its X with
  | false =>
    rw [Bool.false_and]
    exact cons_rt (for_rt (h1 := inB h) rfl (a2 q1))
  | true =>
    obtain ⟨y5, e1⟩ := a1 q1
    rw [Bool.true_and]
    refine (cons_nx (for_ok (h1 := inB h) rfl e1)).trans ?_
    obtain ⟨b1, b2⟩ := d2_loop (K := K) (h := inB h) (A := A) (B := B) H (x6 := none) (x8 := none) (x9 := none) B y5 none
    cases q2 : B.all fun X => setB n X && keepB its X with
    | false =>
      rw [Bool.false_and]
      exact cons_rt (for_rt (h1 := inB h) rfl (b2 q2))
    | true =>
      obtain ⟨z5, z7, e2⟩ := b1 q2
      rw [Bool.true_and]
      refine (cons_nx (for_ok (h1 := inB h) rfl e2)).trans ?_
      obtain ⟨c1, c2⟩ := d3_loop (K := K) (h := inB h) H hA hB lA lB (x5 := z5) (x7 := z7) (sets n) none none none
      cases q3 : (sets n).all (stl n A B) with
      | false => exact cons_rt (for_rt (h1 := inB h) rfl (c2 q3))
      | true =>
        obtain ⟨w6, w8, w9, e3⟩ := c1 q3
        exact (cons_nx (for_ok (h1 := inB h) rfl e3)).trans (ret_ok rfl)
end
end VI.K21
end
section
namespace VI.K21
open PySem PySem.Spec PyProof.Rows L2 VI VI.Std VI.Lay
section
variable {K : PySem.W.Frag} {h : Bs} {ns : List Int} {n : Nat} {its : List Lay.It} {X Y : List Int} {A B C E : List (List Int)}
/-! ### mathematics -/
theorem minL_of {l : List (List Int)} (hX : X ∈ l) (m : isMin l X) : X ∈ minL l := by
  unfold minL
  refine List.mem_filter.mpr ⟨hX, decide_eq_true ?_⟩
  rw [List.filter_eq_nil_iff]
  intro Y hY z
  have := less_iff.mp z
  exact m Y hY this.1 this.2
theorem minL_sub {l : List (List Int)} (hX : X ∈ minL l) : X ∈ l := (List.mem_filter.mp hX).1
theorem minL_below {p : List Int → Bool} (hX : X ∈ (sets n).filter p) : ∃ Y ∈ minL ((sets n).filter p), wi Y X = true := by
  obtain ⟨Y, hY, w, m⟩ := below (n := n) (fil_ok (p := p)).1 X.length X (Nat.le_refl _) hX
  exact ⟨Y, minL_of hY m, w⟩
theorem full_keeps (H : LayOk n its) : keepB its (rgI n) = true := by
  unfold keepB
  rw [List.all_eq_true]
  intro i hi
  have ok := H.ok i hi
  unfold okU
  have : i.1.filter (fun x => decide (x ∈ rgI n)) = i.1 := by
    rw [List.filter_eq_self]
    intro x hx
    rw [decide_eq_true_eq, mem_rgI]
    exact ok.set.lo x hx
  rw [this, decide_eq_true_eq]
  exact ok.hi
theorem lo_ne (H : LayOk n its) : minL (losing n its) ≠ [] := fun z => by
  obtain ⟨Y, hY, _⟩ := minL_below (n := n) (p := loseB n its) (List.mem_filter.mpr ⟨mem_sets.mpr full_set, full_loses H⟩)
  unfold losing at z
  rw [z] at hY
  cases hY
theorem ke_ne (H : LayOk n its) : minL (keeping n its) ≠ [] := fun z => by
  obtain ⟨Y, hY, _⟩ := minL_below (n := n) (p := keepB its) (List.mem_filter.mpr ⟨mem_sets.mpr full_set, full_keeps H⟩)
  unfold keeping at z
  rw [z] at hY
  cases hY
theorem shw_true (H : LayOk n its) : shw n its (minL (losing n its)) (minL (keeping n its)) = true := by
  unfold shw
  rw [Bool.and_eq_true, Bool.and_eq_true, List.all_eq_true, List.all_eq_true, List.all_eq_true]
  refine ⟨fun X hX => ?_, fun X hX => ?_, fun Y hY => ?_⟩
  · obtain ⟨a, b⟩ := List.mem_filter.mp (minL_sub hX)
    rw [setB_iff.mpr (mem_sets.mp a), b]
    rfl
  · obtain ⟨a, b⟩ := List.mem_filter.mp (minL_sub hX)
    rw [setB_iff.mpr (mem_sets.mp a), b]
    rfl
  · unfold stl
    rw [Bool.or_eq_true, List.any_eq_true, List.any_eq_true]
    cases q : loseB n its Y with
    | true =>
      obtain ⟨Z, hZ, w⟩ := minL_below (n := n) (p := loseB n its) (List.mem_filter.mpr ⟨hY, q⟩)
      exact .inl ⟨Z, hZ, w⟩
    | false =>
      have k : keepB its (oth n Y) = true := by unfold loseB at q; simpa using q
      obtain ⟨Z, hZ, w⟩ := minL_below (n := n) (p := keepB its) (List.mem_filter.mpr ⟨mem_sets.mpr oth_set, k⟩)
      exact .inr ⟨Z, hZ, w⟩
/-! ### equality -/
theorem eqvA : ∀ A C : List (List Int), PyData.eqvAll (A.map fun X => .tuple (X.map .int)) (C.map fun X => .tuple (X.map .int)) = decide (A = C)
  | [], [] => by simp [PyData.eqvAll]
  | [], _ :: _ => by simp [PyData.eqvAll]
  | _ :: _, [] => by simp [PyData.eqvAll]
  | X :: A, Y :: C => by
    simp only [List.map_cons, PyData.eqvAll, PyData.eqv, eqvAll_ints, eqvA A C]
    by_cases h1 : X = Y <;> by_cases h2 : A = C <;> simp [h1, h2]
theorem py_pair : py pyN h (.tup [lT A, lT B]) = some (.tuple [.list (A.map fun X => .tuple (X.map .int)), .list (B.map fun X => .tuple (X.map .int))]) := by
  have e : ∀ A : List (List Int), py 11 h (lT A) = some (.list (A.map fun X => .tuple (X.map .int))) := fun A => by
    show (mapO (py 10 h) (A.map fun X => tI X)).map PyData.list = _
    have : mapO (py 10 h) (A.map fun X => tI X) = some (A.map fun X => .tuple (X.map .int)) := by
      induction A with
      | nil => rfl
      | cons Y l ih =>
        have e1 : py 10 h (tI Y) = some (.tuple (Y.map .int)) := py_tI Y
        simp only [List.map_cons, mapO, e1, ih]
    rw [this]
    rfl
  show (mapO (py 11 h) [lT A, lT B]).map PyData.tuple = _
  simp only [mapO, e]
  rfl
theorem eq_pair : eqD false (.tup [lT A, lT B]) (.tup [lT C, lT E]) h = .ok (.bl (decide (A = C) && decide (B = E))) h := by
  simp only [eqD, py_pair, PyData.eqv, PyData.eqvAll, eqvA, Bool.and_true]
  simp
theorem deq_ok : f_Dual___eq__ (tbC ct K) [oD A B, oD C E] h = .ok (.bl (decide (A = C) && decide (B = E))) h := by
  refine run_rt rfl ?_ rfl
  show s_Dual___eq__ (tbC ct K) [some (oD A B), some (oD C E)] (inB h) = _
  unfold s_Dual___eq__
  refine ret_ok ((and_ok (a := true) (b := decide (A = C) && decide (B = E)) rfl fun _ => op_ok (x := .tup [lT A, lT B]) (y := .tup [lT C, lT E]) (tup_ok (xs := [lT A, lT B]) rfl two_le) (tup_ok (xs := [lT C, lT E]) rfl two_le) eq_pair).trans ?_)
  rw [Bool.true_and]
theorem ne_ok : neO [(0, (f_Layout___eq__ (tbC ct K))), (1, (f_Dual___eq__ (tbC ct K)))] (oD A B) (oD C E) h = .ok (.bl (!(decide (A = C) && decide (B = E)))) h := by
  have e1 : insOf h (oD A B) = some (1, [2, 3], [lT A, lT B]) := rfl
  have e2 : insOf h (oD C E) = some (1, [2, 3], [lT C, lT E]) := rfl
  have e3 : List.lookup 1 [(0, (f_Layout___eq__ (tbC ct K))), (1, (f_Dual___eq__ (tbC ct K)))] = some (f_Dual___eq__ (tbC ct K)) := rfl
  simp -implicitDefEqProofs only [neO, e1, e2, e3, deq_ok]
  rfl
theorem eqo_ok : eqO [(0, (f_Layout___eq__ (tbC ct K))), (1, (f_Dual___eq__ (tbC ct K)))] (oD A B) (oD C E) h = .ok (.bl (decide (A = C) && decide (B = E))) h := by
  have e1 : insOf h (oD A B) = some (1, [2, 3], [lT A, lT B]) := rfl
  have e2 : insOf h (oD C E) = some (1, [2, 3], [lT C, lT E]) := rfl
  have e3 : List.lookup 1 [(0, (f_Layout___eq__ (tbC ct K))), (1, (f_Dual___eq__ (tbC ct K)))] = some (f_Dual___eq__ (tbC ct K)) := rfl
  simp -implicitDefEqProofs only [eqO, e1, e2, e3, deq_ok]
  rfl
theorem eq_lT : eqD false (lT A) (lT C) h = .ok (.bl (decide (A = C))) h := by
  simp only [eqD, py_lT, PyData.eqv, eqvA]
  rfl
/-! ### the lists that are cleared -/
def bxI (X : List Int) : Bx := .lst false (X.map .int)
theorem boxes : ∀ (l : List (List Int)) (h : Bs) (ρ : Ev), 14 < ρ.length → (∀ X ∈ l, X.length ≤ 1000) → lcS (sgName 14) (fun _ h => .ok true h) (sCall (listD true) (saCons (sVar 14) saNil)) ρ (l.map fun X => tI X) h = .ok ((List.range' h.bs.length l.length).map .ref) ⟨h.fbs, h.bs ++ l.map bxI⟩
  | [], h, ρ, _, _ => by simp [lcS]
  | X :: l, h, ρ, hρ, hl => by
    have sz : (1000 : Nat) ≤ sizeLine := by decide
    have g : sgName 14 (tI X) ρ h = .ok (ρ.set 14 (some (tI X))) h := rfl
    have el : (sCall (listD true) (saCons (sVar 14) saNil)) (ρ.set 14 (some (tI X))) h = .ok (.ref h.bs.length) ⟨h.fbs, h.bs ++ [bxI X]⟩ := by
      refine call_ok (xs := [tI X]) (h1 := h) (cons_ok (var_ok (List.getElem?_set_self hρ)) rfl) ?_
      show newL true (X.map .int) h = _
      rw [newL_t' (by rw [List.length_map]; have := hl X List.mem_cons_self; omega)]
      rfl
    have ih := boxes l ⟨h.fbs, h.bs ++ [bxI X]⟩ ρ hρ fun Y hY => hl Y (List.mem_cons_of_mem _ hY)
    simp -implicitDefEqProofs only [List.map_cons, lcS, g, el, ih]
    rw [List.length_cons, List.range'_succ, List.map_cons]
    simp
theorem clear_loop {ρ : Ev} (hρ : 14 < ρ.length) : ∀ (l : List Nat) (g : Bs) (x : Option D), (∀ b ∈ l, ∃ xs, g.bs[b]? = some (.lst false xs)) → ∃ x' g', loopS (sgName 14) (l17_law (tbC ct K)) (l.map .ref) (ρ.set 14 x) g = .nx (ρ.set 14 x') g'
  | [], g, x, _ => ⟨x, g, rfl⟩
  | b :: l, g, x, hb => by
    obtain ⟨xs, e⟩ := hb b List.mem_cons_self
    have hlt : b < g.bs.length := (List.getElem?_eq_some_iff.mp e).1
    have b1 : l17_law (tbC ct K) (ρ.set 14 (some (.ref b))) g = .nx (ρ.set 14 (some (.ref b))) (putL b [] g) := by
      unfold l17_law
      refine (cons_nx (expr_ok (bm_ok (o := .ref b) (xs := []) (var_ok (List.getElem?_set_self hρ)) (by simp [lstOf, e]) rfl (show clrD (.ref b) [] g = .ok .non (putL b [] g) by simp only [clrD, e])))).trans rfl
    obtain ⟨x', g', e2⟩ := clear_loop hρ l (putL b [] g) (some (.ref b)) fun c hc => by
      show ∃ xs, (g.bs.set b (.lst false []))[c]? = _
      by_cases q : b = c
      · subst q
        exact ⟨[], List.getElem?_set_self hlt⟩
      · rw [List.getElem?_set_ne q]
        exact hb c (List.mem_cons_of_mem _ hc)
    refine ⟨x', g', ?_⟩
    rw [List.map_cons, loop_step (ρ1 := ρ.set 14 (some (.ref b))) (h1 := g) (by show R.ok ((ρ.set 14 x).set 14 (some (.ref b))) g = _; rw [List.set_set]) b1]
    exact e2
end
end VI.K21
end
section
namespace VI.K21
open PySem PySem.Spec PyProof.Rows L2 VI VI.Std VI.Lay
section
variable {K : PySem.W.Frag} {h : Bs} {ns : List Int} {n : Nat} {its : List Lay.It} {X Y : List Int} {A B C E : List (List Int)}
abbrev ev (ns : List Int) (x1 x2 x3 x4 x5 x6 x7 x8 x9 xa xb xc xd xe : Option D) : Ev := [some (.scr ns), x1, x2, x3, x4, x5, x6, x7, x8, x9, xa, xb, xc, xd, xe]
def eP (p : List (List Int) × List (List Int)) : D := .tup [lT p.1, lT p.2]
structure Sm (A : List (List Int)) : Prop where
  len : A.length ≤ 400
  els : ∀ X ∈ A, X.length ≤ 1000
theorem Sm.append (a : Sm A) (b : Sm B) (hl : A.length + B.length ≤ 400) : Sm (A ++ B) := ⟨by rw [List.length_append]; exact hl, fun X hX => by
  rcases List.mem_append.mp hX with z | z
  · exact a.els X z
  · exact b.els X z⟩
theorem pair_loop (H : LayOk n its) (t0 : h.bs[0]? = some (.tbl 0)) (t1 : h.bs[1]? = some (.tbl 1)) {x4 x5 x6 x7 x8 x9 xc xd xe : Option D} : ∀ (l : List (List (List Int) × List (List Int))) (xa xb : Option D), (∀ p ∈ l, Sm p.1 ∧ Sm p.2) → ∃ ya yb,
    loopS (sgTup 2 (sgCons (sgName 10) (sgCons (sgName 11) sgNil))) (l12_law (tbC ct K)) (l.map eP) (ev ns (some (.int n)) (some (.lst (its.map itD))) (some (oL n its)) x4 x5 x6 x7 x8 x9 xa xb xc xd xe) h = .nx (ev ns (some (.int n)) (some (.lst (its.map itD))) (some (oL n its)) x4 x5 x6 x7 x8 x9 ya yb xc xd xe) h
  | [], xa, xb, _ => ⟨xa, xb, rfl⟩
  | p :: l, xa, xb, hl => by
    obtain ⟨s1, s2⟩ := hl p List.mem_cons_self
    obtain ⟨ya, yb, e⟩ := pair_loop H t0 t1 (x4 := x4) (x5 := x5) (x6 := x6) (x7 := x7) (x8 := x8) (x9 := x9) (xc := xc) (xd := xd) (xe := xe) l (some (lT p.1)) (some (lT p.2)) fun q hq => hl q (List.mem_cons_of_mem _ hq)
    have l1 := s1.len
    have l2 := s2.len
    have m := meth_s (K := K) (h := h) (A := p.1) (B := p.2) H t1 s1.len s2.len s1.els s2.els (so := sCall (makeD 1 true (f_Dual_init (tbC ct K))) (saCons (sVar 10) (saCons (sVar 11) saNil))) (sx := saCons (sVar 3) saNil) (ρ := ev ns (some (.int n)) (some (.lst (its.map itD))) (some (oL n its)) x4 x5 x6 x7 x8 x9 (some (lT p.1)) (some (lT p.2)) xc xd xe) (call_ok (h1 := h) (xs := [lT p.1, lT p.2]) rfl (make_ok2 (by omega) (by omega))) rfl
    have b : l12_law (tbC ct K) (ev ns (some (.int n)) (some (.lst (its.map itD))) (some (oL n its)) x4 x5 x6 x7 x8 x9 (some (lT p.1)) (some (lT p.2)) xc xd xe) h = .nx (ev ns (some (.int n)) (some (.lst (its.map itD))) (some (oL n its)) x4 x5 x6 x7 x8 x9 (some (lT p.1)) (some (lT p.2)) xc xd xe) h := by
      unfold l12_law
      have ne : eqD true (.bl (shw n its p.1 p.2)) (.bl (shw n its p.1 p.2)) h = .ok (.bl false) h := by cases shw n its p.1 p.2 <;> rfl
      exact (cons_nx (h1 := h) ((if_ok (a := false) (h1 := h) (op_ok m (call_ok (h1 := h) (xs := [.lst (its.map itD), .int n, lT p.1, lT p.2]) rfl (isdual_ok H t0 s1.len s2.len s1.els s2.els)) ne)).trans rfl)).trans rfl
    exact ⟨ya, yb, (loop_step (ρ1 := ev ns (some (.int n)) (some (.lst (its.map itD))) (some (oL n its)) x4 x5 x6 x7 x8 x9 (some (lT p.1)) (some (lT p.2)) xc xd xe) (h1 := h) rfl b).trans e⟩
theorem addLT' (hl : A.length + B.length ≤ 1000) : addD false (lT A) (lT B) h = .ok (lT (A ++ B)) h := addLT (Nat.le_trans hl (by decide))
theorem sl1 {A : List (List Int)} (hl : A.length ≤ 1000) : slD false (lT A) (some 1) none h = .ok (lT (A.drop 1)) h := by
  have sz : (1000 : Nat) ≤ sizeLine := by decide
  show newL false (cutD (A.map fun X => tI X) (some ((1 : Nat) : Int)) none) h = _
  rw [cut_from, ← List.map_drop, newL_f (by rw [List.length_map, List.length_drop]; omega)]
theorem cut_m1 {xs : List D} : cutD xs (some (-1)) none = xs.drop (xs.length - 1) := by
  unfold cutD
  rw [HT.sIx_none]
  have e : ∀ k, k = xs.length - 1 → List.take (xs.length - k) (List.drop k xs) = xs.drop (xs.length - 1) := fun k hk => by
    rw [hk, List.take_of_length_le (by rw [List.length_drop]; exact Nat.le_refl _)]
  refine e _ ?_
  show (if (-1 : Int) < 0 then ((-1 : Int) + (xs.length : Int)).toNat else min ((-1 : Int)).toNat xs.length) = xs.length - 1
  rw [if_pos (by decide)]
  omega
theorem slm {A : List (List Int)} (hl : A.length ≤ 1000) : slD false (lT A) (some (-1)) none h = .ok (lT (A.drop (A.length - 1))) h := by
  have sz : (1000 : Nat) ≤ sizeLine := by decide
  show newL false (cutD (A.map fun X => tI X) (some (-1)) none) h = _
  rw [cut_m1, List.length_map, ← List.map_drop, newL_f (by rw [List.length_map, List.length_drop]; omega)]
theorem rev_l {A : List (List Int)} (hl : A.length ≤ 1000) : revY false (lT A) h = .ok (lT A.reverse) h := by
  have sz : (1000 : Nat) ≤ sizeLine := by decide
  show newL false (A.map fun X => tI X).reverse h = _
  rw [← List.map_reverse, newL_f (by rw [List.length_map, List.length_reverse]; omega)]
theorem rev_t (hl : X.length ≤ 1000) : revY false (tI X) h = .ok (tI X.reverse) h := by
  have sz : (1000 : Nat) ≤ sizeLine := by decide
  show newT (X.map .int).reverse h = _
  rw [← List.map_reverse, newT_f (by rw [List.length_map, List.length_reverse]; omega)]
theorem ix_lT {A : List (List Int)} {j : Nat} (hj : j < A.length) : ixD (lT A) (.int j) h = .ok (tI A[j]) h := by
  have : atI (A.map fun X => tI X) (j : Int) = some (tI A[j]) := by
    unfold L2.atI
    rw [List.length_map, show ixN A.length (j : Int) = some j by unfold ixN; rw [if_pos (by omega), if_pos (by omega)]; simp]
    show (A.map fun X => tI X)[j]? = _
    rw [List.getElem?_map, List.getElem?_eq_getElem hj]
    rfl
  simp only [ixD, seqOf, lstOf, this]
theorem pr_ok {sa sb : SV} {ρ : Ev} {A B : List (List Int)} (e1 : sa ρ h = .ok (lT A) h) (e2 : sb ρ h = .ok (lT B) h) : sTup (saCons sa (saCons sb saNil)) ρ h = .ok (eP (A, B)) h := tup_ok (cons_ok e1 (cons_ok e2 rfl)) two_le
theorem prs_add {P Q : List (List (List Int) × List (List Int))} (hl : P.length + Q.length ≤ 1000) : addD false (.lst (P.map eP)) (.lst (Q.map eP)) h = .ok (.lst ((P ++ Q).map eP)) h := by
  have sz : (1000 : Nat) ≤ sizeLine := by decide
  show newL false (P.map eP ++ Q.map eP) h = _
  rw [← List.map_append, newL_f (by rw [List.length_map, List.length_append]; omega)]
theorem one_l : (sLst false (saCons (sVar 8) saNil)) (ev ns (some (.int n)) none none none none none none (some (tI X)) none none none none none none) h = .ok (lT [X]) h := lst_ok (xs := [tI X]) rfl (show 1 ≤ sizeLine by decide)
theorem law_body (hl : ns.length ≤ 63) (t0 : h.bs[0]? = some (.tbl 0)) (t1 : h.bs[1]? = some (.tbl 1)) : ∃ h', s_law (tbC ct K) (ev ns none none none none none none none none none none none none none none) h = .rt (.bl true) h' := by
  have sz : (1000 : Nat) ≤ sizeLine := by decide
  have L := layT (K := K)
  obtain ⟨z, hz⟩ := num2 hl h
  have hz' : ∀ i : Int, 0 ≤ i → i < 2 ^ 63 → f__law_number (tbC ct K) [.scr ns, .int i] h = .ok (.int (z i)) h := hz
  obtain ⟨n, hn⟩ : ∃ n : Nat, (n : Int) = 1 + z 0 % 6 := ⟨(1 + z 0 % 6).toNat, by have := Int.emod_nonneg (z 0) (b := 6) (by decide); omega⟩
  have nb : 1 ≤ n ∧ n ≤ 6 := by
    have := Int.emod_nonneg (z 0) (b := 6) (by decide)
    have := Int.emod_lt_of_pos (z 0) (b := 6) (by decide)
    omega
  obtain ⟨its, H, hm, e2⟩ := items_ok (h := h) hl nb.1 (by omega) (at_ := 1) (most := 5) (by decide) (by decide) (by decide)
  have h8 := H.hi
  have s64 : (sets n).length ≤ 64 := by rw [sets_len]; exact Nat.pow_le_pow_right (by decide) nb.2
  have sl : 0 < (sets n).length := by rw [sets_len]; exact Nat.pow_pos (by decide)
  have m3 : f_minimal_losses (tbC ct K) [oL n its] h = .ok (lT (minL (losing n its))) h := mloss_ok (mR := 11) (ti := 1) rfl L H t1
  have m4 : f_minimal_keepers (tbC ct K) [oL n its] h = .ok (lT (minL (keeping n its))) h := mkeep_ok (mR := 11) (ti := 1) rfl L H t1
  have m3' : f_minimal_losses (tbC ct K) [oL n its] (inB h) = .ok (lT (minL (losing n its))) (inB h) := mloss_ok (mR := 11) (ti := 1) rfl L H t1
  have m4' : f_minimal_keepers (tbC ct K) [oL n its] (inB h) = .ok (lT (minL (keeping n its))) (inB h) := mkeep_ok (mR := 11) (ti := 1) rfl L H t1
  have shT := shw_true H
  have ne1 := lo_ne H
  have ne2 := ke_ne H
  have sub1 : ∀ X ∈ minL (losing n its), X ∈ sets n := fun X hX => (List.mem_filter.mp (minL_sub hX)).1
  have sub2 : ∀ X ∈ minL (keeping n its), X ∈ sets n := fun X hX => (List.mem_filter.mp (minL_sub hX)).1
  have len1 : (minL (losing n its)).length ≤ 64 := Nat.le_trans (List.length_filter_le _ _) (Nat.le_trans (List.length_filter_le _ _) s64)
  have len2 : (minL (keeping n its)).length ≤ 64 := Nat.le_trans (List.length_filter_le _ _) (Nat.le_trans (List.length_filter_le _ _) s64)
  generalize minL (losing n its) = Lo at *
  generalize minL (keeping n its) = Ke at *
  have el : ∀ X ∈ sets n, X.length ≤ 6 := fun X hX => by have := SetN.len (mem_sets.mp hX); omega
  have smL : Sm Lo := ⟨by omega, fun X hX => by have := el X (sub1 X hX); omega⟩
  have smK : Sm Ke := ⟨by omega, fun X hX => by have := el X (sub2 X hX); omega⟩
  have mk : makeD 1 true (f_Dual_init (tbC ct K)) [lT Lo, lT Ke] h = .ok (oD Lo Ke) h := make_ok2 (by omega) (by omega)
  have fd : f_find_dual (tbC ct K) [oL n its] h = .ok (oD Lo Ke) h := by
    refine run_rt rfl ?_ (by
      have q1 := noD_lT Lo
      have q2 := noD_lT Ke
      simp only [oD, noD, noDs, lT] at q1 q2 ⊢
      simp only [q1, q2, Bool.and_self])
    show s_find_dual (tbC ct K) [some (oL n its)] (inB h) = _
    unfold s_find_dual
    exact ret_ok (call_ok (cons_ok (call_ok (h1 := inB h) (xs := [oL n its]) rfl m3') (cons_ok (call_ok (h1 := inB h) (xs := [oL n its]) rfl m4') rfl)) (make_ok2 (by omega) (by omega)))
  obtain ⟨j, hj⟩ : ∃ j : Nat, (j : Int) = z 80 % (sets n).length := ⟨(z 80 % (sets n).length).toNat, by have := Int.emod_nonneg (z 80) (b := ((sets n).length : Int)) (by omega); omega⟩
  have jl : j < (sets n).length := by have := Int.emod_lt_of_pos (z 80) (b := ((sets n).length : Int)) (by omega); omega
  have mem : (sets n)[j] ∈ sets n := List.getElem_mem jl
  obtain ⟨Dr, hDr⟩ : ∃ Dr, Dr = (sets n)[j] := ⟨_, rfl⟩
  rw [← hDr] at mem
  have elD := el Dr mem
  obtain ⟨X0, hX0⟩ : ∃ X0, Lo[0]? = some X0 := by
    cases Lo with
    | nil => exact absurd rfl ne1
    | cons a b => exact ⟨a, rfl⟩
  have l0 : 0 < Lo.length := (List.getElem?_eq_some_iff.mp hX0).1
  have eX0 : Lo[0] = X0 := (List.getElem?_eq_some_iff.mp hX0).2
  have elX0 := el X0 (sub1 X0 (List.mem_of_getElem? hX0))
  obtain ⟨La, hLa⟩ : ∃ La, La = (sets n).drop ((sets n).length - 1) := ⟨_, rfl⟩
  have smA : Sm La := by
    rw [hLa]
    exact ⟨by rw [List.length_drop]; omega, fun X hX => by have := el X (List.mem_of_mem_drop hX); omega⟩
  have smLa : La.length ≤ 1 := by rw [hLa, List.length_drop]; omega
  have lnE : lenD [lT (sets n)] h = .ok (.int (sets n).length) h := by
    show R.ok (D.int (((sets n).map fun X => tI X).length : Nat)) h = _
    rw [List.length_map]
  -- the pairs
  obtain ⟨P1, hP1⟩ : ∃ P1, P1 = [(Lo, Ke), (Lo ++ [Dr], Ke), (Lo, Ke ++ [Dr]), (Lo.drop 1, Ke)] := ⟨_, rfl⟩
  obtain ⟨P2, hP2⟩ : ∃ P2, P2 = [(Lo, Ke.drop 1), (Lo.reverse, Ke.reverse ++ Ke), ([], []), ([[(n : Int)]], Ke)] := ⟨_, rfl⟩
  obtain ⟨P3, hP3⟩ : ∃ P3, P3 = [(Lo ++ [X0.reverse], Ke), (La, Ke), (Lo, La)] := ⟨_, rfl⟩
  have sm1 : ∀ {X : List Int}, X.length ≤ 6 → Sm [X] := fun {X} hx => ⟨by simp, fun Y hY => by rw [List.mem_singleton.mp hY]; omega⟩
  have smAll : ∀ p ∈ P1 ++ P2 ++ P3, Sm p.1 ∧ Sm p.2 := by
    intro p hp
    rw [hP1, hP2, hP3] at hp
    simp only [List.cons_append, List.nil_append, List.mem_cons, List.not_mem_nil, or_false] at hp
    rcases hp with rfl | rfl | rfl | rfl | rfl | rfl | rfl | rfl | rfl | rfl | rfl
    · exact ⟨smL, smK⟩
    · exact ⟨smL.append (sm1 elD) (by simp; omega), smK⟩
    · exact ⟨smL, smK.append (sm1 elD) (by simp; omega)⟩
    · exact ⟨⟨by rw [List.length_drop]; omega, fun X hX => smL.els X (List.mem_of_mem_drop hX)⟩, smK⟩
    · exact ⟨smL, ⟨by rw [List.length_drop]; omega, fun X hX => smK.els X (List.mem_of_mem_drop hX)⟩⟩
    · exact ⟨⟨by rw [List.length_reverse]; omega, fun X hX => smL.els X (List.mem_reverse.mp hX)⟩, Sm.append ⟨by rw [List.length_reverse]; omega, fun X hX => smK.els X (List.mem_reverse.mp hX)⟩ smK (by rw [List.length_reverse]; omega)⟩
    · exact ⟨⟨by simp, by simp⟩, ⟨by simp, by simp⟩⟩
    · exact ⟨⟨by simp, fun Y hY => by rw [List.mem_singleton.mp hY]; simp⟩, smK⟩
    · exact ⟨smL.append (sm1 (by rw [List.length_reverse]; omega)) (by simp; omega), smK⟩
    · exact ⟨smA, smK⟩
    · exact ⟨smL, smA⟩
  obtain ⟨ya, yb, eL⟩ := pair_loop (K := K) (ns := ns) (h := h) H t0 t1 (x4 := some (lT (sets n))) (x5 := some (oD Lo Ke)) (x6 := some (lT Lo)) (x7 := some (lT Ke)) (x8 := some (tI Dr)) (x9 := some (.lst ((P1 ++ P2 ++ P3).map eP))) (xc := none) (xd := none) (xe := none) (P1 ++ P2 ++ P3) none none smAll
  -- the boxes
  obtain ⟨g1, hg1⟩ : ∃ g1 : Bs, g1 = ⟨h.fbs, h.bs ++ Lo.map bxI⟩ := ⟨_, rfl⟩
  have bx := boxes Lo h (wipeE (ev ns (some (.int n)) (some (.lst (its.map itD))) (some (oL n its)) (some (lT (sets n))) (some (oD Lo Ke)) (some (lT Lo)) (some (lT Ke)) (some (tI Dr)) (some (.lst ((P1 ++ P2 ++ P3).map eP))) ya yb none none none) [14]) (show 14 < 15 by decide) smL.els
  rw [← hg1] at bx
  have refs : (List.range' h.bs.length Lo.length).map D.ref = (Lo.zipIdx h.bs.length).map fun p => D.ref p.2 := by
    have : (Lo.zipIdx h.bs.length).map (fun p => D.ref p.2) = ((Lo.zipIdx h.bs.length).map (·.2)).map .ref := by rw [List.map_map]; rfl
    rw [this, List.zipIdx_map_snd]
  have at1 : ∀ p ∈ Lo.zipIdx h.bs.length, g1.bs[p.2]? = some (bxI p.1) := fun p hp => by
    have q := List.mem_zipIdx hp
    obtain ⟨q1, q2, q3⟩ := q
    rw [hg1]
    show (h.bs ++ Lo.map bxI)[p.2]? = _
    rw [List.getElem?_append_right q1, List.getElem?_map, List.getElem?_eq_getElem (by omega), q3]
    rfl
  have mk2 : makeD 1 true (f_Dual_init (tbC ct K)) [.lst ((Lo.zipIdx h.bs.length).map fun p => D.ref p.2), .lst ((Ke.zipIdx).map fun p => tI p.1)] g1 = .ok (oD ((Lo.zipIdx h.bs.length).map (·.1)) (Ke.zipIdx.map (·.1))) g1 := by
    refine make_dual (K := K) (h := g1) (eA := fun p : List Int × Nat => D.ref p.2) (eB := fun p : List Int × Nat => tI p.1) (vA := (·.1)) (vB := (·.1)) (by simp; omega) (by simp; omega) (fun p hp g hg => ?_) fun p _ g _ => rfl
    have e := hg _ _ (at1 p hp)
    have le := smL.els p.1 (by have := List.mem_zipIdx hp; obtain ⟨_, _, e⟩ := this; rw [e]; exact List.getElem_mem _)
    have e' : lstOf g (.ref p.2) = some (p.1.map .int) := by
      simp only [lstOf, e, bxI]
    simp only [tupleD, e']
    exact newT_f (by rw [List.length_map]; omega)
  rw [List.zipIdx_map_fst, List.zipIdx_map_fst, show (Ke.zipIdx).map (fun p => tI p.1) = Ke.map fun X => tI X by rw [show (fun p : List Int × Nat => tI p.1) = (fun X => tI X) ∘ (·.1) from rfl, ← List.map_map, List.zipIdx_map_fst], ← refs] at mk2
  obtain ⟨x14, g2, cl⟩ := clear_loop (K := K) (ρ := ev ns (some (.int n)) (some (.lst (its.map itD))) (some (oL n its)) (some (lT (sets n))) (some (oD Lo Ke)) (some (lT Lo)) (some (lT Ke)) (some (tI Dr)) (some (.lst ((P1 ++ P2 ++ P3).map eP))) ya yb (some (.lst ((List.range' h.bs.length Lo.length).map .ref))) (some (oD Lo Ke)) none) (show 14 < 15 by decide) (List.range' h.bs.length Lo.length) g1 none fun b hb => by
    have hb' := List.mem_range'_1.mp hb
    obtain ⟨i, hi⟩ : ∃ i, b = h.bs.length + i := ⟨b - h.bs.length, by omega⟩
    have il : i < Lo.length := by omega
    refine ⟨Lo[i].map .int, ?_⟩
    rw [hg1, hi]
    show (h.bs ++ Lo.map bxI)[h.bs.length + i]? = _
    rw [List.getElem?_append_right (by omega), show h.bs.length + i - h.bs.length = i by omega, List.getElem?_map, List.getElem?_eq_getElem il]
    rfl
  refine ⟨g2, ?_⟩
  unfold s_law
  refine (cons_nx (ρ1 := ev ns (some (.int n)) none none none none none none none none none none none none none) (h1 := h) (asg_ok (op_ok (x := .int 1) (y := .int (z 0 % 6)) rfl (op_ok (x := .int (z 0)) (y := .int 6) (call_ok (cons_ok (call_ok (h1 := h) (xs := [.scr ns, .int 0]) rfl (hz' 0 (by decide) (by decide))) rfl) rfl) rfl (modI (by decide))) rfl) (by rw [← hn]; rfl))).trans ?_
  refine (cons_nx (ρ1 := ev ns (some (.int n)) (some (.lst (its.map itD))) none none none none none none none none none none none none) (h1 := h) (asg_ok (call_ok (h1 := h) (xs := [.scr ns, .int 1, .int n, .int 5]) rfl e2) rfl)).trans ?_
  refine (cons_nx (ρ1 := ev ns (some (.int n)) (some (.lst (its.map itD))) (some (oL n its)) (some (lT (sets n))) none none none none none none none none none none) (h1 := h) (asg_ok (tup_ok (xs := [oL n its, lT (sets n)]) (cons_ok (call_ok (h1 := h) (xs := [.int n, .lst (its.map itD)]) rfl (make_ok L H (.inl rfl))) (cons_ok (call_ok (h1 := h) (xs := [.int n]) rfl (sets_ok' (ti := 0) t0 h8)) rfl)) two_le) rfl)).trans ?_
  refine (cons_nx (ρ1 := ev ns (some (.int n)) (some (.lst (its.map itD))) (some (oL n its)) (some (lT (sets n))) (some (oD Lo Ke)) none none none none none none none none none) (h1 := h) (asg_ok (call_ok (h1 := h) (xs := [oL n its]) rfl fd) rfl)).trans ?_
  refine (cons_nx (ρ1 := ev ns (some (.int n)) (some (.lst (its.map itD))) (some (oL n its)) (some (lT (sets n))) (some (oD Lo Ke)) (some (lT Lo)) (some (lT Ke)) none none none none none none none) (h1 := h) (asg_ok (tup_ok (xs := [lT Lo, lT Ke]) (cons_ok (call_ok (h1 := h) (xs := [oL n its]) rfl m3) (cons_ok (call_ok (h1 := h) (xs := [oL n its]) rfl m4) rfl)) two_le) rfl)).trans ?_
  refine (cons_nx (h1 := h) ((if_ok (a := false) (h1 := h) (or_ok (a := false) (b := false) (not_ok (a := true) ((meth_s (K := K) (h := h) H t1 smL.len smK.len smL.els smK.els rfl rfl).trans (by rw [shT]))) fun _ => not_ok (a := true) ((call_ok (h1 := h) (xs := [.lst (its.map itD), .int n, lT Lo, lT Ke]) rfl (isdual_ok H t0 smL.len smK.len smL.els smK.els)).trans (by rw [shT])))).trans rfl)).trans ?_
  refine (cons_nx (ρ1 := ev ns (some (.int n)) (some (.lst (its.map itD))) (some (oL n its)) (some (lT (sets n))) (some (oD Lo Ke)) (some (lT Lo)) (some (lT Ke)) (some (tI Dr)) none none none none none none) (h1 := h) (asg_ok (op_ok (x := lT (sets n)) (y := .int j) rfl (op_ok (x := .int (z 80)) (y := .int (sets n).length) (call_ok (cons_ok (call_ok (h1 := h) (xs := [.scr ns, .int 80]) rfl (hz' 80 (by decide) (by decide))) rfl) rfl) (call_ok (h1 := h) (xs := [lT (sets n)]) rfl lnE) (by rw [modI (by omega), ← hj])) (ix_lT jl)) (by rw [hDr]; rfl))).trans ?_
  -- the pairs, in three steps
  have o1 : ∀ {x9 : Option D}, (sLst false (saCons (sVar 8) saNil)) (ev ns (some (.int n)) (some (.lst (its.map itD))) (some (oL n its)) (some (lT (sets n))) (some (oD Lo Ke)) (some (lT Lo)) (some (lT Ke)) (some (tI Dr)) x9 none none none none none) h = .ok (lT [Dr]) h := lst_ok (xs := [tI Dr]) rfl (show 1 ≤ sizeLine by decide)
  refine (cons_nx (ρ1 := ev ns (some (.int n)) (some (.lst (its.map itD))) (some (oL n its)) (some (lT (sets n))) (some (oD Lo Ke)) (some (lT Lo)) (some (lT Ke)) (some (tI Dr)) (some (.lst (P1.map eP))) none none none none none) (h1 := h) (asg_ok (lst_ok (xs := P1.map eP) ?_ (by rw [hP1]; show 4 ≤ sizeLine; decide)) rfl)).trans ?_
  · rw [hP1]
    exact cons_ok (pr_ok rfl rfl) (cons_ok (pr_ok (op_ok (x := lT Lo) rfl o1 (addLT' (by simp; omega))) rfl) (cons_ok (pr_ok rfl (op_ok (x := lT Ke) rfl o1 (addLT' (by simp; omega)))) (cons_ok (pr_ok (slOk (d := lT Lo) rfl (soOk rfl) rfl (sl1 (by omega))) rfl) rfl)))
  refine (cons_nx (ρ1 := ev ns (some (.int n)) (some (.lst (its.map itD))) (some (oL n its)) (some (lT (sets n))) (some (oD Lo Ke)) (some (lT Lo)) (some (lT Ke)) (some (tI Dr)) (some (.lst ((P1 ++ P2).map eP))) none none none none none) (h1 := h) (asg_ok (op_ok (x := .lst (P1.map eP)) (y := .lst (P2.map eP)) rfl (lst_ok (xs := P2.map eP) ?_ (by rw [hP2]; show 4 ≤ sizeLine; decide)) (prs_add (by rw [hP1, hP2]; simp))) rfl)).trans ?_
  · rw [hP2]
    exact cons_ok (pr_ok rfl (slOk (d := lT Ke) rfl (soOk rfl) rfl (sl1 (by omega)))) (cons_ok (pr_ok (un_ok (x := lT Lo) rfl (rev_l (by omega))) (op_ok (x := lT Ke.reverse) (y := lT Ke) (un_ok (x := lT Ke) rfl (rev_l (by omega))) rfl (addLT' (by rw [List.length_reverse]; omega)))) (cons_ok (pr_ok (A := []) (B := []) (lst_ok rfl (Nat.zero_le _)) (lst_ok rfl (Nat.zero_le _))) (cons_ok (pr_ok (A := [[(n : Int)]]) (lst_ok (xs := [tI [(n : Int)]]) (cons_ok (tup_ok (xs := [.int n]) rfl (show 1 ≤ sizeLine by decide)) rfl) (show 1 ≤ sizeLine by decide)) rfl) rfl)))
  refine (cons_nx (ρ1 := ev ns (some (.int n)) (some (.lst (its.map itD))) (some (oL n its)) (some (lT (sets n))) (some (oD Lo Ke)) (some (lT Lo)) (some (lT Ke)) (some (tI Dr)) (some (.lst ((P1 ++ P2 ++ P3).map eP))) none none none none none) (h1 := h) (asg_ok (op_ok (x := .lst ((P1 ++ P2).map eP)) (y := .lst (P3.map eP)) rfl (lst_ok (xs := P3.map eP) ?_ (by rw [hP3]; show 3 ≤ sizeLine; decide)) (prs_add (by rw [hP1, hP2, hP3]; simp))) rfl)).trans ?_
  · rw [hP3]
    have lm : ∀ {x9 : Option D}, (sSl false (sVar 4) (soSome (sUn negD (sK (.int 1)))) soNone) (ev ns (some (.int n)) (some (.lst (its.map itD))) (some (oL n its)) (some (lT (sets n))) (some (oD Lo Ke)) (some (lT Lo)) (some (lT Ke)) (some (tI Dr)) x9 none none none none none) h = .ok (lT La) h := slOk (d := lT (sets n)) rfl (soOk (un_ok (x := .int 1) rfl rfl)) rfl (by rw [hLa]; exact slm (by omega))
    have ix0 : ixD (lT Lo) (.int 0) h = .ok (tI X0) h := by
      have := ix_lT (h := h) (A := Lo) (j := 0) l0
      rw [eX0] at this
      exact this
    exact cons_ok (pr_ok (op_ok (x := lT Lo) (y := lT [X0.reverse]) rfl (lst_ok (xs := [tI X0.reverse]) (cons_ok (un_ok (op_ok (x := lT Lo) (y := .int 0) rfl rfl ix0) (rev_t (by omega))) rfl) (show 1 ≤ sizeLine by decide)) (addLT' (by simp; omega))) rfl) (cons_ok (pr_ok lm rfl) (cons_ok (pr_ok rfl lm) rfl))
  refine (cons_nx (for_ok (h1 := h) rfl eL)).trans ?_
  refine (cons_nx (ρ1 := ev ns (some (.int n)) (some (.lst (its.map itD))) (some (oL n its)) (some (lT (sets n))) (some (oD Lo Ke)) (some (lT Lo)) (some (lT Ke)) (some (tI Dr)) (some (.lst ((P1 ++ P2 ++ P3).map eP))) ya yb (some (.lst ((List.range' h.bs.length Lo.length).map .ref))) none none) (h1 := g1) (asg_ok (lcm_ok (h1 := h) (h2 := g1) (xs := Lo.map fun X => tI X) rfl bx (by simp; omega)) rfl)).trans ?_
  refine (cons_nx (ρ1 := ev ns (some (.int n)) (some (.lst (its.map itD))) (some (oL n its)) (some (lT (sets n))) (some (oD Lo Ke)) (some (lT Lo)) (some (lT Ke)) (some (tI Dr)) (some (.lst ((P1 ++ P2 ++ P3).map eP))) ya yb (some (.lst ((List.range' h.bs.length Lo.length).map .ref))) (some (oD Lo Ke)) none) (h1 := g1) (asg_ok (call_ok (h1 := g1) (xs := [.lst ((List.range' h.bs.length Lo.length).map .ref), lT Ke]) rfl mk2) rfl)).trans ?_
  refine (cons_nx (for_ok (h1 := g1) (xs := (List.range' h.bs.length Lo.length).map .ref) rfl cl)).trans ?_
  have mkA : makeD 1 true (f_Dual_init (tbC ct K)) [lT Lo, lT Ke] g2 = .ok (oD Lo Ke) g2 := make_ok2 (by omega) (by omega)
  have mkB : makeD 1 true (f_Dual_init (tbC ct K)) [lT Lo, lT []] g2 = .ok (oD Lo []) g2 := make_ok2 (by omega) (by simp)
  have mkC : makeD 1 true (f_Dual_init (tbC ct K)) [lT [], lT Ke] g2 = .ok (oD [] Ke) g2 := make_ok2 (by simp) (by omega)
  have f1 : (decide (Lo = Lo) && decide (([] : List (List Int)) = Ke)) = false := by
    have : decide (([] : List (List Int)) = Ke) = false := decide_eq_false (fun z => ne2 z.symm)
    rw [this, Bool.and_false]
  have f2 : (decide (([] : List (List Int)) = Lo) && decide (Ke = Ke)) = false := by
    have : decide (([] : List (List Int)) = Lo) = false := decide_eq_false (fun z => ne1 z.symm)
    rw [this, Bool.false_and]
  refine (cons_nx (h1 := g2) ((if_ok (a := false) (h1 := g2) (or_ok (a := false) (b := false) ((op_ok (x := oD Lo Ke) (y := oD Lo Ke) rfl (call_ok (h1 := g2) (xs := [lT Lo, lT Ke]) rfl mkA) ne_ok).trans (by simp)) fun _ => or_ok (a := false) (b := false) ((op_ok (x := oD Lo []) (y := oD Lo Ke) (call_ok (h1 := g2) (xs := [lT Lo, lT []]) (cons_ok (h1 := g2) rfl (cons_ok (h1 := g2) (lst_ok rfl (Nat.zero_le _)) rfl)) mkB) rfl eqo_ok).trans (by rw [f1])) fun _ => (op_ok (x := oD [] Ke) (y := oD Lo Ke) (call_ok (h1 := g2) (xs := [lT [], lT Ke]) (cons_ok (h1 := g2) (lst_ok rfl (Nat.zero_le _)) (cons_ok (h1 := g2) rfl rfl)) mkC) rfl eqo_ok).trans (by rw [f2]))).trans rfl)).trans ?_
  refine ret_ok ((and_ok (a := true) (b := true) ((op_ok (x := lT Lo) (y := lT Lo) rfl rfl eq_lT).trans (by simp)) fun _ => (op_ok (x := lT Ke) (y := lT Ke) rfl rfl eq_lT).trans (by simp)).trans rfl)
theorem plain (K : PySem.W.Frag) (ns : List Int) (hl : ns.length ≤ 63) : ∃ h, f_law (tbC ct K) [.scr ns] (bsT 2) = .ok (.bl true) h := by
  obtain ⟨g, e⟩ := law_body (K := K) (h := inB (bsT 2)) hl rfl rfl
  refine ⟨outB (bsT 2) g, ?_⟩
  unfold f_law runFn
  rw [if_pos (by rfl), show slots 15 [.scr ns] = ev ns none none none none none none none none none none none none none none from rfl, e]
  rfl
end
end VI.K21
end
section
namespace VI.K21
open PySem PySem.Spec PyProof.Rows L2 VI
theorem zok {w : World} {K : PySem.W.Frag} {h base : Heap} {mg : Str → Option Value} (X : K.In h) (G : h.Ns mainGlobals mg) (c : SaysC ct fa fn K) : Cfg.Ok ⟨tbC ct K, Rr.prog, w, mg, base⟩ tx where
  ok := tbC_ok (by decide +kernel) (by decide +kernel) c.ct
  fr := fun x e => by
    simp only [tx, List.contains_cons, List.contains_nil, Bool.or_false, Bool.or_eq_true, beq_iff_eq] at e
    rcases e with rfl | rfl | rfl | rfl | rfl | rfl | rfl | rfl | rfl | rfl | rfl | rfl
    · exact He.free_ok X G (c.d.fact 30 (f := .free "all") rfl)
    · exact He.free_ok X G (c.d.fact 31 (f := .free "any") rfl)
    · exact He.free_ok X G (c.d.fact 32 (f := .free "bool") rfl)
    · exact He.free_ok X G (c.d.fact 33 (f := .free "enumerate") rfl)
    · exact He.free_ok X G (c.d.fact 34 (f := .free "int") rfl)
    · exact He.free_ok X G (c.d.fact 35 (f := .free "isinstance") rfl)
    · exact He.free_ok X G (c.d.fact 36 (f := .free "len") rfl)
    · exact He.free_ok X G (c.d.fact 37 (f := .free "list") rfl)
    · exact He.free_ok X G (c.d.fact 38 (f := .free "range") rfl)
    · exact He.free_ok X G (c.d.fact 39 (f := .free "sorted") rfl)
    · exact He.free_ok X G (c.d.fact 40 (f := .free "tuple") rfl)
    · exact He.free_ok X G (c.d.fact 41 (f := .free "zip") rfl)
  co := fun x i e => by
    simp only [tx, List.lookup_cons, List.lookup_nil] at e
    split at e
    · rename_i q; rw [beq_iff_eq] at q; subst q; cases e; exact He.int_ok X G (c.d.fact 42 (f := .int "MOST_SERVERS" 8) rfl)
    split at e
    · rename_i q; rw [beq_iff_eq] at q; subst q; cases e; exact He.int_ok X G (c.d.fact 43 (f := .int "MOST_ITEMS" 10) rfl)
    cases e
  cl := fun i x e => by
    match i, e with
    | 0, rfl => exact ⟨_, rfl, He.glo_ok X G (c.d.fact 44 (f := .glo "Layout") rfl), He.keep_ok (c.d.fact 45 (f := .keep "Layout") rfl)⟩
    | 1, rfl => exact ⟨_, rfl, He.glo_ok X G (c.d.fact 46 (f := .glo "Dual") rfl), He.keep_ok (c.d.fact 47 (f := .keep "Dual") rfl)⟩
    | _ + 2, e => exact nomatch (show (none : Option Str) = some x from e)
  att := fun i x e => ⟨by show ct.att.getD i "" = x; rw [List.getD_eq_getElem?_getD, show ct.att[i]? = some x from e]; rfl, (List.getElem?_eq_some_iff.mp (show ct.att[i]? = some x from e)).1⟩
theorem dat {w : World} {K : PySem.W.Frag} {h base : Heap} {mg : Str → Option Value} (X : K.In h) (G : h.Ns mainGlobals mg) (c : SaysC ct fa fn K) (i : Nat) (x : Str) (st : Stmt) (e : fn[i]? = some ⟨(x, none), x, x, defArgs st, defBody st, defScope st, [], []⟩) (e2 : fa[i]? = some (.glo x)) : DefAt ⟨tbC ct K, Rr.prog, w, mg, base⟩ x st := by
  obtain ⟨fd, F⟩ := c.d.def_ i e
  exact ⟨_, fd, F, He.glo_ok X G (c.d.fact i e2)⟩
theorem mdat {w : World} {K : PySem.W.Frag} {base : Heap} {mg : Str → Option Value} (c : SaysC ct fa fn K) (i j : Nat) (C x q : Str) (st : Stmt) (ec : ct.cls[j]? = some C) (e : fn[i]? = some ⟨(C, some x), x, q, defArgs st, defBody st, defScope st, [], []⟩) (e2 : fa[i]? = some (.meth C x)) : MDef ⟨tbC ct K, Rr.prog, w, mg, base⟩ j x q st := by
  obtain ⟨fd, F⟩ := c.d.def_ i e
  have k := c.ct
  unfold ctOk at k
  have k1 := List.all_eq_true.mp (He.ba k).1 C (List.mem_of_getElem? ec)
  refine ⟨He.ga K C, _, fd, F, ?_, He.cls_ok (He.ba k1).1, He.meth_ok (c.d.fact i e2)⟩
  show (ct.cls[j]?).map (He.ga K) = some (He.ga K C)
  rw [ec]; rfl
theorem idat {w : World} {K : PySem.W.Frag} {h base : Heap} {mg : Str → Option Value} (X : K.In h) (G : h.Ns mainGlobals mg) (c : SaysC ct fa fn K) (i j g : Nat) (C q : Str) (st : Stmt) (ec : ct.cls[j]? = some C) (e : fn[i]? = some ⟨(C, some "__init__"), "__init__", q, defArgs st, defBody st, defScope st, [], []⟩) (e2 : fa[i]? = some (.mkr C)) (e3 : fa[g]? = some (.glo C)) : IDef ⟨tbC ct K, Rr.prog, w, mg, base⟩ C j q st := by
  obtain ⟨fd, F⟩ := c.d.def_ i e
  refine ⟨He.ga K C, _, fd, F, ?_, He.mkr_ok (c.d.fact i e2), He.glo_ok X G (c.d.fact g e3)⟩
  show (ct.cls[j]?).map (He.ga K) = some (He.ga K C)
  rw [ec]; rfl
theorem tdat {w : World} {K : PySem.W.Frag} {h base : Heap} {mg : Str → Option Value} (X : K.In h) (G : h.Ns mainGlobals mg) (c : SaysC ct fa fn K) (TB : ∀ p ∈ csT ct K, LamX.TabB base mg p.1 p.2) (i ti : Nat) (x : Str) (st : Stmt) (e : fn[i]? = some ⟨(x, none), x, x, defArgs st, defBody st, defScope st, [], []⟩) (e2 : fa[i]? = some (.glo x)) (e3 : ct.tab[ti]? = some ((x, none), x)) : DefT ⟨tbC ct K, Rr.prog, w, mg, base⟩ x ti st := by
  obtain ⟨fd, F⟩ := c.d.def_ i e
  refine ⟨(x, none), fd, F, He.glo_ok X G (c.d.fact i e2), ?_, TB _ (List.mem_map.mpr ⟨_, List.mem_of_getElem? e3, rfl⟩)⟩
  show (match ct.tab[ti]? with | some p => ((He.cT K p.1).2, p.2 ++ ".<locals>." ++ "<lambda>") | none => (0, "")) = _
  rw [e3]
  rfl
theorem facts {w : World} {K : PySem.W.Frag} {h : Heap} {mg : Str → Option Value} {f : Addr} (X : K.In h) (G : h.Ns mainGlobals mg) (hfa : mg ("law" : Str) = some (.ref f)) (c : SaysC ct fa fn K) :
    ∃ fd : FuncData, (∀ (s : Shared) (v : Value), BindsTo s fd ⟨[v], []⟩ [("_law_script", v)]) ∧ ∀ base : Heap, K.In base → base.Ns mainGlobals mg → (∀ p ∈ csT ct K, LamX.TabB base mg p.1 p.2) → FnOk Rr.prog w K mg base (L2.CX Rr.prog w) 9 f fd ["_law_script"] (spF (tbC ct K) (f_law (tbC ct K))) := by
  obtain ⟨fd, F⟩ := c.d.def_ 29 (d := dd_law) rfl
  have e := hfa.symm.trans (He.glo_ok X G (c.d.fact 29 (f := .glo "law") rfl))
  cases e
  have b := FunD.bindsA (ps := ["_law_script"]) F fun _ _ _ _ _ _ us hl => match us, hl with | [_], _ => rfl
  refine ⟨fd, fun s v => b s [v] rfl, fun base _ _ TB => ?_⟩
  have z : Cfg.Ok ⟨tbC ct K, Rr.prog, w, mg, base⟩ tx := zok X G c
  have G__law_number := g__law_number z (dat X G c 0 "_law_number" d__law_number rfl rfl) 
  have G__law_items := g__law_items z (dat X G c 1 "_law_items" d__law_items rfl rfl) G__law_number
  have G_is_number := g_is_number z (dat X G c 2 "is_number" d_is_number rfl rfl) 
  have G_is_set := g_is_set z (dat X G c 3 "is_set" d_is_set rfl rfl) G_is_number
  have G_is_item := g_is_item z (dat X G c 4 "is_item" d_is_item rfl rfl) G_is_number G_is_set
  have K_Layout := g_Layout_init z (idat X G c 5 0 44 "Layout" "Layout.__init__" d_Layout_init rfl rfl rfl rfl) G_is_number G_is_item
  have G__law_sets := g__law_sets z (tdat X G c TB 6 0 "_law_sets" d__law_sets rfl rfl rfl) 
  have K_Dual := g_Dual_init z (idat X G c 7 1 46 "Dual" "Dual.__init__" d_Dual_init rfl rfl rfl rfl) 
  have G_check_layout := g_check_layout z (dat X G c 8 "check_layout" d_check_layout rfl rfl) 
  have G_is_within := g_is_within z (dat X G c 9 "is_within" d_is_within rfl rfl) 
  have G_minimal := g_minimal z (dat X G c 10 "minimal" d_minimal rfl rfl) G_is_within
  have G_sets_of := g_sets_of z (tdat X G c TB 11 1 "sets_of" d_sets_of rfl rfl rfl) 
  have G_check_set := g_check_set z (dat X G c 12 "check_set" d_check_set rfl rfl) G_is_set
  have G_common := g_common z (dat X G c 13 "common" d_common rfl rfl) 
  have M_Layout_readable := g_Layout_readable z (mdat c 14 0 "Layout" "readable" "Layout.readable" d_Layout_readable rfl rfl rfl) G_check_set G_common
  have M_Layout___len__ := g_Layout___len__ z (mdat c 15 0 "Layout" "__len__" "Layout.__len__" d_Layout___len__ rfl rfl rfl) 
  have G_is_keeping := g_is_keeping z (dat X G c 16 "is_keeping" d_is_keeping rfl rfl) M_Layout_readable M_Layout___len__
  have G_minimal_keepers := g_minimal_keepers z (dat X G c 17 "minimal_keepers" d_minimal_keepers rfl rfl) G_check_layout G_minimal G_sets_of G_is_keeping
  have G_others_of := g_others_of z (dat X G c 18 "others_of" d_others_of rfl rfl) 
  have G_is_losing := g_is_losing z (dat X G c 19 "is_losing" d_is_losing rfl rfl) G_is_keeping G_others_of
  have G_minimal_losses := g_minimal_losses z (dat X G c 20 "minimal_losses" d_minimal_losses rfl rfl) G_check_layout G_minimal G_sets_of G_is_losing
  have G_find_dual := g_find_dual z (dat X G c 21 "find_dual" d_find_dual rfl rfl) K_Dual G_minimal_keepers G_minimal_losses
  have M_Dual_settles := g_Dual_settles z (mdat c 22 1 "Dual" "settles" "Dual.settles" d_Dual_settles rfl rfl rfl) G_is_within G_others_of
  have M_Dual_shows := g_Dual_shows z (mdat c 23 1 "Dual" "shows" "Dual.shows" d_Dual_shows rfl rfl rfl) G_is_set G_check_layout G_sets_of G_is_keeping G_is_losing M_Dual_settles
  have G__law_lost := g__law_lost z (dat X G c 24 "_law_lost" d__law_lost rfl rfl) 
  have G__law_within := g__law_within z (dat X G c 25 "_law_within" d__law_within rfl rfl) 
  have G__law_is_dual := g__law_is_dual z (dat X G c 26 "_law_is_dual" d__law_is_dual rfl rfl) G__law_sets G__law_lost G__law_within
  have M_Layout___eq__ := g_Layout___eq__ z (mdat c 27 0 "Layout" "__eq__" "Layout.__eq__" d_Layout___eq__ rfl rfl rfl) 
  have M_Dual___eq__ := g_Dual___eq__ z (mdat c 28 1 "Dual" "__eq__" "Dual.__eq__" d_Dual___eq__ rfl rfl rfl) 
  exact fn_sound (T := tbC ct K) F (S := ⟨rfl, rfl, rfl, by decide +kernel, rfl, by decide +kernel, by decide +kernel⟩) fun cdv A outer s H E hr => b_law G__law_number G__law_items K_Layout G__law_sets K_Dual G_minimal_keepers G_minimal_losses G_find_dual M_Dual_shows G__law_is_dual M_Layout___eq__ M_Dual___eq__ ⟨z, rfl, rfl, rfl, rfl, rfl, rfl, by decide +kernel, rfl, rfl, fun _ _ => rfl, rfl, hr, takes_of rfl rfl rfl rfl, passes_of rfl⟩

end VI.K21
open PySem PySem.W PySem.Calls PyProof.Rows
theorem PySem.Challenge.cw_copylots_k21_whole_dual_holds : PySem.Challenge.rw_copylots_k21_whole_dual.Holds := by
  w_on; o_law
  refine HandSHeadRun.head_any (r := OpenLaw.row PySem.Challenge.rw_copylots_k21_whole_dual) (q := view (OpenLaw.row PySem.Challenge.rw_copylots_k21_whole_dual).prog [36]) (H := VI.K21.hk) (ob := VI.K21.ob) (M := 4000) (loose := VI.K21.loose) (d := HandSHeadRun.topDef (OpenLaw.row PySem.Challenge.rw_copylots_k21_whole_dual).prog 36) (kwd := []) VI.K21.ob_eq
    (by kernel_rfl) (fun s => by kernel_rfl) VI.K21.run (by kernel_rfl) (by kernel_rfl) (by kernel_rfl) (by rfl) (by first | assumption | decide +kernel) (by decide +kernel) ⟨rfl, rfl, rfl, rfl, rfl, by decide +kernel⟩ ?hw ?hc
  case hw => w_witness2
  case hc =>
    refine VI.walk_t VI.K21.ct (l := PySem.Challenge.rw_copylots_k21_whole_dual) (n := 63) (k := 9) (x := "_law_script") rfl (by decide) (by kernel_rfl) ⟨rfl, by decide, by decide⟩ ?_
    intro w mg fa h Y G hmg0
    obtain ⟨K, KX, c⟩ := Y
    have hmg : mg ("law" : PySem.Str) = some (.ref fa) := by
      have e : (HandSHeadRun.topDef (OpenLaw.row PySem.Challenge.rw_copylots_k21_whole_dual).prog 36).name = ("law" : PySem.Str) := by kernel_rfl
      rw [← e]
      exact hmg0
    obtain ⟨fd, hb, hF⟩ := VI.K21.facts (w := w) KX G hmg c.says
    exact ⟨K, _, _, fd, _, KX, c, hb, fun H a ns hl hT hS => VI.start_okT c.nd hT hS (VI.K21.plain K ns hl).choose_spec, hF⟩
end
