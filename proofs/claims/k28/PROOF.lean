import PyProof.Rows.All
import Wide.All
import OpenK.AllK
import Wide.FinOn
import HandS.ForMost
import HandS.Exc
import HandS.Walk
import HandS.IsInst
import HandS.Lambda
import HandS.TupAny
import HandS.TupMul
import HandS.Star
import HandS.Flow
import HandS.Wide
import HandS.Style
import HandS.Deep
import HandS.TupLe
import KE.DataMinMax
import KE.DataAny
import KE.DataFind
import KE.KTupSum
import HandS.CallSlots
import HandS.CallRecv
import HandS.HeadWalk
import HandS.Defaults
import HandS.Conv
import HandS.SortInts
import KE.KSortedM
import HandS.Zip
import HandS.SetFor
import HandS.HeadEnd
import KE.GoesEnum
import HandS.HeadHook2
import HandS.HeadHook4
import KE.GoesZip
import KE.KDictZip
import KE.SortData
import KE.DataCmp
import HandS.OwnEq
import HandS.Set
import HandS.Strs
import HandS.ForDict
import HandS.DictComp
import KE.KDictDisplayH
import KE.KDictWalk
import KE.KDictCopyH
import KE.KDictItemsList
import HandS.DictTup
import KE.KDictPairs
import KE.KEqNest
import KE.DataEq
import KE.SortKeyHeap
import HandS.ExcOwn
import HandS.HotCalls
import HandS.Text
import KE.KExcIs
import HandS.Head0
import HandS.Head1
import HandS.Head2
import KE.KExcSuper
import HandS.ExcInit
import KE.KDictSum
import HandS.TupSets
import HandS.HeadHook1
import PySem.Challenge.RW_copylots_k28_whole_rounds_tried
set_option Elab.async false
set_option linter.all false
set_option maxRecDepth 100000
set_option maxHeartbeats 0
section
namespace VI
open PySem PySem.Spec PyProof.Rows L2
abbrev Sg := L2.St
inductive Ks where
  | k (l : List Key) | t (l : List (List Key))
def Ks.len : Ks → Nat
  | .k l => l.length
  | .t l => l.length
def kvO : Ks → List V → HO
  | .k l, vs => .dK (l.zip vs)
  | .t l, vs => .dT (l.zip vs)
inductive D where
  | non | bl (b : Bool) | int (i : Int) | str (x : Str)
  | tup (xs : List D) | lst (xs : List D)
  /-- a tuple whose object is known -/
  | tpl (xs : List D)
  | dct (ks : Ks) (vs : List D)
  | obj (c : Nat) (fs : List Nat) (vs : List D)
  /-- an exception that was caught -/
  | exo (c : Nat) (fs : List Nat) (vs : List D)
  | ref (b : Nat)
  /-- the script (a list that is never written) -/
  | scr (ns : List Int)
inductive Bx where
  | lst (lk : Bool) (xs : List D)
  | dct (lk : Bool) (ks : Ks) (vs : List D)
  /-- a dict that is not written any more -/
  | dfz (ks : Ks) (vs : List D)
  | obj (c : Nat) (fs : List Nat) (vs : List D)
  /-- the table of code objects of the t-th def with lambdas -/
  | tbl (t : Nat)
abbrev Ev := List (Option D)
structure Bs where
  fbs : List Nat
  bs : List Bx
mutual
def bel (k : Nat) : D → Prop
  | .tup xs => bels k xs
  | .tpl xs => bels k xs
  | .lst xs => bels k xs
  | .dct _ vs => bels k vs
  | .obj _ _ vs => bels k vs
  | .exo _ _ vs => bels k vs
  | .ref b => b < k
  | _ => True
def bels (k : Nat) : List D → Prop
  | [] => True
  | x :: xs => bel k x ∧ bels k xs
end
def belB (k : Nat) : Bx → Prop
  | .lst _ xs => bels k xs
  | .dct _ _ vs => bels k vs
  | .dfz _ vs => bels k vs
  | .obj _ _ vs => bels k vs
  | .tbl _ => True
mutual
def noR : D → Bool
  | .tup xs => noRs xs
  | .tpl xs => noRs xs
  | .lst xs => noRs xs
  | .dct _ vs => noRs vs
  | .obj _ _ vs => noRs vs
  | .exo _ _ vs => noRs vs
  | .ref _ => false
  | _ => true
def noRs : List D → Bool
  | [] => true
  | x :: xs => noR x && noRs xs
end
mutual
theorem noR.bel {k : Nat} : ∀ d : D, noR d = true → bel k d
  | .non, _ => by simp [VI.bel]
  | .bl _, _ => by simp [VI.bel]
  | .int _, _ => by simp [VI.bel]
  | .str _, _ => by simp [VI.bel]
  | .tup xs, h => by simp only [noR] at h; simp only [VI.bel]; exact noRs.bels xs h
  | .tpl xs, h => by simp only [noR] at h; simp only [VI.bel]; exact noRs.bels xs h
  | .lst xs, h => by simp only [noR] at h; simp only [VI.bel]; exact noRs.bels xs h
  | .dct _ vs, h => by simp only [noR] at h; simp only [VI.bel]; exact noRs.bels vs h
  | .obj _ _ vs, h => by simp only [noR] at h; simp only [VI.bel]; exact noRs.bels vs h
  | .exo _ _ vs, h => by simp only [noR] at h; simp only [VI.bel]; exact noRs.bels vs h
  | .ref b, h => by simp [noR] at h
  | .scr _, _ => by simp [VI.bel]
theorem noRs.bels {k : Nat} : ∀ d : List D, noRs d = true → bels k d
  | [], _ => by simp [VI.bels]
  | x :: xs, h => by simp only [noRs, Bool.and_eq_true] at h; simp only [VI.bels]; exact ⟨noR.bel x h.1, noRs.bels xs h.2⟩
end
structure Tb where
  K : PySem.W.Frag
  cls : Nat → Option Addr
  att : Nat → Str
  /-- how many names -/
  n : Nat
  /-- isinstance: types by numbers (0 NoneType, 1 bool, 2 int, 3 str, 4 tuple, 5 list, 6 dict, 7 + c the class c) -/
  kit : Nat → Nat → Option Bool
  isc : Nat → Bool
  /-- the class c has plain instances with the attribute f -/
  fok : Nat → Nat → Bool
  /-- the tables of code objects: where, the name of the code objects in it -/
  tab : Nat → Addr × Str
  /-- exception classes have the numbers from 1000 on; such a class's instances have the field f -/
  efok : Nat → Nat → Bool
structure XcOk (K : PySem.W.Frag) (C : Addr) : Prop where
  cl : (PySem.W.clsIn K C).isSome = true
  ga : PySem.W.findIn K (.ref C) "__getattribute__" = some (some (.builtin "BaseException.__getattribute__"))
  gg : PySem.W.findIn K (.ref C) "__getattr__" = some none
  exC : PySem.W.subIn K (.ref C) (.type "BaseException") = some true
  hdC : PySem.W.hasDictIn K C = true
  ha : PySem.W.findIn K (.ref C) "__class__" = some (some (.builtin "object.__class__"))
  hn : PySem.W.specialIn K (.builtin "object.__class__") "__get__" = some (some (.builtin "getset_descriptor.__get__"))
  htk : PySem.W.takesIn K (.builtin "object.__class__") = some true
  hm : PySem.W.mroIn K C (.type "object") = some true
  ty : PySem.W.typeIn K (.ref C) = some (.type "type")
def tyS : Nat → String
  | 0 => "NoneType"
  | 1 => "bool"
  | 2 => "int"
  | 3 => "str"
  | 4 => "tuple"
  | 5 => "list"
  | _ => "dict"
def Tb.tyV (T : Tb) (t : Nat) (u : Value) : Prop := if t < 7 then u = .type (tyS t) else ∃ C, T.cls (t - 7) = some C ∧ u = .ref C
structure Tb.Ok (T : Tb) : Prop where
  kit : ∀ t u b tv uv, T.kit t u = some b → T.tyV t tv → T.tyV u uv → PySem.W.kitOne T.K tv uv = some b
  ins : ∀ c C, T.cls c = some C → T.isc c = true → ∀ (H : Hp) (a dx : Addr) (fs : List (Str × V)), H a = some (.ins C dx fs) → TyOf T.K H (.ref a) (.ref C)
  ne : ∀ c C, T.cls c = some C → PySem.W.mroIn T.K C (.type "object") = some true ∧ PySem.W.findIn T.K (.ref C) "__ne__" = some (some (.builtin "object.__ne__"))
  inj : ∀ f g, f < T.n → T.att g = T.att f → g = f
  lt : ∀ c f, T.fok c f = true → f < T.n
  fld : ∀ c f C, T.fok c f = true → T.cls c = some C → Cls T.K C ∧ NoAttr T.K C (T.att f)
  exc : ∀ c C, 1000 ≤ c → T.cls c = some C → XcOk T.K C
  exm : ∀ c u b C E, 1000 ≤ c → 1000 ≤ u → T.kit (7 + c) (7 + u) = some b → T.cls c = some C → T.cls u = some E → PySem.W.exmOne T.K (.ref C) (.ref E) = some b
  efl : ∀ c f C, T.efok c f = true → T.cls c = some C → f < T.n ∧ PySem.W.findIn T.K (.ref C) (T.att f) = some none
structure Mu where
  ad : List Addr
  lk : List Addr
  /-- lists that a comprehension is filling -/
  pr : List Addr
  /-- the heights of the running calls -/
  fb : List Nat
def Mu.no (μ : Mu) (a : Addr) : Prop := a ∉ μ.ad ∧ a ∉ μ.pr
def Mu.push (μ : Mu) (p : Addr) : Mu := { μ with ad := μ.ad ++ [p] }
def FzL (K : PySem.W.Frag) (μ : Mu) (H : Hp) (a : Addr) (xs : List V) : Prop := (Rd H a (.lst xs) ∧ μ.no a) ∨
  ∃ (o : Obj) (its : Array Value) (n : Nat), K.lookup a = some o ∧ o.cls = .type "list" ∧ o.dict = none ∧ o.data = .seq its n ∧ its.size ≤ sizeLine ∧ Vals xs its.toList
theorem FzL.sq {K μ H a xs} (h : FzL K μ H a xs) : SqL K H a xs := by
  rcases h with ⟨h, _⟩ | h
  · exact .inl h
  · exact .inr h
def anyH : HO := .ext fun _ => True
def XdAt (T : Tb) (μ : Mu) (H : Hp) (fs : List Nat) (vs : List V) (d : Option Addr) : Prop := (fs = [] ∧ d = none) ∨ ∃ dx, d = some dx ∧ H dx = some (.xd ((fs.map T.att).zip vs)) ∧ μ.no dx
section
variable (T : Tb) (μ : Mu) (H : Hp)
mutual
def Rep : D → V → Prop
  | .non, v => v = .non
  | .bl b, v => v = .bl b
  | .int i, v => v = .int i
  | .str x, v => v = .str x
  | .tup xs, v => ∃ a vs, v = .ref a ∧ H a = some (.tup vs) ∧ μ.no a ∧ Reps xs vs
  | .tpl xs, v => ∃ a o vs, v = .ref a ∧ H a = some (.frz o (.tup vs)) ∧ (o.cls = .type "tuple" ∧ o.dict = none) ∧ μ.no a ∧ Reps xs vs
  | .lst xs, v => ∃ a vs, v = .ref a ∧ H a = some (.lst vs) ∧ μ.no a ∧ Reps xs vs
  | .dct ks xs, v => ∃ a o vs, v = .ref a ∧ H a = some (.frz o (kvO ks vs)) ∧ μ.no a ∧ ks.len = vs.length ∧ Reps xs vs
  | .obj c fs xs, v => ∃ a C dx vs, v = .ref a ∧ T.cls c = some C ∧ H a = some (.ins C dx ((fs.map T.att).zip vs)) ∧ μ.no a ∧ fs.length = vs.length ∧ Reps xs vs
  | .exo c fs xs, v => ∃ a C o us vs, v = .ref a ∧ T.cls c = some C ∧ H a = some (.frz o anyH) ∧ (o.cls = .ref C ∧ o.data = .fields us) ∧ μ.no a ∧ XdAt T μ H fs vs o.dict ∧ fs.length = vs.length ∧ Reps xs vs
  | .ref b, v => ∃ a, μ.ad[b]? = some a ∧ v = .ref a
  | .scr ns, v => ∃ a, v = .ref a ∧ FzL T.K μ H a (ns.map V.int)
def Reps : List D → List V → Prop
  | [], vs => vs = []
  | x :: xs, vs => ∃ v r, vs = v :: r ∧ Rep x v ∧ Reps xs r
end
def RepB : Bx → Addr → Prop
  | .lst _ xs, a => ∃ vs, H a = some (.lst vs) ∧ Reps T μ H xs vs
  | .dct lk ks xs, a => ∃ vs, (if lk then ∃ o, H a = some (.frz o (kvO ks vs)) else H a = some (kvO ks vs)) ∧ ks.len = vs.length ∧ Reps T μ H xs vs
  | .dfz ks xs, a => ∃ o vs, H a = some (.frz o (kvO ks vs)) ∧ ks.len = vs.length ∧ Reps T μ H xs vs
  | .obj c fs xs, a => ∃ C dx vs, T.cls c = some C ∧ H a = some (.ins C dx ((fs.map T.att).zip vs)) ∧ fs.length = vs.length ∧ Reps T μ H xs vs
  | .tbl t, a => a = (T.tab t).1 ∧ ∃ ps : Array Value, H a = some (.tbl ps) ∧ TriplesOk ps.toList ∧ ∀ (pos : Pos) (cv : Value), codeAmong pos ps.toList = some cv → ∃ c, cv = .ref c ∧ H c = some (LamX.CodeO c (T.tab t).2) ∧ μ.no c
end
def lkd : Bx → Bool
  | .lst lk _ => lk
  | .dct lk _ _ => lk
  | _ => false
structure Rel (T : Tb) (μ : Mu) (h : Bs) (H : Hp) : Prop where
  fb : h.fbs = μ.fb
  prh : ∀ a ∈ μ.pr, (∃ o, H a = some o ∧ ∀ xs, o ≠ .tup xs) ∧ a ∉ μ.ad
  lks : ∀ a ∈ μ.lk, ∃ (b : Nat) (x : Bx), μ.ad[b]? = some a ∧ h.bs[b]? = some x ∧ lkd x = true
  lkf : ∀ (b : Nat) (x : Bx) (a : Addr), h.bs[b]? = some x → lkd x = true → μ.ad[b]? = some a → a ∈ μ.lk
  len : μ.ad.length = h.bs.length
  nd : μ.ad.Nodup
  at_ : ∀ (i : Nat) (b : Bx) (a : Addr), h.bs[i]? = some b → μ.ad[i]? = some a → RepB T μ H b a
  lo : ∀ k ∈ h.fbs, k ≤ h.bs.length
  ord : h.fbs.Pairwise (· ≥ ·)
  wf : ∀ k ∈ h.fbs, ∀ (i : Nat) (b : Bx), i < k → h.bs[i]? = some b → belB k b
def RepE (T : Tb) (μ : Mu) (H : Hp) (ρ : Ev) (σ : Sg) : Prop := ρ.length = σ.length ∧ ∀ (i : Nat) (d : D), ρ[i]? = some (some d) → ∃ v, σ[i]? = some (some v) ∧ Rep T μ H d v
structure Stp (μ : Mu) (H : Hp) (μ' : Mu) (H' : Hp) : Prop where
  fbe : μ'.fb = μ.fb
  pre : ∀ (i : Nat) (a : Addr), μ.ad[i]? = some a → μ'.ad[i]? = some a
  lks : μ'.lk = μ.lk
  prs : ∀ a ∈ μ.pr, a ∈ μ'.pr
  prn : ∀ a ∈ μ'.pr, a ∈ μ.pr ∨ a ∈ μ.ad ∨ H a = none
  keep' : ∀ a o, H a = some o → (a ∉ μ.ad ∨ a ∈ μ.lk) → H' a = some o
  new : ∀ p, p ∈ μ'.ad → p ∈ μ.ad ∨ H p = none
theorem Stp.keep {μ H μ' H'} (s : Stp μ H μ' H') : ∀ a o, H a = some o → a ∉ μ.ad → H' a = some o := fun a o h n => s.keep' a o h (.inl n)
theorem Stp.refl {μ H} : Stp μ H μ H := ⟨rfl, fun _ _ h => h, rfl, fun _ h => h, fun _ h => .inl h, fun _ _ h _ => h, fun _ h => .inl h⟩
theorem Stp.sub {μ H μ' H'} (s : Stp μ H μ' H') {a : Addr} (h : a ∈ μ.ad) : a ∈ μ'.ad := by
  obtain ⟨i, hi⟩ := List.getElem?_of_mem h
  exact List.mem_of_getElem? (s.pre i a hi)
theorem Stp.trans {μ H μ' H' μ'' H''} (s : Stp μ H μ' H') (t : Stp μ' H' μ'' H'') : Stp μ H μ'' H'' where
  fbe := t.fbe.trans s.fbe
  pre := fun i a h => t.pre i a (s.pre i a h)
  lks := t.lks.trans s.lks
  prs := fun a h => t.prs a (s.prs a h)
  prn := fun a h => by
    rcases t.prn a h with z | z | z
    · exact s.prn a z
    · rcases s.new a z with y | y
      · exact .inr (.inl y)
      · exact .inr (.inr y)
    · by_cases hm : a ∈ μ.ad
      · exact .inr (.inl hm)
      · cases e : H a with
        | none => exact .inr (.inr rfl)
        | some o => have := s.keep a o e hm; rw [z] at this; cases this
  keep' := fun a o h n => by
    rcases n with n | n
    · by_cases hm : a ∈ μ'.ad
      · rcases s.new a hm with z | z
        · exact absurd z n
        · rw [z] at h; cases h
      · exact t.keep a o (s.keep a o h n) hm
    · exact t.keep' a o (s.keep' a o h (.inr n)) (.inr (by rw [s.lks]; exact n))
  new := fun p hp => by
    rcases t.new p hp with z | z
    · exact s.new p z
    · by_cases hm : p ∈ μ.ad
      · exact .inl hm
      · cases e : H p with
        | none => exact .inr rfl
        | some o => have := s.keep p o e hm; rw [z] at this; cases this
theorem Stp.laid {μ : Mu} {H : Hp} {p : Addr} {o : HO} (h : H p = none) : Stp μ H μ (upd H p o) :=
  ⟨rfl, fun _ _ e => e, rfl, fun _ z => z, fun _ z => .inl z, fun a u e _ => by rw [upd_ne (ne_of_none e h)]; exact e, fun _ e => .inl e⟩
theorem Stp.box {μ : Mu} {H : Hp} {p : Addr} {o : HO} (h : H p = none) : Stp μ H (μ.push p) (upd H p o) :=
  ⟨rfl, fun i a e => by
      have hl : i < μ.ad.length := (List.getElem?_eq_some_iff.mp e).1
      show (μ.ad ++ [p])[i]? = some a
      rw [List.getElem?_append_left hl]; exact e,
    rfl, fun _ z => z, fun _ z => .inl z, fun a u e _ => by rw [upd_ne (ne_of_none e h)]; exact e,
    fun q hq => by
      rcases List.mem_append.mp (show q ∈ μ.ad ++ [p] from hq) with z | z
      · exact .inl z
      · have : q = p := by simpa using z
        subst this; exact .inr h⟩
theorem Stp.put {μ : Mu} {H : Hp} {p : Addr} {o : HO} (h : p ∈ μ.ad) (hl : p ∉ μ.lk) : Stp μ H μ (upd H p o) :=
  ⟨rfl, fun _ _ e => e, rfl, fun _ z => z, fun _ z => .inl z, fun a u e n => by
    rw [upd_ne (fun z => by
      subst z
      rcases n with n | n
      · exact n h
      · exact hl n)]
    exact e, fun _ e => .inl e⟩
section
variable {T : Tb} {μ μ' : Mu} {H H' : Hp}
theorem Stp.not (s : Stp μ H μ' H') {a : Addr} {o : HO} (h : H a = some o) (n : μ.no a) : μ'.no a := by
  refine ⟨fun hm => ?_, fun hm => ?_⟩
  · rcases s.new a hm with z | z
    · exact n.1 z
    · rw [z] at h; cases h
  · rcases s.prn a hm with z | z | z
    · exact n.2 z
    · exact n.1 z
    · rw [z] at h; cases h
theorem Stp.rd (s : Stp μ H μ' H') {a : Addr} {u : HO} (r : Rd H a u) (n : μ.no a) : Rd H' a u := by
  rcases r with r | ⟨o, r⟩
  · exact .inl (s.keep a _ r n.1)
  · exact .inr ⟨o, s.keep a _ r n.1⟩
theorem Rd.some {a : Addr} {u : HO} (r : Rd H a u) : ∃ o, H a = some o := by
  rcases r with r | ⟨o, r⟩
  · exact ⟨_, r⟩
  · exact ⟨_, r⟩
theorem Stp.fl {K : PySem.W.Frag} (s : Stp μ H μ' H') {a : Addr} {xs : List V} (h : FzL K μ H a xs) : FzL K μ' H' a xs := by
  rcases h with ⟨r, n⟩ | h
  · obtain ⟨o, e⟩ := Rd.some r
    exact .inl ⟨s.rd r n, s.not e n⟩
  · exact .inr h
theorem XdAt.imp {fs : List Nat} {vs : List V} {d : Option Addr} (q : XdAt T μ H fs vs d) (h : ∀ dx u, H dx = some u → μ.no dx → H' dx = some u ∧ μ'.no dx) : XdAt T μ' H' fs vs d := by
  rcases q with q | ⟨dx, e, f, n⟩
  · exact .inl q
  · exact .inr ⟨dx, e, (h dx _ f n).1, (h dx _ f n).2⟩
mutual
theorem Rep.step (s : Stp μ H μ' H') : ∀ (d : D) (v : V), Rep T μ H d v → Rep T μ' H' d v
  | .non, v, h => by simpa [Rep] using h
  | .bl b, v, h => by simpa [Rep] using h
  | .int i, v, h => by simpa [Rep] using h
  | .str x, v, h => by simpa [Rep] using h
  | .tup xs, v, h => by
    simp only [Rep] at h ⊢
    obtain ⟨a, vs, e, f, n, r⟩ := h
    exact ⟨a, vs, e, s.keep a _ f n.1, s.not f n, Reps.step s xs vs r⟩
  | .tpl xs, v, h => by
    simp only [Rep] at h ⊢
    obtain ⟨a, o, vs, e, f, c, n, r⟩ := h
    exact ⟨a, o, vs, e, s.keep a _ f n.1, c, s.not f n, Reps.step s xs vs r⟩
  | .lst xs, v, h => by
    simp only [Rep] at h ⊢
    obtain ⟨a, vs, e, f, n, r⟩ := h
    exact ⟨a, vs, e, s.keep a _ f n.1, s.not f n, Reps.step s xs vs r⟩
  | .dct ks xs, v, h => by
    simp only [Rep] at h ⊢
    obtain ⟨a, o, vs, e, f, n, l, r⟩ := h
    exact ⟨a, o, vs, e, s.keep a _ f n.1, s.not f n, l, Reps.step s xs vs r⟩
  | .obj c fs xs, v, h => by
    simp only [Rep] at h ⊢
    obtain ⟨a, C, dx, vs, e, ec, f, n, l, r⟩ := h
    exact ⟨a, C, dx, vs, e, ec, s.keep a _ f n.1, s.not f n, l, Reps.step s xs vs r⟩
  | .exo c fs xs, v, h => by
    simp only [Rep] at h ⊢
    obtain ⟨a, C, o, us, vs, e, ec, f, eo, n, x, l, r⟩ := h
    exact ⟨a, C, o, us, vs, e, ec, s.keep a _ f n.1, eo, s.not f n, x.imp fun dx u z m => ⟨s.keep dx _ z m.1, s.not z m⟩, l, Reps.step s xs vs r⟩
  | .ref b, v, h => by
    simp only [Rep] at h ⊢
    obtain ⟨a, e, e2⟩ := h
    exact ⟨a, s.pre _ _ e, e2⟩
  | .scr ns, v, h => by
    simp only [Rep] at h ⊢
    obtain ⟨a, e, f⟩ := h
    exact ⟨a, e, s.fl f⟩
theorem Reps.step (s : Stp μ H μ' H') : ∀ (d : List D) (v : List V), Reps T μ H d v → Reps T μ' H' d v
  | [], v, h => by simpa [Reps] using h
  | x :: xs, v, h => by
    simp only [Reps] at h ⊢
    obtain ⟨w, r, e, h1, h2⟩ := h
    exact ⟨w, r, e, Rep.step s x w h1, Reps.step s xs r h2⟩
end
theorem RepE.step (s : Stp μ H μ' H') {ρ : Ev} {σ : Sg} (h : RepE T μ H ρ σ) : RepE T μ' H' ρ σ := ⟨h.1, fun i d e => by
  obtain ⟨v, e1, r⟩ := h.2 i d e
  exact ⟨v, e1, Rep.step s d v r⟩⟩
theorem Reps.length {T : Tb} {μ H} : ∀ {xs : List D} {vs : List V}, Reps T μ H xs vs → xs.length = vs.length
  | [], vs, h => by simp only [Reps] at h; subst h; rfl
  | x :: xs, vs, h => by
    simp only [Reps] at h
    obtain ⟨v, r, rfl, _, h⟩ := h
    simp [Reps.length h]
theorem Reps.get {T : Tb} {μ H} : ∀ {xs : List D} {vs : List V} {i : Nat} {x : D}, Reps T μ H xs vs → xs[i]? = some x → ∃ v, vs[i]? = some v ∧ Rep T μ H x v
  | [], _, _, _, _, e => by simp at e
  | y :: xs, vs, 0, x, h, e => by
    simp only [Reps] at h
    obtain ⟨v, r, rfl, h1, _⟩ := h
    simp at e; subst e
    exact ⟨v, rfl, h1⟩
  | y :: xs, vs, i + 1, x, h, e => by
    simp only [Reps] at h
    obtain ⟨v, r, rfl, _, h2⟩ := h
    obtain ⟨u, e1, r1⟩ := Reps.get (i := i) (x := x) h2 (by simpa using e)
    exact ⟨u, by simpa using e1, r1⟩
theorem Reps.append {T : Tb} {μ H} : ∀ {xs ys : List D} {vs ws : List V}, Reps T μ H xs vs → Reps T μ H ys ws → Reps T μ H (xs ++ ys) (vs ++ ws)
  | [], ys, vs, ws, h, h2 => by simp only [Reps] at h; subst h; exact h2
  | x :: xs, ys, vs, ws, h, h2 => by
    simp only [Reps] at h
    obtain ⟨v, r, rfl, h0, h1⟩ := h
    simp only [List.cons_append, Reps]
    exact ⟨v, r ++ ws, rfl, h0, Reps.append h1 h2⟩
theorem Reps.one {T : Tb} {μ H} {x : D} {v : V} (h : Rep T μ H x v) : Reps T μ H [x] [v] := by
  simp only [Reps]; exact ⟨v, [], rfl, h, rfl⟩
theorem Reps.nil {T : Tb} {μ H} : Reps T μ H [] [] := by simp only [Reps]
theorem Reps.cons {T : Tb} {μ H} {x : D} {v : V} {xs : List D} {vs : List V} (h : Rep T μ H x v) (h2 : Reps T μ H xs vs) : Reps T μ H (x :: xs) (v :: vs) := by
  simp only [Reps]; exact ⟨v, vs, rfl, h, h2⟩
theorem Reps.set {T : Tb} {μ H} {x : D} {v : V} (r : Rep T μ H x v) : ∀ {xs : List D} {vs : List V} (i : Nat), Reps T μ H xs vs → Reps T μ H (xs.set i x) (vs.set i v)
  | [], vs, i, h => by simp only [Reps] at h; subst h; simp [Reps]
  | y :: xs, vs, 0, h => by
    simp only [Reps] at h
    obtain ⟨w, rr, rfl, h0, h1⟩ := h
    exact .cons r h1
  | y :: xs, vs, i + 1, h => by
    simp only [Reps] at h
    obtain ⟨w, rr, rfl, h0, h1⟩ := h
    exact .cons h0 (Reps.set r i h1)
theorem Reps.take {T : Tb} {μ H} : ∀ {xs : List D} {vs : List V} (n : Nat), Reps T μ H xs vs → Reps T μ H (xs.take n) (vs.take n)
  | _, _, 0, _ => by simp [Reps]
  | [], vs, n + 1, h => by simp only [Reps] at h; subst h; simp [Reps]
  | y :: xs, vs, n + 1, h => by
    simp only [Reps] at h
    obtain ⟨w, rr, rfl, h0, h1⟩ := h
    exact .cons h0 (Reps.take n h1)
theorem Reps.drop {T : Tb} {μ H} : ∀ {xs : List D} {vs : List V} (n : Nat), Reps T μ H xs vs → Reps T μ H (xs.drop n) (vs.drop n)
  | _, _, 0, h => h
  | [], vs, n + 1, h => by simp only [Reps] at h; subst h; simp [Reps]
  | y :: xs, vs, n + 1, h => by
    simp only [Reps] at h
    obtain ⟨w, rr, rfl, h0, h1⟩ := h
    exact Reps.drop n h1
theorem Reps.ints {T : Tb} {μ H} : ∀ (ns : List Int), Reps T μ H (ns.map .int) (ns.map V.int)
  | [] => .nil
  | n :: ns => .cons (by simp only [Rep]) (Reps.ints ns)
theorem Reps.intsOf {T : Tb} {μ H} : ∀ {ns : List Int} {vs : List V}, Reps T μ H (ns.map .int) vs → vs = ns.map V.int
  | [], vs, h => by simpa [Reps] using h
  | n :: ns, vs, h => by
    simp only [List.map_cons, Reps, Rep] at h
    obtain ⟨w, rr, rfl, rfl, h1⟩ := h
    rw [Reps.intsOf h1]; rfl
theorem Reps.bls {T : Tb} {μ H} : ∀ {ns : List Bool} {vs : List V}, Reps T μ H (ns.map .bl) vs → vs = ns.map V.bl
  | [], vs, h => by simpa [Reps] using h
  | n :: ns, vs, h => by
    simp only [List.map_cons, Reps, Rep] at h
    obtain ⟨w, rr, rfl, rfl, h1⟩ := h
    rw [Reps.bls h1]; rfl
theorem RepE.set {T : Tb} {μ H} {ρ : Ev} {σ : Sg} {i : Nat} {d : D} {v : V} (h : RepE T μ H ρ σ) (r : Rep T μ H d v) : RepE T μ H (ρ.set i (some d)) (σ.set i (some v)) := by
  refine ⟨by simp [h.1], fun j e q => ?_⟩
  by_cases hj : i = j
  · subst hj
    have hl : i < ρ.length := by
      have := (List.getElem?_eq_some_iff.mp q).1
      simpa using this
    rw [List.getElem?_set_self hl] at q
    cases q
    exact ⟨v, List.getElem?_set_self (by rw [← h.1]; exact hl), r⟩
  · rw [List.getElem?_set_ne hj] at q ⊢
    exact h.2 j e q
end
end VI
end
section
namespace VI
open PySem PySem.Spec PyProof.Rows L2
def ToP (H : Hp) (xs : List V) (Q : VK) : Prop := ∀ p o, o.cls = .type "tuple" ∧ o.dict = none → H p = none → Q (.ref p) (upd H p (.frz o (.tup xs)))
section
variable {X : Cx} {es : List Expr} {t : TA} {pos : Pos}
theorem laidP {pins : List (Addr × Obj)} {σ : List (Option V)} {H : Hp} {s : Shared} {xs : List V} {us : List Value} {Q : VK} (I : Inv X pins σ H s) (hz : xs.length ≤ sizeLine) (r : Vals xs us) (q : ToP H xs Q) :
    EP X pins σ Q (.ref s.heap.objs.size) { s with heap := s.heap.push { cls := .type "tuple", data := .seq us.toArray } } := by
  refine ⟨.ref s.heap.objs.size, upd H s.heap.objs.size (.frz { cls := .type "tuple", data := .seq us.toArray } (.tup xs)), ?_, rfl, q _ _ ⟨rfl, rfl⟩ (I.hok.fresh (Nat.le_refl _))⟩
  refine I.laid (t' := s.toks) (fun _ _ z => Heap.get?_push_of_some _ z) (Nat.le_refl _) ?_
  exact ⟨Heap.get?_push_size _ rfl, hz, us, r, IsTup.new _ _⟩
def rCatP (K : PySem.W.Frag) : R2 := fun x y H Q => ∃ a b xs ys, x = .ref a ∧ y = .ref b ∧ SqT K H a xs ∧ SqT K H b ys ∧ xs.length + ys.length ≤ sizeLine ∧
  (xs = [] → Q (.ref b) H) ∧ (xs ≠ [] → ys = [] → Q (.ref a) H) ∧ (xs ≠ [] → ys ≠ [] → ToP H (xs ++ ys) Q)
theorem op_catP : OpR X (binaryOp .Add) (rCatP X.K) := by
  intro pins s σ H x y v u Q I rx ry ⟨a, b, xs, ys, ex, ey, ha, hb, hz, q0, q1, q2⟩
  by_cases hx : xs = []
  · exact op_catA pins s σ H x y v u Q I rx ry ⟨a, b, xs, ys, ex, ey, ha, hb, hz, q0, q1, fun z => absurd hx z⟩
  · subst ex ey
    cases rx
    cases ry
    obtain ⟨us, r1, p1, _⟩ := I.tuple ha
    obtain ⟨ws, r2, p2, _⟩ := I.tuple hb
    refine HT.cat_tup p1 p2 (fun z => hx (r1.nil_iff.mp z)) (fun z => ⟨.ref a, H, I, rfl, q1 hx (r2.nil_iff.mp z)⟩) (fun z => ?_) (by rw [← r1.length, ← r2.length]; exact hz)
    exact laidP I (by rw [List.length_append]; exact hz) (r1.append r2) (q2 hx fun w => z (r2.nil_iff.mpr w))
def rSlP (K : PySem.W.Frag) : V → Option Int → Option Int → Hp → VK → Prop := fun x lo hi H Q => ∃ a xs, x = .ref a ∧ SqT K H a xs ∧
  (HT.sIx xs.length 0 lo = 0 ∧ HT.sIx xs.length xs.length hi = xs.length → Q (.ref a) H) ∧ (¬ (HT.sIx xs.length 0 lo = 0 ∧ HT.sIx xs.length xs.length hi = xs.length) → ToP H (cutV xs lo hi) Q)
theorem sl_tupP : SlR X (rSlP X.K) := by
  intro pins s σ H x v vl vu lo hi sl Q I rx hs pl pu ⟨a, xs, ex, hx, q1, q2⟩
  by_cases hw : HT.sIx xs.length 0 lo = 0 ∧ HT.sIx xs.length xs.length hi = xs.length
  · exact sl_tupA pins s σ H x v vl vu lo hi sl Q I rx hs pl pu ⟨a, xs, ex, hx, q1, fun z => absurd hw z⟩
  · subst ex
    cases rx
    obtain ⟨us, r, ht, hz⟩ := I.tuple hx
    have hn : us.toArray.size = xs.length := by rw [List.size_toArray]; exact r.length.symm
    refine ⟨"tuple", _, PyProof.Rows.slot_tuple_getitem.lookup, ht.typeIs, HT.getItem_tuple_cut ht hs pl pu (by rw [hn]; exact hw) ?_ (by rw [hn]; exact hz)⟩
    rw [hn]
    exact laidP I (Nat.le_trans (cutV_length xs lo hi) hz) ((r.drop (HT.sIx xs.length 0 lo)).take (HT.sIx xs.length xs.length hi - HT.sIx xs.length 0 lo)) (q2 hw)
def rRepP (K : PySem.W.Frag) : R2 := fun x y H Q => ∃ l k xs, x = .ref l ∧ y = .int k ∧ SqT K H l xs ∧ xs ≠ [] ∧ 2 ≤ k ∧ k ≤ 1000 ∧ xs.length ≤ 1000 ∧ ToP H (List.replicate k.toNat xs).flatten Q
theorem op_repP : OpR X (binaryOp .Mult) (rRepP X.K) := by
  intro pins s σ H x y v u Q I rx ry ⟨l, k, xs, ex, ey, hT, hne, h1, h2, hz, q⟩
  subst ex ey
  cases rx
  obtain ⟨t, rfl⟩ := ry
  obtain ⟨us, r, ⟨⟨cls, dd, data, sl⟩, ho, hc, n, hd⟩, hs⟩ := I.tuple hT
  simp only at hc hd
  subst hc hd
  have hle : us.length = xs.length := r.length.symm
  have hi : us.toArray.isEmpty = false := by
    cases us with
    | nil => exact absurd (List.eq_nil_of_length_eq_zero hle.symm) hne
    | cons _ _ => rfl
  have hsz : us.toArray.size = xs.length := by rw [List.size_toArray, hle]
  have a2 : k.toNat * xs.length ≤ 1000 * 1000 := Nat.mul_le_mul (by omega) hz
  have a1 : ((xs.length : Nat) : Int) * k ≤ 1000 * k := Int.mul_le_mul_of_nonneg_right (by omega) (by omega)
  have hm : ((us.toArray.size : Nat) : Int) * k ≤ 1000000 := by rw [hsz]; omega
  have fl : (List.replicate k.toNat us).flatten.length ≤ sizeLine := by rw [PyProof.Rows.lm_len_rep_flat, hle, sizeLine_eq]; omega
  have d0 : (decide (k < -(2 ^ 63)) || decide (k ≥ 2 ^ 63)) = false := by
    rw [decide_eq_false (show ¬ k < -(2 ^ 63) by omega), decide_eq_false (show ¬ k ≥ 2 ^ 63 by omega)] <;> rfl
  have d1 : (us.toArray.isEmpty || k == 1) = false := by rw [hi, Bool.false_or]; exact beq_eq_false_iff_ne.mpr (by omega)
  have d2 : (decide (k ≤ 0) || us.toArray.isEmpty) = false := by rw [hi, Bool.or_false]; exact decide_eq_false (by omega)
  have d4 : Builtin.Tuple.tupleTooMany (((us.toArray.size : Nat) : Int) * k) = false := by
    unfold Builtin.Tuple.tupleTooMany; rw [sizeLine_eq]; exact decide_eq_false (by omega)
  have M := tuple_mulW l us.toArray n dd sl k t d0 d1 d2 (by omega) d4 (by rw [size_rep, List.size_toArray]; exact fl)
  refine wpAny_binaryOp_repeat_ref (T := "tuple") (U := "int") (by decide) ⟨_, ho, rfl⟩ (fun z => typeIs_int z k t) noFill_tuple_mul F.fills_int_mul F.slot_int_rmul repeat_tuple F.slot_int_index.lookup
    (call_meets F.slot_int_rmul (typeIs_int s k t) F.entry_int_rmul (F.args_int_rmul_2 _ _) (int_rmul_tuple k t l us.toArray n dd sl) ⟨ho, rfl, ⟨_, ho, rfl⟩, call_meets F.slot_tuple_mul ⟨_, ho, rfl⟩ F.entry_tuple_mul (F.args_tuple_mul_2 _ _) M ⟨ho, ?_⟩⟩)
  rw [size_rep]
  exact laidP I (by rw [PyProof.Rows.lm_len_rep_flat, sizeLine_eq]; omega) (r.rep k.toNat) q
end
end VI
end
section
namespace VI
open PySem PySem.Spec PyProof.Rows L2
structure Ex where
  c : Nat
  fs : List Nat
  vs : List D
inductive R (α : Type) where
  | ok (a : α) (h : Bs) | ex (x : Ex) (h : Bs) | no
def R.bind {α β : Type} (r : R α) (f : α → Bs → R β) : R β := match r with
  | .ok a h => f a h
  | .ex x h => .ex x h
  | .no => .no
inductive F where
  | nx (ρ : Ev) (h : Bs) | rt (d : D) (h : Bs) | bk (ρ : Ev) (h : Bs) | ct (ρ : Ev) (h : Bs) | ex (x : Ex) (ρ : Ev) (h : Bs) | no
def RepX (T : Tb) (μ : Mu) (H : Hp) (x : Ex) (cls : Value) (d : Option Addr) : Prop :=
  ∃ C, T.cls x.c = some C ∧ cls = .ref C ∧ ((x.fs = [] ∧ x.vs = [] ∧ d = none) ∨ ∃ dx vs, d = some dx ∧ H dx = some (.xd ((x.fs.map T.att).zip vs)) ∧ μ.no dx ∧ x.fs.length = vs.length ∧ Reps T μ H x.vs vs)
abbrev SV := Ev → Bs → R D
abbrev SA := Ev → Bs → R (List D)
abbrev SS := Ev → Bs → F
abbrev noW : WX := fun _ _ _ _ => False
def OutV (T : Tb) (W : WX) (σ : Sg) (μ : Mu) (H : Hp) (Q : VK) : R D → Prop
  | .ok d h' => ∀ μ' H' v, Stp μ H μ' H' → Rel T μ' h' H' → Rep T μ' H' d v → Q v H'
  | .ex x h' => ∀ μ' H' cls d, Stp μ H μ' H' → Rel T μ' h' H' → RepX T μ' H' x cls d → W cls d σ H'
  | .no => False
def OutB (T : Tb) (W : WX) (σ : Sg) (μ : Mu) (H : Hp) (Q : Bool → Hp → Prop) : R Bool → Prop
  | .ok d h' => ∀ μ' H', Stp μ H μ' H' → Rel T μ' h' H' → Q d H'
  | .ex x h' => ∀ μ' H' cls d, Stp μ H μ' H' → Rel T μ' h' H' → RepX T μ' H' x cls d → W cls d σ H'
  | .no => False
def OutA (T : Tb) (W : WX) (σ : Sg) (μ : Mu) (H : Hp) (Q : List V → Hp → Prop) : R (List D) → Prop
  | .ok d h' => ∀ μ' H' v, Stp μ H μ' H' → Rel T μ' h' H' → Reps T μ' H' d v → Q v H'
  | .ex x h' => ∀ μ' H' cls d, Stp μ H μ' H' → Rel T μ' h' H' → RepX T μ' H' x cls d → W cls d σ H'
  | .no => False
def OutS (T : Tb) (W : WX) (μ : Mu) (H : Hp) (D : Ends) : F → Prop
  | .nx ρ h' => ∀ μ' H' σ', Stp μ H μ' H' → Rel T μ' h' H' → RepE T μ' H' ρ σ' → D.nx σ' H'
  | .bk ρ h' => ∀ μ' H' σ', Stp μ H μ' H' → Rel T μ' h' H' → RepE T μ' H' ρ σ' → D.bk σ' H'
  | .ct ρ h' => ∀ μ' H' σ', Stp μ H μ' H' → Rel T μ' h' H' → RepE T μ' H' ρ σ' → D.ct σ' H'
  | .rt d h' => ∀ μ' H' v, Stp μ H μ' H' → Rel T μ' h' H' → Rep T μ' H' d v → D.rt v H'
  | .ex x ρ h' => ∀ μ' H' σ' cls d, Stp μ H μ' H' → Rel T μ' h' H' → RepE T μ' H' ρ σ' → RepX T μ' H' x cls d → W cls d σ' H'
  | .no => False
def tV (T : Tb) (W : WX) (s : SV) : TE := fun σ H Q => ∃ μ ρ h, Rel T μ h H ∧ RepE T μ H ρ σ ∧ OutV T W σ μ H Q (s ρ h)
def tB' (T : Tb) (W : WX) (s : Ev → Bs → R Bool) : TT := fun σ H Q => ∃ μ ρ h, Rel T μ h H ∧ RepE T μ H ρ σ ∧ OutB T W σ μ H Q (s ρ h)
def tA' (T : Tb) (W : WX) (s : SA) : TA := fun σ H Q => ∃ μ ρ h, Rel T μ h H ∧ RepE T μ H ρ σ ∧ OutA T W σ μ H Q (s ρ h)
def tS' (T : Tb) (W : WX) (s : SS) : TS := fun D σ H => ∃ μ ρ h, Rel T μ h H ∧ RepE T μ H ρ σ ∧ OutS T W μ H D (s ρ h)
theorem OutV.step {T : Tb} {W : WX} {σ : Sg} {μ μ' : Mu} {H H' : Hp} {Q : VK} {r : R D} (o : OutV T W σ μ H Q r) (s : Stp μ H μ' H') : OutV T W σ μ' H' Q r := by
  cases r with
  | ok d h => exact fun μ2 H2 v s2 => o μ2 H2 v (s.trans s2)
  | ex x h => exact fun μ2 H2 c d s2 => o μ2 H2 c d (s.trans s2)
  | no => exact o
theorem OutB.step {T : Tb} {W : WX} {σ : Sg} {μ μ' : Mu} {H H' : Hp} {Q : Bool → Hp → Prop} {r : R Bool} (o : OutB T W σ μ H Q r) (s : Stp μ H μ' H') : OutB T W σ μ' H' Q r := by
  cases r with
  | ok d h => exact fun μ2 H2 s2 => o μ2 H2 (s.trans s2)
  | ex x h => exact fun μ2 H2 c d s2 => o μ2 H2 c d (s.trans s2)
  | no => exact o
theorem OutA.step {T : Tb} {W : WX} {σ : Sg} {μ μ' : Mu} {H H' : Hp} {Q : List V → Hp → Prop} {r : R (List D)} (o : OutA T W σ μ H Q r) (s : Stp μ H μ' H') : OutA T W σ μ' H' Q r := by
  cases r with
  | ok d h => exact fun μ2 H2 v s2 => o μ2 H2 v (s.trans s2)
  | ex x h => exact fun μ2 H2 c d s2 => o μ2 H2 c d (s.trans s2)
  | no => exact o
theorem OutS.step {T : Tb} {W : WX} {μ μ' : Mu} {H H' : Hp} {D : Ends} {r : F} (o : OutS T W μ H D r) (s : Stp μ H μ' H') : OutS T W μ' H' D r := by
  cases r with
  | nx d h => exact fun μ2 H2 v s2 => o μ2 H2 v (s.trans s2)
  | bk d h => exact fun μ2 H2 v s2 => o μ2 H2 v (s.trans s2)
  | ct d h => exact fun μ2 H2 v s2 => o μ2 H2 v (s.trans s2)
  | rt d h => exact fun μ2 H2 v s2 => o μ2 H2 v (s.trans s2)
  | ex x ρ h => exact fun μ2 H2 v c d s2 => o μ2 H2 v c d (s.trans s2)
  | no => exact o
theorem OutV.bind {T : Tb} {W : WX} {σ : Sg} {μ : Mu} {H : Hp} {Q : VK} {r : R D} {f : D → Bs → R D} (o : OutV T W σ μ H Q (r.bind f)) :
    OutV T W σ μ H (fun v H1 => ∃ μ1 d h1, Stp μ H μ1 H1 ∧ Rel T μ1 h1 H1 ∧ Rep T μ1 H1 d v ∧ OutV T W σ μ1 H1 Q (f d h1)) r := by
  cases r with
  | ok d h => exact fun μ1 H1 v s r1 rv => ⟨μ1, d, h, s, r1, rv, OutV.step o s⟩
  | ex x h => exact o
  | no => exact o
theorem OutV.mono {T : Tb} {W : WX} {σ : Sg} {μ : Mu} {H : Hp} {Q Q' : VK} {r : R D} (o : OutV T W σ μ H Q r) (h : ∀ v H, Q v H → Q' v H) : OutV T W σ μ H Q' r := by
  cases r with
  | ok d h' => exact fun μ1 H1 v s r1 rv => h _ _ (o μ1 H1 v s r1 rv)
  | ex x h => exact o
  | no => exact o
section
variable {X : Cx} {T : Tb} {W : WX} {a b c : Expr} {sa sb sc : SV} {pos : Pos}
theorem PE.imp {t t' : TE} (h : PE X a t) (i : ∀ σ H Q, t' σ H Q → t σ H Q) : PE X a t' := ⟨fun pins s σ H Q I w => h.run pins s σ H Q I (i σ H Q w)⟩
theorem PT.imp {t t' : TT} (h : PT X a t) (i : ∀ σ H Q, t' σ H Q → t σ H Q) : PT X a t' := ⟨fun pins s σ H Q I w => h.run pins s σ H Q I (i σ H Q w)⟩
theorem PA.imp {es : List Expr} {t t' : TA} (h : PA X es t) (i : ∀ σ H Q, t' σ H Q → t σ H Q) : PA X es t' := ⟨fun p pins s σ H Q I w => h.run p pins s σ H Q I (i σ H Q w)⟩
theorem PS.imp {st : Stmt} {t t' : TS} (h : PS X st t) (i : ∀ D σ H, t' D σ H → t D σ H) : PS X st t' := ⟨fun pins s σ H D I w => h.run pins s σ H D I (i D σ H w)⟩
theorem PSs.imp {st : List Stmt} {t t' : TS} (h : PSs X st t) (i : ∀ D σ H, t' D σ H → t D σ H) : PSs X st t' := ⟨fun pins s σ H D I w => h.run pins s σ H D I (i D σ H w)⟩
def sK (d : D) : SV := fun _ h => .ok d h
def sVar (i : Nat) : SV := fun ρ h => match ρ[i]? with
  | some (some d) => .ok d h
  | _ => .no
theorem pv_var {i : Nat} {x : Str} (hN : X.N[i]? = some x) (hv : Vis X.env.scope x) (hd : (x == ("__debug__" : Str)) = false) (hcd : (x == ("__classdict__" : Str)) = false) : PE X (.Name x pos) (tV T W (sVar i)) :=
  PE.imp (pe_var hN hv hd hcd) fun σ H Q ⟨μ, ρ, h, r, e, o⟩ => by
    unfold sVar at o
    cases q : ρ[i]? with
    | none => rw [q] at o; exact o.elim
    | some z =>
      rw [q] at o
      cases z with
      | none => exact o.elim
      | some d =>
        obtain ⟨v, e1, rv⟩ := e.2 i d q
        exact ⟨v, e1, o μ H v Stp.refl r rv⟩
theorem tC_imp {d : D} {v : V} (hv : ∀ μ H, Rep T μ H d v) : ∀ σ H Q, tV T W (sK d) σ H Q → tC v σ H Q := fun σ H Q ⟨μ, ρ, h, r, e, o⟩ => o μ H v Stp.refl r (hv μ H)
theorem pv_int {i j} : PE X (.Constant (.int i) j pos) (tV T W (sK (.int i))) := PE.imp pe_int (tC_imp fun _ _ => by simp only [Rep])
theorem pv_bl {i j} : PE X (.Constant (.bool i) j pos) (tV T W (sK (.bl i))) := PE.imp pe_bl (tC_imp fun _ _ => by simp only [Rep])
theorem pv_glob {x : Str} {i : Int} {t : Tok} (hg : Gl X x) (hm : X.mg x = some (.int i t)) (hd : (x == ("__debug__" : Str)) = false) : PE X (.Name x pos) (tV T W (sK (.int i))) :=
  PE.imp (pe_glob (v := .int i) hg hm ⟨t, rfl⟩ hd) (tC_imp fun _ _ => by simp only [Rep])
theorem pvs_never {st : Stmt} : PS X st (tS' T W fun _ _ => .no) := ⟨fun _ _ _ _ _ _ ⟨_, _, _, _, _, o⟩ => o.elim⟩
def rD2 (T : Tb) (f : D → D → Bs → R D) : R2 := fun x y H Q => ∃ μ h d e, Rel T μ h H ∧ Rep T μ H d x ∧ Rep T μ H e y ∧ OutV T noW [] μ H Q (f d e h)
def sOp (f : D → D → Bs → R D) (sa sb : SV) : SV := fun ρ h => (sa ρ h).bind fun x h1 => (sb ρ h1).bind fun y h2 => f x y h2
def Calm (r : R D) : Prop := ∀ x h, r ≠ .ex x h
theorem OutV.calm {σ σ' : Sg} {μ : Mu} {H : Hp} {Q : VK} {r : R D} (o : OutV T W σ μ H Q r) (c : Calm r) : OutV T noW σ' μ H Q r := by
  cases r with
  | ok d h => exact o
  | ex x h => exact absurd rfl (c x h)
  | no => exact o
theorem op2_imp {f : D → D → Bs → R D} (cf : ∀ d e h, Calm (f d e h)) : ∀ σ H Q, tV T W (sOp f sa sb) σ H Q → tOp (rD2 T f) (tV T W sa) (tV T W sb) σ H Q := fun σ H Q ⟨μ, ρ, h, r, e, o⟩ => by
  refine ⟨μ, ρ, h, r, e, OutV.mono (OutV.bind o) ?_⟩
  rintro v H1 ⟨μ1, d, h1, s1, r1, rv, o1⟩
  refine ⟨μ1, ρ, h1, r1, e.step s1, OutV.mono (OutV.bind o1) ?_⟩
  rintro u H2 ⟨μ2, d2, h2, s2, r2, ru, o2⟩
  exact ⟨μ2, h2, d, d2, r2, Rep.step s2 _ _ rv, ru, o2.calm (cf _ _ _)⟩
theorem pv_op {op : Operator} {f : D → D → Bs → R D} (cf : ∀ d e h, Calm (f d e h)) (ho : OpR X (binaryOp op) (rD2 T f)) (ha : PE X a (tV T W sa)) (hb : PE X b (tV T W sb)) : PE X (.BinOp a op b pos) (tV T W (sOp f sa sb)) :=
  PE.imp (pe_op ho ha hb) (op2_imp cf)
theorem OpR.imp {f : Value → Value → Sem Value} {r r' : R2} (h : OpR X f r) (i : ∀ x y H Q, r' x y H Q → r x y H Q) : OpR X f r' := fun pins s σ H x y v u Q I rx ry w => h pins s σ H x y v u Q I rx ry (i x y H Q w)
end
end VI
end
section
namespace VI
open PySem PySem.Spec PyProof.Rows L2
section
variable {X : Cx} {T : Tb} {W : WX} {μ μ' : Mu} {H H' : Hp} {h : Bs}
theorem kvO_tup {ks : Ks} {vs : List V} (xs : List V) : kvO ks vs ≠ .tup xs := by cases ks <;> exact fun z => by cases z
theorem RepB.at {b : Bx} {a : Addr} (r : RepB T μ H b a) : ∃ o, H a = some o ∧ ∀ xs, o ≠ .tup xs := by
  cases b with
  | lst lk xs => obtain ⟨vs, e, _⟩ := r; exact ⟨_, e, fun _ z => by cases z⟩
  | dct lk ks xs =>
    obtain ⟨vs, e, _⟩ := r
    cases lk with
    | false => exact ⟨_, by simpa using e, kvO_tup⟩
    | true =>
      obtain ⟨o, e⟩ : ∃ o, H a = some (.frz o (kvO ks vs)) := by simpa using e
      exact ⟨_, e, fun _ z => by cases z⟩
  | dfz ks xs => obtain ⟨o, vs, e, _⟩ := r; exact ⟨_, e, fun _ z => by cases z⟩
  | obj c fs xs => obtain ⟨C, dx, vs, _, e, _⟩ := r; exact ⟨_, e, fun _ z => by cases z⟩
  | tbl t => obtain ⟨_, ps, e, _⟩ := r; exact ⟨_, e, fun _ z => by cases z⟩
theorem RepB.step (s : Stp μ H μ' H') {b : Bx} {a : Addr} (r : RepB T μ H b a) (e : H' a = H a) : RepB T μ' H' b a := by
  cases b with
  | lst lk xs => obtain ⟨vs, e1, r1⟩ := r; exact ⟨vs, e.trans e1, Reps.step s _ _ r1⟩
  | dct lk ks xs =>
    obtain ⟨vs, e1, l1, r1⟩ := r
    refine ⟨vs, ?_, l1, Reps.step s _ _ r1⟩
    cases lk with
    | false => simpa [e] using e1
    | true => simpa [e] using e1
  | dfz ks xs => obtain ⟨o, vs, e1, l1, r1⟩ := r; exact ⟨o, vs, e.trans e1, l1, Reps.step s _ _ r1⟩
  | obj c fs xs => obtain ⟨C, dx, vs, c1, e1, l1, r1⟩ := r; exact ⟨C, dx, vs, c1, e.trans e1, l1, Reps.step s _ _ r1⟩
  | tbl t => obtain ⟨a1, ps, e1, e2, e3⟩ := r; exact ⟨a1, ps, e.trans e1, e2, fun pos cv q => by obtain ⟨c, f1, f2, f3⟩ := e3 pos cv q; exact ⟨c, f1, s.keep c _ f2 f3.1, s.not f2 f3⟩⟩
theorem Rel.of (r : Rel T μ h H) {a : Addr} (m : a ∈ μ.ad) : ∃ (i : Nat) (b : Bx), h.bs[i]? = some b ∧ μ.ad[i]? = some a ∧ RepB T μ H b a := by
  obtain ⟨i, hi⟩ := List.getElem?_of_mem m
  have hl : i < h.bs.length := by rw [← r.len]; exact (List.getElem?_eq_some_iff.mp hi).1
  exact ⟨i, h.bs[i], List.getElem?_eq_getElem hl, hi, r.at_ i _ a (List.getElem?_eq_getElem hl) hi⟩
theorem Rel.not' (r : Rel T μ h H) {p : Addr} (hp : H p = none) : p ∉ μ.ad := fun m => by
  obtain ⟨i, b, _, _, rb⟩ := r.of m
  obtain ⟨o, e, _⟩ := rb.at
  rw [hp] at e; cases e
theorem Rel.not (r : Rel T μ h H) {p : Addr} (hp : H p = none) : μ.no p := ⟨r.not' hp, fun z => by
  obtain ⟨⟨xs, e, _⟩, _⟩ := r.prh p z
  rw [hp] at e; cases e⟩
theorem Rel.laid (r : Rel T μ h H) {p : Addr} {o : HO} (hp : H p = none) : Rel T μ h (upd H p o) :=
  ⟨r.fb, fun a ha => by
    obtain ⟨⟨xs, e, nt⟩, n⟩ := r.prh a ha
    exact ⟨⟨xs, by rw [upd_ne (ne_of_none e hp)]; exact e, nt⟩, n⟩, r.lks, r.lkf, r.len, r.nd, fun i b a e1 e2 => (r.at_ i b a e1 e2).step (Stp.laid hp) (upd_ne fun z => by
    subst z; exact r.not' hp (List.mem_of_getElem? e2)), r.lo, r.ord, r.wf⟩
theorem Rel.bels' {xs : List D} {vs : List V} (q : Reps T μ H xs vs) : bels μ.ad.length xs := by
  have key : ∀ (n : Nat) (d : D) (v : V), sizeOf d ≤ n → Rep T μ H d v → bel μ.ad.length d := by
    intro n
    induction n with
    | zero => intro d v hs; cases d <;> simp at hs
    | succ n ih =>
      have ihs : ∀ (xs : List D) (vs : List V), sizeOf xs ≤ n + 1 → Reps T μ H xs vs → bels μ.ad.length xs := by
        intro xs
        induction xs with
        | nil => intro _ _ _; simp [bels]
        | cons x xs ih2 =>
          intro vs hs q
          simp only [Reps] at q
          obtain ⟨v, r, _, q1, q2⟩ := q
          simp at hs
          simp only [bels]
          exact ⟨ih x v (by omega) q1, ih2 r (by omega) q2⟩
      intro d v hs q
      cases d with
      | tup xs => simp only [Rep] at q; obtain ⟨_, vs, _, _, _, q⟩ := q; simp only [bel]; exact ihs xs vs (by simp at hs; omega) q
      | tpl xs => simp only [Rep] at q; obtain ⟨_, _, vs, _, _, _, _, q⟩ := q; simp only [bel]; exact ihs xs vs (by simp at hs; omega) q
      | lst xs => simp only [Rep] at q; obtain ⟨_, vs, _, _, _, q⟩ := q; simp only [bel]; exact ihs xs vs (by simp at hs; omega) q
      | dct ks xs => simp only [Rep] at q; obtain ⟨_, _, vs, _, _, _, _, q⟩ := q; simp only [bel]; exact ihs xs vs (by simp at hs; omega) q
      | obj c fs xs => simp only [Rep] at q; obtain ⟨_, _, _, vs, _, _, _, _, _, q⟩ := q; simp only [bel]; exact ihs xs vs (by simp at hs; omega) q
      | exo c fs xs => simp only [Rep] at q; obtain ⟨_, _, _, _, vs, _, _, _, _, _, _, _, q⟩ := q; simp only [bel]; exact ihs xs vs (by simp at hs; omega) q
      | ref b => simp only [Rep] at q; obtain ⟨a, e, _⟩ := q; simp only [bel]; exact (List.getElem?_eq_some_iff.mp e).1
      | non => simp [bel]
      | bl b => simp [bel]
      | int i => simp [bel]
      | str x => simp [bel]
      | scr x => simp [bel]
  revert vs
  induction xs with
  | nil => intro _ _; simp [bels]
  | cons x xs ih2 =>
    intro vs q
    simp only [Reps] at q
    obtain ⟨v, r, _, q1, q2⟩ := q
    simp only [bels]
    exact ⟨key _ x v (Nat.le_refl _) q1, ih2 q2⟩
theorem Rel.box (r : Rel T μ h H) {p : Addr} {o : HO} {b : Bx} (hp : H p = none) (nlk : lkd b = false) (new : RepB T (μ.push p) (upd H p o) b p) : Rel T (μ.push p) { h with bs := h.bs ++ [b] } (upd H p o) := by
  refine ⟨r.fb, fun a ha => ?_, fun a ha => ?_, fun b0 xs a e1 e1l e2' => ?_, by simp [Mu.push, r.len], ?_, fun i b' a e1 e2' => ?_, fun k hk' => by simpa using Nat.le_succ_of_le (r.lo k hk'), r.ord, fun k hk' i b' hi e => ?_⟩
  · obtain ⟨⟨xs, e, nt⟩, n⟩ := r.prh a ha
    refine ⟨⟨xs, by rw [upd_ne (ne_of_none e hp)]; exact e, nt⟩, fun z => ?_⟩
    rcases List.mem_append.mp (show a ∈ μ.ad ++ [p] from z) with z | z
    · exact n z
    · have : a = p := by simpa using z
      subst this
      rw [hp] at e; cases e
  · obtain ⟨b0, xs, e1, e2, e3⟩ := r.lks a ha
    refine ⟨b0, xs, (Stp.box (μ := μ) (o := o) hp).pre _ _ e1, ?_, e3⟩
    show (h.bs ++ [b])[b0]? = _
    rw [List.getElem?_append_left (List.getElem?_eq_some_iff.mp e2).1]
    exact e2
  · have e2 : (μ.ad ++ [p])[b0]? = some a := e2'
    have e1' : (h.bs ++ [b])[b0]? = some xs := e1
    by_cases hi : b0 < μ.ad.length
    · rw [List.getElem?_append_left hi] at e2
      rw [List.getElem?_append_left (by rw [← r.len]; exact hi)] at e1'
      exact r.lkf b0 xs a e1' e1l e2
    · rw [List.getElem?_append_right (by rw [← r.len]; omega)] at e1'
      have h0 : b0 - h.bs.length = 0 := by
        have := (List.getElem?_eq_some_iff.mp e1').1
        simp at this; omega
      rw [h0] at e1'
      simp at e1'
      rw [← e1', nlk] at e1l
      cases e1l
  · show (μ.ad ++ [p]).Nodup
    rw [List.nodup_append]
    refine ⟨r.nd, by simp, fun x hx y hy => ?_⟩
    have : y = p := by simpa using hy
    subst this
    intro z; subst z
    exact r.not' hp hx
  · have e2 : (μ.ad ++ [p])[i]? = some a := e2'
    by_cases hi : i < μ.ad.length
    · rw [List.getElem?_append_left hi] at e2
      rw [List.getElem?_append_left (by rw [← r.len]; exact hi)] at e1
      exact (r.at_ i b' a e1 e2).step (Stp.box hp) (upd_ne fun z => by subst z; exact r.not' hp (List.mem_of_getElem? e2))
    · rw [List.getElem?_append_right (by omega)] at e2
      rw [List.getElem?_append_right (by rw [← r.len]; omega), ← r.len] at e1
      have h0 : i - μ.ad.length = 0 := by
        have := (List.getElem?_eq_some_iff.mp e2).1
        simp at this; omega
      rw [h0] at e1 e2
      simp at e1 e2
      subst e1; subst e2
      exact new
  · have hl : i < h.bs.length := Nat.lt_of_lt_of_le hi (r.lo k hk')
    have e' : (h.bs ++ [b])[i]? = some b' := e
    rw [List.getElem?_append_left hl] at e'
    exact r.wf k hk' i b' hi e'
theorem Rel.free (r : Rel T μ h H) {i : Nat} {a : Addr} (hi : μ.ad[i]? = some a) (hlk : ∀ x, h.bs[i]? = some x → lkd x = false) : a ∉ μ.lk := fun ha => by
  obtain ⟨b0, xs, e1, e2, e3⟩ := r.lks a ha
  have l1 := (List.getElem?_eq_some_iff.mp hi)
  have l2 := (List.getElem?_eq_some_iff.mp e1)
  obtain ⟨p1, q1⟩ := l1
  obtain ⟨p2, q2⟩ := l2
  have := (List.getElem_inj (h₀ := p1) (h₁ := p2) r.nd).mp (q1.trans q2.symm)
  subst this
  rw [hlk xs e2] at e3
  cases e3
theorem Rel.put (r : Rel T μ h H) {i : Nat} {a : Addr} {o : HO} {b : Bx} (hi : μ.ad[i]? = some a) (hlk : ∀ x, h.bs[i]? = some x → lkd x = false) (nlk : lkd b = false) (new : RepB T μ (upd H a o) b a) (hw : ∀ k ∈ h.fbs, i < k → belB k b) : Rel T μ { h with bs := h.bs.set i b } (upd H a o) := by
  have hl : i < h.bs.length := by rw [← r.len]; exact (List.getElem?_eq_some_iff.mp hi).1
  have hnl : a ∉ μ.lk := r.free hi hlk
  refine ⟨r.fb, fun a' ha' => ?_, fun a' ha' => ?_, fun b0 xs a' e1 e1l e2 => ?_, by simp [r.len], r.nd, fun j b' a' e1 e2 => ?_, fun k hk => by simpa using r.lo k hk, r.ord, fun k hk j b' hj e => ?_⟩
  · obtain ⟨⟨xs, e, nt⟩, n⟩ := r.prh a' ha'
    exact ⟨⟨xs, by rw [upd_ne (fun z => n (by rw [z]; exact List.mem_of_getElem? hi))]; exact e, nt⟩, n⟩
  · obtain ⟨b0, xs, e1, e2, e3⟩ := r.lks a' ha'
    refine ⟨b0, xs, e1, ?_, e3⟩
    show (h.bs.set i b)[b0]? = _
    rw [List.getElem?_set_ne (fun z => by subst z; rw [hlk xs e2] at e3; cases e3)]
    exact e2
  · have e1' : (h.bs.set i b)[b0]? = some xs := e1
    by_cases hj : i = b0
    · subst hj
      rw [List.getElem?_set_self hl] at e1'
      cases e1'
      rw [nlk] at e1l
      cases e1l
    · rw [List.getElem?_set_ne hj] at e1'
      exact r.lkf b0 xs a' e1' e1l e2
  · have e1 : (h.bs.set i b)[j]? = some b' := e1
    by_cases hj : i = j
    · subst hj
      rw [List.getElem?_set_self hl] at e1
      rw [hi] at e2
      cases e1; cases e2
      exact new
    · rw [List.getElem?_set_ne hj] at e1
      refine (r.at_ j b' a' e1 e2).step (Stp.put (List.mem_of_getElem? hi) hnl) (upd_ne fun z => hj ?_)
      subst z
      have l1 := (List.getElem?_eq_some_iff.mp hi)
      have l2 := (List.getElem?_eq_some_iff.mp e2)
      obtain ⟨p1, q1⟩ := l1
      obtain ⟨p2, q2⟩ := l2
      exact (List.getElem_inj (h₀ := p1) (h₁ := p2) r.nd).mp (q1.trans q2.symm)
  · have e : (h.bs.set i b)[j]? = some b' := e
    by_cases hj' : i = j
    · subst hj'
      rw [List.getElem?_set_self hl] at e
      cases e
      exact hw k hk hj
    · rw [List.getElem?_set_ne hj'] at e
      exact r.wf k hk j b' hj e
def newL (bx : Bool) (xs : List D) (h : Bs) : R D := if xs.length ≤ sizeLine then (if bx then .ok (.ref h.bs.length) { h with bs := h.bs ++ [.lst false xs] } else .ok (.lst xs) h) else .no
theorem newL_calm {bx : Bool} {xs : List D} : Calm (newL bx xs h) := by
  intro x h' e
  unfold newL at e
  split at e
  · split at e <;> cases e
  · cases e
theorem newL_ok {σ : Sg} {bx : Bool} {xs : List D} {vs : List V} {Q : VK} (r : Rel T μ h H) (q : Reps T μ H xs vs) (o : OutV T W σ μ H Q (newL bx xs h)) :
    vs.length ≤ sizeLine ∧ ∀ p, H p = none → Q (.ref p) (upd H p (.lst vs)) := by
  unfold newL at o
  split at o
  · rename_i hl
    refine ⟨by rw [← q.length]; exact hl, fun p hp => ?_⟩
    cases bx with
    | false => exact o μ _ _ (Stp.laid hp) (r.laid hp) (by simp only [Rep]; exact ⟨p, vs, rfl, upd_same, r.not hp, Reps.step (Stp.laid hp) _ _ q⟩)
    | true =>
      refine o (μ.push p) _ _ (Stp.box hp) (r.box hp rfl ⟨vs, upd_same, Reps.step (Stp.box hp) _ _ q⟩) ?_
      simp only [Rep]
      exact ⟨p, by rw [← r.len]; simp [Mu.push], rfl⟩
  · exact o.elim
def newT (xs : List D) (h : Bs) : R D := if xs.length ≤ sizeLine then .ok (.tup xs) h else .no
theorem newT_calm {xs : List D} : Calm (newT xs h) := by
  intro x h' e
  unfold newT at e
  split at e <;> cases e
theorem newT_ok {σ : Sg} {xs : List D} {vs : List V} {Q : VK} (r : Rel T μ h H) (q : Reps T μ H xs vs) (o : OutV T W σ μ H Q (newT xs h)) :
    vs.length ≤ sizeLine ∧ ∀ p, H p = none → Q (.ref p) (upd H p (.tup vs)) := by
  unfold newT at o
  split at o
  · rename_i hl
    exact ⟨by rw [← q.length]; exact hl, fun p hp => o μ _ _ (Stp.laid hp) (r.laid hp) (by simp only [Rep]; exact ⟨p, vs, rfl, upd_same, r.not hp, Reps.step (Stp.laid hp) _ _ q⟩)⟩
  · exact o.elim
def newP (xs : List D) (h : Bs) : R D := if xs.length ≤ sizeLine then .ok (.tpl xs) h else .no
theorem newP_calm {xs : List D} : Calm (newP xs h) := by
  intro x h' e
  unfold newP at e
  split at e <;> cases e
theorem newP_ok {σ : Sg} {xs : List D} {vs : List V} {Q : VK} (r : Rel T μ h H) (q : Reps T μ H xs vs) (o : OutV T W σ μ H Q (newP xs h)) :
    vs.length ≤ sizeLine ∧ ∀ p ob, ob.cls = .type "tuple" ∧ ob.dict = none → H p = none → Q (.ref p) (upd H p (.frz ob (.tup vs))) := by
  unfold newP at o
  split at o
  · rename_i hl
    exact ⟨by rw [← q.length]; exact hl, fun p ob hc hp => o μ _ _ (Stp.laid hp) (r.laid hp) (by simp only [Rep]; exact ⟨p, ob, vs, rfl, upd_same, hc, r.not hp, Reps.step (Stp.laid hp) _ _ q⟩)⟩
  · exact o.elim
def lstOf (h : Bs) : D → Option (List D)
  | .lst xs => some xs
  | .ref b => (match h.bs[b]? with | some (.lst _ xs) => some xs | _ => none)
  | .scr ns => some (ns.map .int)
  | _ => none
def lstS (h : Bs) : D → Option (List D)
  | .lst xs => some xs
  | .ref b => (match h.bs[b]? with | some (.lst _ xs) => some xs | _ => none)
  | _ => none
theorem Rel.lstS (r : Rel T μ h H) {d : D} {v : V} {xs : List D} (q : Rep T μ H d v) (e : lstS h d = some xs) : ∃ a vs, v = .ref a ∧ H a = some (.lst vs) ∧ Reps T μ H xs vs := by
  unfold VI.lstS at e
  split at e
  · cases e
    simp only [Rep] at q
    obtain ⟨a, vs, e1, e2, _, q⟩ := q
    exact ⟨a, vs, e1, e2, q⟩
  · simp only [Rep] at q
    obtain ⟨a, e1, e2⟩ := q
    split at e
    · rename_i hb
      cases e
      obtain ⟨vs, e3, q⟩ := r.at_ _ _ a hb e1
      exact ⟨a, vs, e2, e3, q⟩
    · cases e
  · cases e
theorem Rel.lstOf (r : Rel T μ h H) {d : D} {v : V} {xs : List D} (q : Rep T μ H d v) (e : lstOf h d = some xs) : ∃ a vs, v = .ref a ∧ SqL T.K H a vs ∧ Reps T μ H xs vs := by
  by_cases hs : VI.lstS h d = some xs
  · obtain ⟨a, vs, e1, e2, e3⟩ := r.lstS q hs
    exact ⟨a, vs, e1, SqL.of e2, e3⟩
  · cases d with
    | scr ns =>
      simp only [VI.lstOf] at e
      cases e
      simp only [Rep] at q
      obtain ⟨a, e1, e2⟩ := q
      exact ⟨a, _, e1, e2.sq, Reps.ints ns⟩
    | lst xs => exact absurd e hs
    | ref b => exact absurd e hs
    | _ => simp [VI.lstOf] at e
theorem Rep.tplOf {xs : List D} {v : V} (q : Rep T μ H (.tpl xs) v) : ∃ a o vs, v = .ref a ∧ H a = some (.frz o (.tup vs)) ∧ (o.cls = .type "tuple" ∧ o.dict = none) ∧ μ.no a ∧ Reps T μ H xs vs := by
  simpa only [Rep] using q
theorem SqT.fz {K : PySem.W.Frag} {a : Addr} {o : Obj} {vs : List V} (h : H a = some (.frz o (.tup vs))) : SqT K H a vs := .inl (.inr ⟨o, h⟩)
theorem Rep.tupOf {xs : List D} {v : V} (q : Rep T μ H (.tup xs) v) : ∃ a vs, v = .ref a ∧ H a = some (.tup vs) ∧ μ.no a ∧ Reps T μ H xs vs := by
  simpa only [Rep] using q
end
end VI
end
section
namespace VI
open PySem PySem.Spec PyProof.Rows L2
def seqOf (h : Bs) : D → Option (List D)
  | .tup xs => some xs
  | .tpl xs => some xs
  | d => lstOf h d
section
variable {X : Cx} {T : Tb} {W : WX} {μ μ' : Mu} {H H' : Hp} {h : Bs} {σ : Sg}
theorem Rel.seqOf (r : Rel T μ h H) {d : D} {v : V} {xs : List D} (q : Rep T μ H d v) (e : seqOf h d = some xs) : ∃ a vs, v = .ref a ∧ (SqT T.K H a vs ∨ SqL T.K H a vs) ∧ Reps T μ H xs vs := by
  cases d with
  | tup ys =>
    simp only [VI.seqOf] at e
    cases e
    obtain ⟨a, vs, e1, e2, _, e3⟩ := q.tupOf
    exact ⟨a, vs, e1, .inl (SqT.of e2), e3⟩
  | tpl ys =>
    simp only [VI.seqOf] at e
    cases e
    obtain ⟨a, o, vs, e1, e2, _, _, e3⟩ := q.tplOf
    exact ⟨a, vs, e1, .inl (SqT.fz e2), e3⟩
  | _ =>
    obtain ⟨a, vs, e1, e2, e3⟩ := r.lstOf q e
    exact ⟨a, vs, e1, .inr e2, e3⟩
theorem OutV.bindA {Q : VK} {r : R (List D)} {f : List D → Bs → R D} (o : OutV T W σ μ H Q (r.bind f)) :
    OutA T W σ μ H (fun v H1 => ∃ μ1 d h1, Stp μ H μ1 H1 ∧ Rel T μ1 h1 H1 ∧ Reps T μ1 H1 d v ∧ OutV T W σ μ1 H1 Q (f d h1)) r := by
  cases r with
  | ok d h => exact fun μ1 H1 v s r1 rv => ⟨μ1, d, h, s, r1, rv, OutV.step o s⟩
  | ex x h => exact o
  | no => exact o
theorem OutA.bindV {Q : List V → Hp → Prop} {r : R D} {f : D → Bs → R (List D)} (o : OutA T W σ μ H Q (r.bind f)) :
    OutV T W σ μ H (fun v H1 => ∃ μ1 d h1, Stp μ H μ1 H1 ∧ Rel T μ1 h1 H1 ∧ Rep T μ1 H1 d v ∧ OutA T W σ μ1 H1 Q (f d h1)) r := by
  cases r with
  | ok d h => exact fun μ1 H1 v s r1 rv => ⟨μ1, d, h, s, r1, rv, OutA.step o s⟩
  | ex x h => exact o
  | no => exact o
theorem OutA.bindA {Q : List V → Hp → Prop} {r : R (List D)} {f : List D → Bs → R (List D)} (o : OutA T W σ μ H Q (r.bind f)) :
    OutA T W σ μ H (fun v H1 => ∃ μ1 d h1, Stp μ H μ1 H1 ∧ Rel T μ1 h1 H1 ∧ Reps T μ1 H1 d v ∧ OutA T W σ μ1 H1 Q (f d h1)) r := by
  cases r with
  | ok d h => exact fun μ1 H1 v s r1 rv => ⟨μ1, d, h, s, r1, rv, OutA.step o s⟩
  | ex x h => exact o
  | no => exact o
theorem OutB.bindV {Q : Bool → Hp → Prop} {r : R D} {f : D → Bs → R Bool} (o : OutB T W σ μ H Q (r.bind f)) :
    OutV T W σ μ H (fun v H1 => ∃ μ1 d h1, Stp μ H μ1 H1 ∧ Rel T μ1 h1 H1 ∧ Rep T μ1 H1 d v ∧ OutB T W σ μ1 H1 Q (f d h1)) r := by
  cases r with
  | ok d h => exact fun μ1 H1 v s r1 rv => ⟨μ1, d, h, s, r1, rv, OutB.step o s⟩
  | ex x h => exact o
  | no => exact o
theorem OutB.bindB {Q : Bool → Hp → Prop} {r : R Bool} {f : Bool → Bs → R Bool} (o : OutB T W σ μ H Q (r.bind f)) :
    OutB T W σ μ H (fun d H1 => ∃ μ1 h1, Stp μ H μ1 H1 ∧ Rel T μ1 h1 H1 ∧ OutB T W σ μ1 H1 Q (f d h1)) r := by
  cases r with
  | ok d h => exact fun μ1 H1 s r1 => ⟨μ1, h, s, r1, OutB.step o s⟩
  | ex x h => exact o
  | no => exact o
theorem OutV.bindB {Q : VK} {r : R Bool} {f : Bool → Bs → R D} (o : OutV T W σ μ H Q (r.bind f)) :
    OutB T W σ μ H (fun d H1 => ∃ μ1 h1, Stp μ H μ1 H1 ∧ Rel T μ1 h1 H1 ∧ OutV T W σ μ1 H1 Q (f d h1)) r := by
  cases r with
  | ok d h => exact fun μ1 H1 s r1 => ⟨μ1, h, s, r1, OutV.step o s⟩
  | ex x h => exact o
  | no => exact o
theorem OutA.mono {Q Q' : List V → Hp → Prop} {r : R (List D)} (o : OutA T W σ μ H Q r) (i : ∀ v H, Q v H → Q' v H) : OutA T W σ μ H Q' r := by
  cases r with
  | ok d h' => exact fun μ1 H1 v s r1 rv => i _ _ (o μ1 H1 v s r1 rv)
  | ex x h => exact o
  | no => exact o
theorem OutB.mono {Q Q' : Bool → Hp → Prop} {r : R Bool} (o : OutB T W σ μ H Q r) (i : ∀ v H, Q v H → Q' v H) : OutB T W σ μ H Q' r := by
  cases r with
  | ok d h' => exact fun μ1 H1 s r1 => i _ _ (o μ1 H1 s r1)
  | ex x h => exact o
  | no => exact o
def saNil : SA := fun _ h => .ok [] h
def saCons (sa : SV) (sr : SA) : SA := fun ρ h => (sa ρ h).bind fun x h1 => (sr ρ h1).bind fun xs h2 => .ok (x :: xs) h2
def saStar (sa : SV) (sr : SA) : SA := fun ρ h => (sa ρ h).bind fun x h1 => match seqOf h1 x with
  | some xs => (sr ρ h1).bind fun ys h2 => .ok (xs ++ ys) h2
  | none => .no
theorem pav_nil : PA X [] (tA' T W saNil) := PA.imp pa_nil fun σ H Q ⟨μ, ρ, h, r, e, o⟩ => o μ H [] Stp.refl r .nil
theorem star_no {e : Expr} {es : List Expr} {env : Env} (hs : PySem.W.isStarred e = false) : starEach (e :: es) env = (false, eval e env) :: starEach es env := by
  cases e <;> first | rfl | (simp [PySem.W.isStarred] at hs)
theorem pav_cons {e : Expr} {es : List Expr} {sa : SV} {sr : SA} (hs : PySem.W.isStarred e = false) (ha : PE X e (tV T W sa)) (hr : PA X es (tA' T W sr)) : PA X (e :: es) (tA' T W (saCons sa sr)) :=
  PA.imp (pa_cons ha hr (star_no hs)) fun σ H Q ⟨μ, ρ, h, r, e, o⟩ => by
    refine ⟨μ, ρ, h, r, e, OutV.mono (OutA.bindV o) ?_⟩
    rintro v H1 ⟨μ1, d, h1, s1, r1, rv, o1⟩
    refine ⟨μ1, ρ, h1, r1, e.step s1, OutA.mono (OutA.bindA o1) ?_⟩
    rintro u H2 ⟨μ2, d2, h2, s2, r2, ru, o2⟩
    exact o2 μ2 H2 _ Stp.refl r2 (.cons (Rep.step s2 _ _ rv) ru)
theorem pav_star {e : Expr} {es : List Expr} {p : Pos} {sa : SV} {sr : SA} (hK : X.K = T.K) (ha : PE X e (tV T W sa)) (hr : PA X es (tA' T W sr)) : PA X (.Starred e p :: es) (tA' T W (saStar sa sr)) :=
  PA.imp (StX.pa_star ha hr) fun σ H Q ⟨μ, ρ, h, r, e, o⟩ => by
    refine ⟨μ, ρ, h, r, e, OutV.mono (OutA.bindV o) ?_⟩
    rintro v H1 ⟨μ1, d, h1, s1, r1, rv, o1⟩
    cases q : VI.seqOf h1 d with
    | none => simp only [q] at o1; exact o1.elim
    | some xs =>
      simp only [q] at o1
      obtain ⟨a, vs, e1, e2, e3⟩ := r1.seqOf rv q
      refine ⟨a, vs, e1, by rw [hK]; exact e2, μ1, ρ, h1, r1, e.step s1, OutA.mono (OutA.bindA o1) ?_⟩
      rintro u H2 ⟨μ2, d2, h2, s2, r2, ru, o2⟩
      exact o2 μ2 H2 _ Stp.refl r2 (.append (Reps.step s2 _ _ e3) ru)
def sTup (sa : SA) : SV := fun ρ h => (sa ρ h).bind fun xs h1 => newT xs h1
def sLst (bx : Bool) (sa : SA) : SV := fun ρ h => (sa ρ h).bind fun xs h1 => newL bx xs h1
theorem pv_tup {es : List Expr} {k : Nat} {pos : Pos} {sa : SA} (h : PA X es (tA' T W sa)) : PE X (.Tuple es k pos) (tV T W (sTup sa)) :=
  PE.imp (pe_tup h) fun σ H Q ⟨μ, ρ, h, r, e, o⟩ => by
    refine ⟨μ, ρ, h, r, e, OutA.mono (OutV.bindA o) ?_⟩
    rintro v H1 ⟨μ1, d, h1, s1, r1, rv, o1⟩
    exact newT_ok r1 rv o1
theorem pv_lst {es : List Expr} {pos : Pos} {bx : Bool} {sa : SA} (h : PA X es (tA' T W sa)) : PE X (.List es pos) (tV T W (sLst bx sa)) :=
  PE.imp (pe_lst h) fun σ H Q ⟨μ, ρ, h, r, e, o⟩ => by
    refine ⟨μ, ρ, h, r, e, OutA.mono (OutV.bindA o) ?_⟩
    rintro v H1 ⟨μ1, d, h1, s1, r1, rv, o1⟩
    exact newL_ok r1 rv o1
def truth (h : Bs) : D → Option Bool
  | .bl b => some b
  | _ => none
def sTru (s : SV) : Ev → Bs → R Bool := fun ρ h => (s ρ h).bind fun d h1 => match truth h1 d with
  | some b => .ok b h1
  | none => .no
variable {a b c : Expr} {sa sb sc : SV} {pos : Pos}
theorem tru_imp : ∀ σ H Q, tB' T W (sTru sa) σ H Q → tB (tV T W sa) σ H Q := fun σ H Q ⟨μ, ρ, h, r, e, o⟩ => by
  refine ⟨μ, ρ, h, r, e, OutV.mono (OutB.bindV o) ?_⟩
  rintro v H1 ⟨μ1, d, h1, s1, r1, rv, o1⟩
  cases d with
  | bl b =>
    simp only [Rep] at rv
    exact ⟨b, rv, o1 μ1 H1 Stp.refl r1⟩
  | _ => exact o1.elim
def plainT : Expr → Bool
  | .Call .. => true
  | .Name .. => true
  | .Subscript .. => true
  | .Attribute .. => true
  | _ => false
theorem pvt_val (hp : plainT a = true) (ha : PE X a (tV T W sa)) : PT X a (tB' T W (sTru sa)) :=
  PT.imp (pt_val ha (by cases a <;> first | (exact fun _ => rfl) | (exact Bool.noConfusion hp))) tru_imp
def sNot (s : SV) : SV := fun ρ h => (sTru s ρ h).bind fun b h1 => .ok (.bl (!b)) h1
def sAnd (sa sb : SV) : SV := fun ρ h => (sTru sa ρ h).bind fun b h1 => if b then (sTru sb ρ h1).bind (fun c h2 => .ok (.bl c) h2) else .ok (.bl false) h1
def sOr (sa sb : SV) : SV := fun ρ h => (sTru sa ρ h).bind fun b h1 => if b then .ok (.bl true) h1 else (sTru sb ρ h1).bind (fun c h2 => .ok (.bl c) h2)
def sIte (sc sa sb : SV) : SV := fun ρ h => (sTru sc ρ h).bind fun b h1 => if b then sa ρ h1 else sb ρ h1
theorem R.bind_bind {α β γ : Type} (r : R α) (f : α → Bs → R β) (g : β → Bs → R γ) : (r.bind f).bind g = r.bind fun a h => (f a h).bind g := by
  cases r <;> rfl
theorem R.bind_ok {α : Type} (r : R α) : (r.bind fun a h => .ok a h) = r := by cases r <;> rfl
theorem sTru_bind {β : Type} (ρ : Ev) (h : Bs) (g : Bool → Bs → R β) : (sTru sa ρ h).bind g = (sa ρ h).bind fun d h1 => R.bind (match truth h1 d with
  | some b => R.ok b h1
  | none => .no) g := by unfold sTru; rw [R.bind_bind]
theorem sTru_bl (r : R Bool) : ((r.bind fun c h2 => R.ok (D.bl c) h2).bind fun d h1 => match truth h1 d with
  | some b => R.ok b h1
  | none => .no) = r := by cases r <;> rfl
theorem sTru_not (ρ : Ev) (h : Bs) : sTru (sNot sa) ρ h = (sTru sa ρ h).bind fun b h1 => .ok (!b) h1 := by
  unfold sNot; conv => lhs; unfold sTru
  rw [R.bind_bind]; rfl
theorem sTru_and (ρ : Ev) (h : Bs) : sTru (sAnd sa sb) ρ h = (sTru sa ρ h).bind fun b h1 => if b then sTru sb ρ h1 else .ok false h1 := by
  unfold sAnd; conv => lhs; unfold sTru
  rw [R.bind_bind]; congr 1; funext b h1
  cases b
  · rfl
  · exact sTru_bl _
theorem sTru_or (ρ : Ev) (h : Bs) : sTru (sOr sa sb) ρ h = (sTru sa ρ h).bind fun b h1 => if b then .ok true h1 else sTru sb ρ h1 := by
  unfold sOr; conv => lhs; unfold sTru
  rw [R.bind_bind]; congr 1; funext b h1
  cases b
  · exact sTru_bl _
  · rfl
theorem pvt_not (ha : PT X a (tB' T W (sTru sa))) : PT X (.UnaryOp .Not a pos) (tB' T W (sTru (sNot sa))) :=
  PT.imp (pt_not ha) fun σ H Q ⟨μ, ρ, h, r, e, o⟩ => by
    rw [sTru_not] at o
    refine ⟨μ, ρ, h, r, e, OutB.mono (OutB.bindB o) ?_⟩
    rintro d H1 ⟨μ1, h1, s1, r1, o1⟩
    exact o1 μ1 H1 Stp.refl r1
theorem PW.imp {t t' : TT} (h : PW X a t) (i : ∀ σ H Q, t' σ H Q → t σ H Q) : PW X a t' := ⟨fun wh pins s σ H Q I w => h.run wh pins s σ H Q I (i σ H Q w)⟩
theorem and_imp : ∀ σ H Q, tB' T W (sTru (sAnd sa sb)) σ H Q → tAnd (tB' T W (sTru sa)) (tB' T W (sTru sb)) σ H Q := fun σ H Q ⟨μ, ρ, h, r, e, o⟩ => by
  rw [sTru_and] at o
  refine ⟨μ, ρ, h, r, e, OutB.mono (OutB.bindB o) ?_⟩
  rintro d H1 ⟨μ1, h1, s1, r1, o1⟩
  cases d with
  | true => exact ⟨μ1, ρ, h1, r1, e.step s1, o1⟩
  | false => exact o1 μ1 H1 Stp.refl r1
theorem or_imp : ∀ σ H Q, tB' T W (sTru (sOr sa sb)) σ H Q → tOr (tB' T W (sTru sa)) (tB' T W (sTru sb)) σ H Q := fun σ H Q ⟨μ, ρ, h, r, e, o⟩ => by
  rw [sTru_or] at o
  refine ⟨μ, ρ, h, r, e, OutB.mono (OutB.bindB o) ?_⟩
  rintro d H1 ⟨μ1, h1, s1, r1, o1⟩
  cases d with
  | true => exact o1 μ1 H1 Stp.refl r1
  | false => exact ⟨μ1, ρ, h1, r1, e.step s1, o1⟩
theorem pvt_and1 (ha : PT X a (tB' T W (sTru sa))) : PW X (.BoolOp .And [a] pos) (tB' T W (sTru sa)) := pw_and1 ha
theorem pvt_or1 (ha : PT X a (tB' T W (sTru sa))) : PW X (.BoolOp .Or [a] pos) (tB' T W (sTru sa)) := pw_or1 ha
theorem pvt_and {rest : List Expr} (ha : PT X a (tB' T W (sTru sa))) (hb : PW X (.BoolOp .And (b :: rest) pos) (tB' T W (sTru sb))) : PW X (.BoolOp .And (a :: b :: rest) pos) (tB' T W (sTru (sAnd sa sb))) :=
  PW.imp (pw_and ha hb) and_imp
theorem pvt_or {rest : List Expr} (ha : PT X a (tB' T W (sTru sa))) (hb : PW X (.BoolOp .Or (b :: rest) pos) (tB' T W (sTru sb))) : PW X (.BoolOp .Or (a :: b :: rest) pos) (tB' T W (sTru (sOr sa sb))) :=
  PW.imp (pw_or ha hb) or_imp
theorem bl_of_truth {d : D} {h1 : Bs} {b : Bool} (e : truth h1 d = some b) : d = .bl b := by
  cases d <;> simp [truth] at e; subst e; rfl
theorem pv_not (ha : PE X a (tV T W sa)) : PE X (.UnaryOp .Not a pos) (tV T W (sNot sa)) :=
  PE.imp (pe_not ha) fun σ H Q ⟨μ, ρ, h, r, e, o⟩ => by
    unfold sNot sTru at o
    rw [R.bind_bind] at o
    refine ⟨μ, ρ, h, r, e, OutV.mono (OutV.bind o) ?_⟩
    rintro v H1 ⟨μ1, d, h1, s1, r1, rv, o1⟩
    cases q : truth h1 d with
    | none => simp only [q] at o1; exact o1.elim
    | some b =>
      simp only [q] at o1
      rw [bl_of_truth q] at rv
      simp only [Rep] at rv
      exact ⟨b, rv, o1 μ1 H1 _ Stp.refl r1 (by simp only [Rep])⟩
theorem pv_one {op} (h : PE X a (tV T W sa)) : PE X (.BoolOp op [a] pos) (tV T W sa) := pe_one h
def sBl (s : SV) : SV := fun ρ h => (sTru s ρ h).bind fun c h2 => .ok (.bl c) h2
theorem bl_imp : ∀ σ H Q, tV T W (sBl sa) σ H Q → tV T W sa σ H Q := fun σ H Q ⟨μ, ρ, h, r, e, o⟩ => by
  unfold sBl sTru at o
  rw [R.bind_bind] at o
  refine ⟨μ, ρ, h, r, e, ?_⟩
  cases q : sa ρ h with
  | no => rw [q] at o; exact o
  | ex x h1 => rw [q] at o; exact o
  | ok d h1 =>
    rw [q] at o
    simp only [R.bind] at o
    cases t : truth h1 d with
    | none => simp only [t] at o; exact o.elim
    | some b =>
      simp only [t] at o
      rw [bl_of_truth t]
      exact o
theorem pv_and {rest : List Expr} (ha : PE X a (tV T W sa)) (hb : PE X (.BoolOp .And (b :: rest) pos) (tV T W sb)) : PE X (.BoolOp .And (a :: b :: rest) pos) (tV T W (sAnd sa sb)) :=
  PE.imp (pe_and ha hb) fun σ H Q ⟨μ, ρ, h, r, e, o⟩ => by
    unfold sAnd at o
    rw [sTru_bind] at o
    refine ⟨μ, ρ, h, r, e, OutV.mono (OutV.bind o) ?_⟩
    rintro v H1 ⟨μ1, d, h1, s1, r1, rv, o1⟩
    cases q : truth h1 d with
    | none => simp only [q] at o1; exact o1.elim
    | some c =>
      simp only [q] at o1
      rw [bl_of_truth q] at rv
      simp only [Rep] at rv
      refine ⟨c, rv, ?_⟩
      cases c with
      | true => exact bl_imp σ H1 Q ⟨μ1, ρ, h1, r1, e.step s1, o1⟩
      | false => exact o1 μ1 H1 _ Stp.refl r1 (by simp only [Rep])
theorem pv_ite (hc : PT X c (tB' T W (sTru sc))) (ha : PE X a (tV T W sa)) (hb : PE X b (tV T W sb)) : PE X (.IfExp c a b pos) (tV T W (sIte sc sa sb)) :=
  PE.imp (pe_ifExp hc ha hb) fun σ H Q ⟨μ, ρ, h, r, e, o⟩ => by
    refine ⟨μ, ρ, h, r, e, OutB.mono (OutV.bindB o) ?_⟩
    rintro d H1 ⟨μ1, h1, s1, r1, o1⟩
    cases d with
    | true => exact ⟨μ1, ρ, h1, r1, e.step s1, o1⟩
    | false => exact ⟨μ1, ρ, h1, r1, e.step s1, o1⟩
end
end VI
end
section
namespace VI
open PySem PySem.Spec PyProof.Rows L2
def mapO {α β : Type} (f : α → Option β) : List α → Option (List β)
  | [] => some []
  | x :: xs => match f x with
    | some y => (match mapO f xs with | some ys => some (y :: ys) | none => none)
    | none => none
def py : Nat → Bs → D → Option PyData
  | 0, _, _ => none
  | n + 1, h, d => match d with
    | .non => some .none
    | .bl b => some (.bool b)
    | .int i => some (.int i)
    | .str x => if PyData.strOk x then some (.str x) else none
    | .tup xs => (mapO (py n h) xs).map .tuple
    | .tpl xs => (mapO (py n h) xs).map .tuple
    | .lst xs => (mapO (py n h) xs).map .list
    | .scr ns => some (.list (ns.map .int))
    | .ref b => (match h.bs[b]? with | some (.lst _ xs) => (mapO (py n h) xs).map .list | _ => none)
    | _ => none
section
variable {X : Cx} {T : Tb} {W : WX} {μ μ' : Mu} {H H' : Hp} {h : Bs} {σ : Sg}
theorem mapO_some {α β : Type} {f : α → Option β} {x : α} {xs : List α} {zs : List β} (e : mapO f (x :: xs) = some zs) : ∃ y ys, f x = some y ∧ mapO f xs = some ys ∧ zs = y :: ys := by
  simp only [mapO] at e
  cases q : f x with
  | none => rw [q] at e; cases e
  | some y =>
    rw [q] at e
    cases q2 : mapO f xs with
    | none => rw [q2] at e; cases e
    | some ys => rw [q2] at e; cases e; exact ⟨y, ys, rfl, rfl, rfl⟩
def PyOk (T : Tb) (H : Hp) (n : Nat) (v : V) (p : PyData) : Prop := Dp T.K H v p ∧ p.depth ≤ n ∧ p.canLay0 = true
theorem ints_dp : ∀ ns : List Int, DpAll T.K H (ns.map V.int) (ns.map PyData.int) ∧ PyData.depthAll (ns.map .int) ≤ 0 ∧ PyData.canLayAll0 (ns.map .int) = true
  | [] => ⟨.nil, by simp [PyData.depthAll], by simp [PyData.canLayAll0]⟩
  | n :: ns => ⟨.cons (.int n) (ints_dp ns).1, by simpa [PyData.depthAll, PyData.depth] using (ints_dp ns).2.1, by simpa [PyData.canLayAll0, PyData.canLay0] using (ints_dp ns).2.2⟩
theorem pys_ok {n : Nat} (ih : ∀ d v p, Rep T μ H d v → py n h d = some p → PyOk T H n v p) : ∀ (xs : List D) (vs : List V) (ps : List PyData), Reps T μ H xs vs → mapO (py n h) xs = some ps →
    DpAll T.K H vs ps ∧ PyData.depthAll ps ≤ n ∧ PyData.canLayAll0 ps = true
  | [], vs, ps, q, e => by
    simp only [Reps] at q; subst q
    simp only [mapO] at e; cases e
    exact ⟨.nil, by simp [PyData.depthAll], by simp [PyData.canLayAll0]⟩
  | x :: xs, vs, ps, q, e => by
    simp only [Reps] at q
    obtain ⟨v, r, rfl, q1, q2⟩ := q
    obtain ⟨y, ys, e1, e2, rfl⟩ := mapO_some e
    obtain ⟨a1, a2, a3⟩ := ih x v y q1 e1
    obtain ⟨b1, b2, b3⟩ := pys_ok ih xs r ys q2 e2
    exact ⟨.cons a1 b1, by simp only [PyData.depthAll]; omega, by simp [PyData.canLayAll0, a3, b3]⟩
theorem py_ok (r : Rel T μ h H) : ∀ (n : Nat) (d : D) (v : V) (p : PyData), Rep T μ H d v → py n h d = some p → PyOk T H n v p
  | 0, _, _, _, _, e => by simp [py] at e
  | n + 1, d, v, p, q, e => by
    have ih := pys_ok (fun d v p => py_ok r n d v p)
    cases d with
    | non => simp only [py] at e; cases e; simp only [Rep] at q; subst q; exact ⟨.non, by simp [PyData.depth], by simp [PyData.canLay0]⟩
    | bl b => simp only [py] at e; cases e; simp only [Rep] at q; subst q; exact ⟨.bl b, by simp [PyData.depth], by simp [PyData.canLay0]⟩
    | int b => simp only [py] at e; cases e; simp only [Rep] at q; subst q; exact ⟨.int b, by simp [PyData.depth], by simp [PyData.canLay0]⟩
    | str b =>
      simp only [py] at e
      split at e
      · rename_i hs
        cases e; simp only [Rep] at q; subst q; exact ⟨.str b, by simp [PyData.depth], by simpa [PyData.canLay0] using hs⟩
      · cases e
    | tup xs =>
      simp only [py] at e
      cases q2 : mapO (py n h) xs with
      | none => rw [q2] at e; cases e
      | some ps =>
        rw [q2] at e; cases e
        obtain ⟨a, vs, rfl, e2, _, e3⟩ := q.tupOf
        obtain ⟨b1, b2, b3⟩ := ih xs vs ps e3 q2
        exact ⟨.tup (SqT.of e2) b1, by simp only [PyData.depth]; omega, by simpa [PyData.canLay0] using b3⟩
    | tpl xs =>
      simp only [py] at e
      cases q2 : mapO (py n h) xs with
      | none => rw [q2] at e; cases e
      | some ps =>
        rw [q2] at e; cases e
        obtain ⟨a, o, vs, rfl, e2, _, _, e3⟩ := q.tplOf
        obtain ⟨b1, b2, b3⟩ := ih xs vs ps e3 q2
        exact ⟨.tup (SqT.fz e2) b1, by simp only [PyData.depth]; omega, by simpa [PyData.canLay0] using b3⟩
    | lst xs =>
      simp only [py] at e
      cases q2 : mapO (py n h) xs with
      | none => rw [q2] at e; cases e
      | some ps =>
        rw [q2] at e; cases e
        obtain ⟨a, vs, rfl, e2, e3⟩ := r.lstOf (xs := xs) q rfl
        obtain ⟨b1, b2, b3⟩ := ih xs vs ps e3 q2
        exact ⟨.lst e2 b1, by simp only [PyData.depth]; omega, by simpa [PyData.canLay0] using b3⟩
    | scr ns =>
      simp only [py] at e
      cases e
      simp only [Rep] at q
      obtain ⟨a, rfl, e2⟩ := q
      obtain ⟨b1, b2, b3⟩ := ints_dp (T := T) (H := H) ns
      exact ⟨.lst e2.sq b1, by simp only [PyData.depth]; omega, by simpa [PyData.canLay0] using b3⟩
    | exo c fs xs => simp [py] at e
    | ref b =>
      simp only [py] at e
      split at e
      · rename_i lk xs hb
        cases q2 : mapO (py n h) xs with
        | none => rw [q2] at e; cases e
        | some ps =>
          rw [q2] at e; cases e
          obtain ⟨a, vs, rfl, e2, e3⟩ := r.lstOf (d := .ref b) (xs := xs) q (by simp [VI.lstOf, hb])
          obtain ⟨b1, b2, b3⟩ := ih xs vs ps e3 q2
          exact ⟨.lst e2 b1, by simp only [PyData.depth]; omega, by simpa [PyData.canLay0] using b3⟩
      · cases e
    | dct ks vs => simp [py] at e
    | obj c fs vs => simp [py] at e
theorem PyOk.shaped {n : Nat} {v : V} {p : PyData} (k : PyOk T H n v p) (hn : n ≤ 64) : SeqAt.shaped p = true := by
  unfold SeqAt.shaped
  simp only [Bool.and_eq_true, decide_eq_true_eq]
  exact ⟨k.2.2, Nat.le_trans k.2.1 hn⟩
abbrev pyN : Nat := 12
def eqD (neg : Bool) (d e : D) (h : Bs) : R D := match py pyN h d, py pyN h e with
  | some p, some q => .ok (.bl (if neg then !PyData.eqv p q else PyData.eqv p q)) h
  | _, _ => .no
theorem eqD_calm {neg : Bool} {d e : D} : Calm (eqD neg d e h) := by
  intro x h' z; unfold eqD at z; split at z <;> cases z
theorem ov_eq (hK : X.K = T.K) (hu : X.A.units + 64 < cLine) : OpR X (compareOp .Eq) (rD2 T (eqD false)) :=
  OpR.imp (op_eqD hu) fun x y H Q ⟨μ, h, d, e, r, rd, re, o⟩ => by
    unfold eqD at o
    split at o
    · rename_i p q hp hq
      have k1 := py_ok r _ d x p rd hp
      have k2 := py_ok r _ e y q re hq
      exact ⟨p, q, by rw [hK]; exact k1.1, by rw [hK]; exact k2.1, k1.shaped (by decide), k2.shaped (by decide), o μ H _ Stp.refl r (by simp only [Rep]; rfl)⟩
    · exact o.elim
theorem ov_ne (hK : X.K = T.K) (hu : X.A.units + 64 < cLine) : OpR X (compareOp .NotEq) (rD2 T (eqD true)) :=
  OpR.imp (op_neD hu) fun x y H Q ⟨μ, h, d, e, r, rd, re, o⟩ => by
    unfold eqD at o
    split at o
    · rename_i p q hp hq
      have k1 := py_ok r _ d x p rd hp
      have k2 := py_ok r _ e y q re hq
      exact ⟨p, q, by rw [hK]; exact k1.1, by rw [hK]; exact k2.1, k1.shaped (by decide), k2.shaped (by decide), o μ H _ Stp.refl r (by simp only [Rep]; rfl)⟩
    · exact o.elim
def inD (neg : Bool) (d e : D) (h : Bs) : R D := match py pyN h d, py pyN h e with
  | some p, some (.list qs) => .ok (.bl (if neg then !qs.any (fun z => PyData.eqv z p) else qs.any fun z => PyData.eqv z p)) h
  | some p, some (.tuple qs) => .ok (.bl (if neg then !qs.any (fun z => PyData.eqv z p) else qs.any fun z => PyData.eqv z p)) h
  | _, _ => .no
theorem inD_calm {neg : Bool} {d e : D} : Calm (inD neg d e h) := by
  intro x h' z; unfold inD at z; split at z <;> cases z
theorem shaped_tuple {ds : List PyData} (h : SeqAt.shaped (.tuple ds) = true) : PyData.canLayAll0 ds = true := SeqAt.canLay_of_shaped h
theorem ov_in (hK : X.K = T.K) (hu : X.A.units + 65 < cLine) : OpR X (compareOp .In) (rD2 T (inD false)) := by
  intro pins s σ H x y v u Q I rx ry ⟨μ, h, d, e, r, rd, re, o⟩
  unfold inD at o
  split at o
  · rename_i p qs hp hq
    have k1 := py_ok r _ d x _ rd hp
    have k2 := py_ok r _ e y _ re hq
    exact op_inD hu pins s σ H x y v u Q I rx ry ⟨p, qs, by rw [hK]; exact k1.1, by rw [hK]; exact k2.1, k1.shaped (by decide), k2.shaped (by decide), o μ H _ Stp.refl r (by simp only [Rep]; rfl)⟩
  · rename_i p qs hp hq
    have k1 := py_ok r _ d x _ rd hp
    have k2 := py_ok r _ e y _ re hq
    have s1 := k1.shaped (by decide)
    have s2 := k2.shaped (by decide)
    obtain ⟨as, r1⟩ := Dp.reads I p x v (by rw [hK]; exact k1.1) rx
    obtain ⟨bs, r2⟩ := Dp.reads I (.tuple qs) y u (by rw [hK]; exact k2.1) ry
    exact SeqAt.in_tuple_reads r2 r1 (shaped_tuple s2) (SeqAt.canLay_of_shaped s1) (room_in_shaped s1 hu) ⟨.bl _, H, I, rfl, o μ H _ Stp.refl r (by simp only [Rep]; rfl)⟩
  · exact o.elim
theorem ov_notIn (hK : X.K = T.K) (hu : X.A.units + 65 < cLine) : OpR X (compareOp .NotIn) (rD2 T (inD true)) := by
  intro pins s σ H x y v u Q I rx ry ⟨μ, h, d, e, r, rd, re, o⟩
  unfold inD at o
  split at o
  · rename_i p qs hp hq
    have k1 := py_ok r _ d x _ rd hp
    have k2 := py_ok r _ e y _ re hq
    exact op_notInD hu pins s σ H x y v u Q I rx ry ⟨p, qs, by rw [hK]; exact k1.1, by rw [hK]; exact k2.1, k1.shaped (by decide), k2.shaped (by decide), o μ H _ Stp.refl r (by simp only [Rep]; rfl)⟩
  · rename_i p qs hp hq
    have k1 := py_ok r _ d x _ rd hp
    have k2 := py_ok r _ e y _ re hq
    have s1 := k1.shaped (by decide)
    have s2 := k2.shaped (by decide)
    obtain ⟨as, r1⟩ := Dp.reads I p x v (by rw [hK]; exact k1.1) rx
    obtain ⟨bs, r2⟩ := Dp.reads I (.tuple qs) y u (by rw [hK]; exact k2.1) ry
    exact SeqAt.notIn_tuple_reads r2 r1 (shaped_tuple s2) (SeqAt.canLay_of_shaped s1) (room_in_shaped s1 hu) ⟨.bl _, H, I, rfl, o μ H _ Stp.refl r (by simp only [Rep]; rfl)⟩
  · exact o.elim
def isN (neg : Bool) (d : D) (h : Bs) : R D := match d with
  | .non => .ok (.bl (!neg)) h
  | _ => .ok (.bl neg) h
theorem rep_bl {b c : Bool} (e : b = c) : Rep T μ H (.bl b) (.bl c) := by subst e; simp only [Rep]
theorem rep_int {i j : Int} (e : i = j) : Rep T μ H (.int i) (.int j) := by subst e; simp only [Rep]
theorem rep_nil : Rep T μ H .non .non := by simp only [Rep]
def sUn (f : D → Bs → R D) (sa : SV) : SV := fun ρ h => (sa ρ h).bind f
theorem pc_v {op : CmpOp} {a b : Expr} {sa sb : SV} {f : D → D → Bs → R D} (cf : ∀ d e h, Calm (f d e h)) (ho : OpR X (compareOp op) (rD2 T f)) (ha : PE X a (tV T W sa)) (hb : PE X b (tV T W sb)) : PC X op a b (tV T W (sOp f sa sb)) :=
  ⟨fun pins s σ H Q I w => binT ha hb I (op2_imp cf σ H Q w) fun v u s2 x y H2 I2 rx ry q => ho pins s2 σ H2 x y v u Q I2 rx ry q⟩
theorem PC.imp {op : CmpOp} {a b : Expr} {t t' : TE} (h : PC X op a b t) (i : ∀ σ H Q, t' σ H Q → t σ H Q) : PC X op a b t' := ⟨fun pins s σ H Q I w => h.run pins s σ H Q I (i σ H Q w)⟩
theorem pv_cmp {op : CmpOp} {a b : Expr} {pos : Pos} {s : SV} (h : PC X op a b (tV T W s)) (hb : behindInMarks op b = false) : PE X (.Compare a [op] [b] pos) (tV T W s) := pe_cmp h hb
theorem pvt_cmp {op : CmpOp} {a b : Expr} {pos : Pos} {s : SV} (h : PC X op a b (tV T W s)) (hb : behindInMarks op b = false) : PT X (.Compare a [op] [b] pos) (tB' T W (sTru s)) := PT.imp (pt_cmp h hb) tru_imp
def addD (bx : Bool) (d e : D) (h : Bs) : R D := match d, e with
  | .int i, .int j => .ok (.int (i + j)) h
  | .tup xs, .tup ys => newT (xs ++ ys) h
  | .tpl xs, .tpl ys => newP (xs ++ ys) h
  | _, _ => (match lstS h d, lstS h e with
    | some xs, some ys => newL bx (xs ++ ys) h
    | _, _ => .no)
theorem addD_calm {bx : Bool} {d e : D} : Calm (addD bx d e h) := by
  unfold addD
  split
  · intro x h' z; cases z
  · exact newT_calm
  · exact newP_calm
  · split
    · exact newL_calm
    · intro x h' z; cases z
theorem ov_add {bx : Bool} (hK : X.K = T.K) : OpR X (binaryOp .Add) (rD2 T (addD bx)) := by
  intro pins s σ H x y v u Q I rx ry ⟨μ, h, d, e, r, rd, re, o⟩
  unfold addD at o
  split at o
  · simp only [Rep] at rd re
    exact op_add pins s σ H x y v u Q I rx ry ⟨_, _, rd, re, o μ H _ Stp.refl r (by simp only [Rep])⟩
  · rename_i xs ys
    obtain ⟨a, vs, e1, e2, n1, e3⟩ := rd.tupOf
    obtain ⟨b, ws, f1, f2, n2, f3⟩ := re.tupOf
    have o' := newT_ok r (e3.append f3) o
    refine op_catA pins s σ H x y v u Q I rx ry ⟨a, b, vs, ws, e1, f1, SqT.of e2, SqT.of f2, by simpa using o'.1, ?_⟩
    unfold newT at o
    rw [if_pos (by have := (e3.append f3).length; rw [this]; exact o'.1)] at o
    refine ⟨fun z => ?_, fun z z2 => ?_, fun _ _ => o'.2⟩
    · subst z
      have : xs = [] := by have := e3.length; simpa using this
      subst this
      refine o μ H _ Stp.refl r ?_
      simp only [Rep]
      exact ⟨b, ws, rfl, f2, n2, f3⟩
    · subst z2
      have : ys = [] := by have := f3.length; simpa using this
      subst this
      refine o μ H _ Stp.refl r ?_
      simp only [Rep, List.append_nil]
      exact ⟨a, vs, rfl, e2, n1, e3⟩
  · rename_i xs ys
    obtain ⟨a, oa, vs, e1, e2, c1, n1, e3⟩ := rd.tplOf
    obtain ⟨b, ob, ws, f1, f2, c2, n2, f3⟩ := re.tplOf
    have o' := newP_ok r (e3.append f3) o
    refine op_catP pins s σ H x y v u Q I rx ry ⟨a, b, vs, ws, e1, f1, SqT.fz e2, SqT.fz f2, by simpa using o'.1, ?_⟩
    unfold newP at o
    rw [if_pos (by have := (e3.append f3).length; rw [this]; exact o'.1)] at o
    refine ⟨fun z => ?_, fun z z2 => ?_, fun _ _ p ob hc hp => o'.2 p ob hc hp⟩
    · subst z
      have : xs = [] := by have := e3.length; simpa using this
      subst this
      refine o μ H _ Stp.refl r ?_
      simp only [Rep]
      exact ⟨b, ob, ws, rfl, f2, c2, n2, f3⟩
    · subst z2
      have : ys = [] := by have := f3.length; simpa using this
      subst this
      refine o μ H _ Stp.refl r ?_
      simp only [Rep, List.append_nil]
      exact ⟨a, oa, vs, rfl, e2, c1, n1, e3⟩
  · split at o
    · rename_i xs ys hx hy
      obtain ⟨a, vs, e1, e2, e3⟩ := r.lstS rd hx
      obtain ⟨b, ws, f1, f2, f3⟩ := r.lstS re hy
      have o' := newL_ok r (e3.append f3) o
      exact op_cat pins s σ H x y v u Q I rx ry ⟨a, b, vs, ws, e1, f1, e2, f2, by simpa using o'.1, o'.2⟩
    · exact o.elim
def subD (d e : D) (h : Bs) : R D := match d, e with
  | .int i, .int j => .ok (.int (i - j)) h
  | _, _ => .no
theorem subD_calm {d e : D} : Calm (subD d e h) := by
  intro x h' z; unfold subD at z; split at z <;> cases z
theorem ov_sub : OpR X (binaryOp .Sub) (rD2 T subD) :=
  OpR.imp op_sub fun x y H Q ⟨μ, h, d, e, r, rd, re, o⟩ => by
    unfold subD at o
    split at o
    · simp only [Rep] at rd re
      exact ⟨_, _, rd, re, o μ H _ Stp.refl r (by simp only [Rep])⟩
    · exact o.elim
def fdivD (d e : D) (h : Bs) : R D := match d, e with
  | .int i, .int j => if 0 < j ∧ j.natAbs.log2 < 9000 then .ok (.int (i / j)) h else .no
  | _, _ => .no
theorem fdivD_calm {d e : D} : Calm (fdivD d e h) := by
  intro x h' z; unfold fdivD at z; split at z
  · split at z <;> cases z
  · cases z
theorem ov_fdiv : OpR X (binaryOp .FloorDiv) (rD2 T fdivD) :=
  OpR.imp op_fdivW fun x y H Q ⟨μ, h, d, e, r, rd, re, o⟩ => by
    unfold fdivD at o
    split at o
    · split at o
      · rename_i hc
        simp only [Rep] at rd re
        exact ⟨_, _, rd, re, hc, o μ H _ Stp.refl r (by simp only [Rep])⟩
      · exact o.elim
    · exact o.elim
def modD (d e : D) (h : Bs) : R D := match d, e with
  | .int i, .int j => if 0 < j then .ok (.int (i % j)) h else .no
  | _, _ => .no
theorem modD_calm {d e : D} : Calm (modD d e h) := by
  intro x h' z; unfold modD at z; split at z
  · split at z <;> cases z
  · cases z
theorem ov_mod : OpR X (binaryOp .Mod) (rD2 T modD) :=
  OpR.imp op_mod fun x y H Q ⟨μ, h, d, e, r, rd, re, o⟩ => by
    unfold modD at o
    split at o
    · split at o
      · rename_i hc
        simp only [Rep] at rd re
        exact ⟨_, _, rd, re, hc, o μ H _ Stp.refl r (by simp only [Rep])⟩
      · exact o.elim
    · exact o.elim
end
end VI
end
section
namespace VI
open PySem PySem.Spec PyProof.Rows L2
theorem tuple_mul1 (l : Addr) (items : Array Value) (n : Nat) (dd : Option Addr) (sl : Array (Option Value)) (u : Tok) :
    Meets (Builtin.«tuple.__mul__» ⟨[.ref l, .int 1 u], []⟩) (fun _ R s => s.heap.get? l = some { cls := .type "tuple", dict := dd, data := .seq items n, slots := sl } ∧ R (.ok (.ret (Value.ref l))) s) :=
  .of_wp fun prog w A R s h => by
    obtain ⟨hp, g, d, tk, os⟩ := s
    obtain ⟨hl, h⟩ := h
    have f1 := AutoSeq1.idx_int
    wp_walk using wpAny_loadPart' hl
    repeat (first
      | (refine wpAny_ite_false (by decide) ?_; wp_walk using wpAny_loadPart' hl)
      | (refine wpAny_ite_true (by simp) ?_; wp_walk using wpAny_loadPart' hl))
    exact ⟨_, rfl, h⟩
section
variable {X : Cx}
theorem op_repT1 : OpR X (binaryOp .Mult) (fun x y H Q => ∃ l xs, x = .ref l ∧ y = .int 1 ∧ SqT X.K H l xs ∧ Q x H) := by
  intro pins s σ H x y v u Q I rx ry h
  obtain ⟨l, xs, rfl, rfl, hT, q⟩ := h
  cases rx
  obtain ⟨t, rfl⟩ := ry
  obtain ⟨its, r, ⟨⟨cls, dd, data, sl⟩, ho, hc, n, hd⟩, hs⟩ := I.tuple hT
  simp only at hc hd
  subst hc hd
  exact wpAny_binaryOp_repeat_ref (T := "tuple") (U := "int") (by decide) ⟨_, ho, rfl⟩ (fun s' => typeIs_int s' 1 t) noFill_tuple_mul F.fills_int_mul F.slot_int_rmul repeat_tuple F.slot_int_index.lookup
    (call_meets F.slot_int_rmul (typeIs_int s 1 t) F.entry_int_rmul (F.args_int_rmul_2 _ _) (int_rmul_tuple 1 t l its.toArray n dd sl)
      ⟨ho, rfl, ⟨_, ho, rfl⟩, call_meets F.slot_tuple_mul ⟨_, ho, rfl⟩ F.entry_tuple_mul (F.args_tuple_mul_2 _ _) (tuple_mul1 l its.toArray n dd sl t) ⟨ho, ⟨.ref l, H, I, rfl, q⟩⟩⟩)
end
section
variable {X : Cx} {T : Tb} {W : WX} {μ μ' : Mu} {H H' : Hp} {h : Bs} {σ : Sg}
theorem Reps.rep {xs : List D} {vs : List V} (q : Reps T μ H xs vs) : ∀ k : Nat, Reps T μ H (List.replicate k xs).flatten (List.replicate k vs).flatten
  | 0 => by simp [Reps]
  | k + 1 => by simp only [List.replicate_succ, List.flatten_cons]; exact q.append (Reps.rep q k)
def mulD (bx : Bool) (d e : D) (h : Bs) : R D := match d, e with
  | .int i, .int j => if i.natAbs.log2 + j.natAbs.log2 < 1000000 then .ok (.int (i * j)) h else .no
  | .tup xs, .int k => if k = 1 then .ok d h else if xs ≠ [] ∧ 2 ≤ k ∧ k ≤ 1000 ∧ xs.length ≤ 1000 then newT (List.replicate k.toNat xs).flatten h else .no
  | .tpl xs, .int k => if k = 1 then .ok d h else if xs ≠ [] ∧ 2 ≤ k ∧ k ≤ 1000 ∧ xs.length ≤ 1000 then newP (List.replicate k.toNat xs).flatten h else .no
  | _, .int k => (match lstS h d with
    | some xs => if -(2 ^ 63) ≤ k ∧ k < 2 ^ 63 ∧ xs.length * k.toNat ≤ sizeLine then newL bx (List.replicate k.toNat xs).flatten h else .no
    | _ => .no)
  | _, _ => .no
theorem mulD_calm {bx : Bool} {d e : D} : Calm (mulD bx d e h) := by
  unfold mulD
  split
  · intro x h' z; split at z <;> cases z
  · intro x h' z
    split at z
    · cases z
    · split at z
      · exact newT_calm x h' z
      · cases z
  · intro x h' z
    split at z
    · cases z
    · split at z
      · exact newP_calm x h' z
      · cases z
  · intro x h' z
    split at z
    · split at z
      · exact newL_calm x h' z
      · cases z
    · cases z
  · intro x h' z; cases z
theorem ov_mul {bx : Bool} (hK : X.K = T.K) : OpR X (binaryOp .Mult) (rD2 T (mulD bx)) := by
  intro pins s σ H x y v u Q I rx ry ⟨μ, h, d, e, r, rd, re, o⟩
  unfold mulD at o
  split at o
  · split at o
    · rename_i hc
      simp only [Rep] at rd re
      exact op_mulW pins s σ H x y v u Q I rx ry ⟨_, _, rd, re, hc, o μ H _ Stp.refl r (rep_int rfl)⟩
    · exact o.elim
  · rename_i xs k
    have re' := re
    simp only [Rep] at re'
    obtain ⟨a, vs, e1, e2, n1, e3⟩ := rd.tupOf
    split at o
    · rename_i hk
      subst hk
      exact op_repT1 pins s σ H x y v u Q I rx ry ⟨a, vs, e1, re', SqT.of e2, o μ H _ Stp.refl r rd⟩
    · split at o
      · rename_i hk
        obtain ⟨c1, c2, c3, c4⟩ := hk
        have o' := newT_ok r (e3.rep k.toNat) o
        refine op_repT pins s σ H x y v u Q I rx ry ⟨a, k, vs, e1, re', SqT.of e2, ?_, c2, c3, by rw [← e3.length]; exact c4, o'.2⟩
        intro z
        subst z
        have := e3.length
        exact c1 (by simpa using this)
      · exact o.elim
  · rename_i xs k
    have re' := re
    simp only [Rep] at re'
    obtain ⟨a, oa, vs, e1, e2, c0, n1, e3⟩ := rd.tplOf
    split at o
    · rename_i hk
      subst hk
      exact op_repT1 pins s σ H x y v u Q I rx ry ⟨a, vs, e1, re', SqT.fz e2, o μ H _ Stp.refl r rd⟩
    · split at o
      · rename_i hk
        obtain ⟨c1, c2, c3, c4⟩ := hk
        have o' := newP_ok r (e3.rep k.toNat) o
        refine op_repP pins s σ H x y v u Q I rx ry ⟨a, k, vs, e1, re', SqT.fz e2, ?_, c2, c3, by rw [← e3.length]; exact c4, o'.2⟩
        intro z
        subst z
        have := e3.length
        exact c1 (by simpa using this)
      · exact o.elim
  · rename_i k hn1 hn2 hn3
    have re' := re
    simp only [Rep] at re'
    split at o
    · rename_i xs hx
      split at o
      · rename_i hc
        obtain ⟨c1, c2, c3⟩ := hc
        obtain ⟨a, vs, e1, e2, e3⟩ := r.lstS rd hx
        have o' := newL_ok r (e3.rep k.toNat) o
        exact op_rep pins s σ H x y v u Q I rx ry ⟨a, k, vs, e1, re', e2, c1, c2, by rw [← e3.length]; exact c3, o'.2⟩
      · exact o.elim
    · exact o.elim
  · exact o.elim
def ixD (d e : D) (h : Bs) : R D := match e with
  | .int i => (match seqOf h d with
    | some xs => (match atI xs i with
      | some x => .ok x h
      | none => .no)
    | none => .no)
  | _ => .no
theorem ixD_calm {d e : D} : Calm (ixD d e h) := by
  intro x h' z; unfold ixD at z
  split at z
  · split at z
    · split at z <;> cases z
    · cases z
  · cases z
theorem Reps.atI {xs : List D} {vs : List V} {i : Int} {x : D} (q : Reps T μ H xs vs) (e : L2.atI xs i = some x) : ∃ v, L2.atI vs i = some v ∧ Rep T μ H x v := by
  unfold L2.atI at e ⊢
  rw [← q.length]
  cases k : ixN xs.length i with
  | none => rw [k] at e; cases e
  | some j =>
    rw [k] at e
    exact q.get e
theorem ov_ix (hK : X.K = T.K) : IxR X (rD2 T ixD) := by
  intro value slice pins s σ H x y v u Q I rx ry ⟨μ, h, d, e, r, rd, re, o⟩ hs
  refine (ix_list.or ix_tup) value slice pins s σ H x y v u Q I rx ry ?_ hs
  unfold ixD at o
  split at o
  · rename_i i
    simp only [Rep] at re
    split at o
    · rename_i xs hx
      split at o
      · rename_i z hz
        obtain ⟨a, vs, e1, e2, e3⟩ := r.seqOf rd hx
        obtain ⟨w, e4, rw'⟩ := e3.atI hz
        rcases e2 with e2 | e2
        · exact .inr ⟨a, vs, i, w, e1, re, by rw [hK]; exact e2, e4, o μ H _ Stp.refl r rw'⟩
        · exact .inl ⟨a, vs, i, w, e1, re, by rw [hK]; exact e2, e4, o μ H _ Stp.refl r rw'⟩
      · exact o.elim
    · exact o.elim
  · exact o.elim
def noSlice : Expr → Bool
  | .Slice .. => false
  | _ => true
theorem plainIx {b : Expr} (hb : noSlice b = true) : PlainIx b := by
  cases b <;> first | (exact fun _ _ => rfl) | (exact Bool.noConfusion hb)
theorem pv_ix {a b : Expr} {sa sb : SV} {pos : Pos} (hK : X.K = T.K) (hs : noSlice b = true) (ha : PE X a (tV T W sa)) (hb : PE X b (tV T W sb)) : PE X (.Subscript a b pos) (tV T W (sOp ixD sa sb)) :=
  PE.imp (pe_ix (ov_ix hK) ha hb (plainIx hs)) (op2_imp fun _ _ _ => ixD_calm)
abbrev SO := Ev → Bs → R (Option Int)
def soNone : SO := fun _ h => .ok none h
def soSome (s : SV) : SO := fun ρ h => (s ρ h).bind fun d h1 => match d with
  | .int i => .ok (some i) h1
  | _ => .no
def OutO (T : Tb) (W : WX) (σ : Sg) (μ : Mu) (H : Hp) (Q : Option Int → Hp → Prop) : R (Option Int) → Prop
  | .ok d h' => ∀ μ' H', Stp μ H μ' H' → Rel T μ' h' H' → Q d H'
  | .ex x h' => ∀ μ' H' cls d, Stp μ H μ' H' → Rel T μ' h' H' → RepX T μ' H' x cls d → W cls d σ H'
  | .no => False
def tO' (T : Tb) (W : WX) (s : SO) : TO := fun σ H Q => ∃ μ ρ h, Rel T μ h H ∧ RepE T μ H ρ σ ∧ OutO T W σ μ H Q (s ρ h)
theorem OutO.step {Q : Option Int → Hp → Prop} {r : R (Option Int)} (o : OutO T W σ μ H Q r) (s : Stp μ H μ' H') : OutO T W σ μ' H' Q r := by
  cases r with
  | ok d h => exact fun μ2 H2 s2 => o μ2 H2 (s.trans s2)
  | ex x h => exact fun μ2 H2 c d s2 => o μ2 H2 c d (s.trans s2)
  | no => exact o
theorem PO.imp {e : Option Expr} {t t' : TO} (h : PO X e t) (i : ∀ σ H Q, t' σ H Q → t σ H Q) : PO X e t' := ⟨fun pins s σ H Q I w => h.run pins s σ H Q I (i σ H Q w)⟩
theorem pov_none : PO X none (tO' T W soNone) := PO.imp po_none fun σ H Q ⟨μ, ρ, h, r, e, o⟩ => o μ H Stp.refl r
theorem pov_some {e : Expr} {s : SV} (he : PE X e (tV T W s)) : PO X (some e) (tO' T W (soSome s)) := PO.imp (po_some he) fun σ H Q ⟨μ, ρ, h, r, e, o⟩ => by
  refine ⟨μ, ρ, h, r, e, ?_⟩
  unfold soSome at o
  cases q : s ρ h with
  | no => rw [q] at o; exact o
  | ex x h1 => rw [q] at o; exact o
  | ok d h1 =>
    rw [q] at o
    simp only [R.bind] at o
    intro μ1 H1 v s1 r1 rv
    cases d with
    | int i =>
      simp only [Rep] at rv
      exact ⟨i, rv, o μ1 H1 s1 r1⟩
    | _ => exact o.elim
theorem OutV.bindO {Q : VK} {r : R (Option Int)} {f : Option Int → Bs → R D} (o : OutV T W σ μ H Q (r.bind f)) :
    OutO T W σ μ H (fun d H1 => ∃ μ1 h1, Stp μ H μ1 H1 ∧ Rel T μ1 h1 H1 ∧ OutV T W σ μ1 H1 Q (f d h1)) r := by
  cases r with
  | ok d h => exact fun μ1 H1 s r1 => ⟨μ1, h, s, r1, OutV.step o s⟩
  | ex x h => exact o
  | no => exact o
theorem OutO.mono {Q Q' : Option Int → Hp → Prop} {r : R (Option Int)} (o : OutO T W σ μ H Q r) (i : ∀ v H, Q v H → Q' v H) : OutO T W σ μ H Q' r := by
  cases r with
  | ok d h' => exact fun μ1 H1 s r1 => i _ _ (o μ1 H1 s r1)
  | ex x h => exact o
  | no => exact o
def cutD (xs : List D) (lo hi : Option Int) : List D := (xs.drop (HT.sIx xs.length 0 lo)).take (HT.sIx xs.length xs.length hi - HT.sIx xs.length 0 lo)
theorem Reps.cut {xs : List D} {vs : List V} {lo hi : Option Int} (q : Reps T μ H xs vs) : Reps T μ H (cutD xs lo hi) (cutV vs lo hi) := by
  unfold cutD cutV
  rw [← q.length]
  exact (q.drop _).take _
def slD (bx : Bool) (d : D) (lo hi : Option Int) (h : Bs) : R D := match d with
  | .tup xs => newT (cutD xs lo hi) h
  | .tpl xs => newP (cutD xs lo hi) h
  | _ => (match lstOf h d with
    | some xs => newL bx (cutD xs lo hi) h
    | none => .no)
theorem slD_calm {bx : Bool} {d : D} {lo hi : Option Int} : Calm (slD bx d lo hi h) := by
  unfold slD
  split
  · exact newT_calm
  · exact newP_calm
  · split
    · exact newL_calm
    · intro x h' z; cases z
def sSl (bx : Bool) (s : SV) (l u : SO) : SV := fun ρ h => (s ρ h).bind fun d h1 => (l ρ h1).bind fun lo h2 => (u ρ h2).bind fun hi h3 => slD bx d lo hi h3
theorem SlR.imp {r r' : V → Option Int → Option Int → Hp → VK → Prop} (h : SlR X r) (i : ∀ x lo hi H Q, r' x lo hi H Q → r x lo hi H Q) : SlR X r' :=
  fun pins s σ H x v vl vu lo hi sl Q I rx hs pl pu q => h pins s σ H x v vl vu lo hi sl Q I rx hs pl pu (i x lo hi H Q q)
def rSlD (T : Tb) (bx : Bool) : V → Option Int → Option Int → Hp → VK → Prop := fun x lo hi H Q => ∃ μ h d, Rel T μ h H ∧ Rep T μ H d x ∧ OutV T noW [] μ H Q (slD bx d lo hi h)
theorem ov_sl {bx : Bool} (hK : X.K = T.K) : SlR X (rSlD T bx) :=
  SlR.imp (sl_list.or (sl_tupA.or sl_tupP)) fun x lo hi H Q ⟨μ, h, d, r, rd, o⟩ => by
    unfold slD at o
    split at o
    · rename_i xs
      obtain ⟨a, vs, e1, e2, n1, e3⟩ := rd.tupOf
      have o' := newT_ok r e3.cut o
      refine .inr (.inl ⟨a, vs, e1, SqT.of e2, fun hw => ?_, fun _ => o'.2⟩)
      unfold newT at o
      rw [if_pos (by rw [e3.cut.length]; exact o'.1)] at o
      refine o μ H _ Stp.refl r ?_
      have ew : cutD xs lo hi = xs := by
        unfold cutD
        rw [e3.length, hw.1, hw.2]
        simp [← e3.length]
      rw [ew]
      simp only [Rep]
      exact ⟨a, vs, rfl, e2, n1, e3⟩
    · rename_i xs
      obtain ⟨a, oa, vs, e1, e2, c0, n1, e3⟩ := rd.tplOf
      have o' := newP_ok r e3.cut o
      refine .inr (.inr ⟨a, vs, e1, SqT.fz e2, fun hw => ?_, fun _ => o'.2⟩)
      unfold newP at o
      rw [if_pos (by rw [e3.cut.length]; exact o'.1)] at o
      refine o μ H _ Stp.refl r ?_
      have ew : cutD xs lo hi = xs := by
        unfold cutD
        rw [e3.length, hw.1, hw.2]
        simp [← e3.length]
      rw [ew]
      simp only [Rep]
      exact ⟨a, oa, vs, rfl, e2, c0, n1, e3⟩
    · split at o
      · rename_i xs hx
        obtain ⟨a, vs, e1, e2, e3⟩ := r.lstOf rd hx
        have o' := newL_ok r e3.cut o
        exact .inl ⟨a, vs, e1, by rw [hK]; exact e2, o'.2⟩
      · exact o.elim
theorem pv_sl {bx : Bool} {e : Expr} {lo hi : Option Expr} {p2 pos : Pos} {s : SV} {l u : SO} (hK : X.K = T.K) (he : PE X e (tV T W s)) (hl : PO X lo (tO' T W l)) (hu : PO X hi (tO' T W u)) : PE X (.Subscript e (.Slice lo hi none p2) pos) (tV T W (sSl bx s l u)) :=
  PE.imp (pe_slice (ov_sl (bx := bx) hK) he hl hu) fun σ H Q ⟨μ, ρ, h, r, e, o⟩ => by
    refine ⟨μ, ρ, h, r, e, OutV.mono (OutV.bind o) ?_⟩
    rintro v H1 ⟨μ1, d, h1, s1, r1, rv, o1⟩
    refine ⟨μ1, ρ, h1, r1, e.step s1, OutO.mono (OutV.bindO o1) ?_⟩
    rintro lo H2 ⟨μ2, h2, s2, r2, o2⟩
    refine ⟨μ2, ρ, h2, r2, (e.step s1).step s2, OutO.mono (OutV.bindO o2) ?_⟩
    rintro hi H3 ⟨μ3, h3, s3, r3, o3⟩
    exact ⟨μ3, h3, d, r3, Rep.step s3 _ _ (Rep.step s2 _ _ rv), o3.calm slD_calm⟩
def revD (bx : Bool) (d : D) (h : Bs) : R D := match lstOf h d with
  | some xs => newL bx xs.reverse h
  | none => .no
theorem Reps.reverse : ∀ {xs : List D} {vs : List V}, Reps T μ H xs vs → Reps T μ H xs.reverse vs.reverse
  | [], vs, q => by simp only [Reps] at q; subst q; simp [Reps]
  | x :: xs, vs, q => by
    simp only [Reps] at q
    obtain ⟨v, r, rfl, q1, q2⟩ := q
    rw [List.reverse_cons, List.reverse_cons]
    exact (Reps.reverse q2).append (.one q1)
theorem pv_rev {bx : Bool} {e : Expr} {k : Nat} {p1 p2 p3 pos : Pos} {s : SV} (hK : X.K = T.K) (he : PE X e (tV T W s)) : PE X (.Subscript e (.Slice none none (some (.UnaryOp .USub (.Constant (.int 1) k p1) p2)) p3) pos) (tV T W (sUn (revD bx) s)) :=
  PE.imp (pe_revL he) fun σ H Q ⟨μ, ρ, h, r, e, o⟩ => by
    refine ⟨μ, ρ, h, r, e, OutV.mono (OutV.bind o) ?_⟩
    rintro v H1 ⟨μ1, d, h1, s1, r1, rv, o1⟩
    unfold revD at o1
    split at o1
    · rename_i xs hx
      obtain ⟨a, vs, e1, e2, e3⟩ := r1.lstOf rv hx
      exact ⟨a, vs, e1, by rw [hK]; exact e2, (newL_ok r1 e3.reverse o1).2⟩
    · exact o1.elim
def negD (d : D) (h : Bs) : R D := match d with
  | .int i => .ok (.int (-i)) h
  | _ => .no
theorem UnR.imp {f : Value → Sem Value} {r r' : V → Hp → VK → Prop} (h : UnR X f r) (i : ∀ x H Q, r' x H Q → r x H Q) : UnR X f r' := fun pins s σ H x v Q I rx w => h pins s σ H x v Q I rx (i x H Q w)
theorem pv_neg {a : Expr} {pos : Pos} {s : SV} (ha : PE X a (tV T W s)) : PE X (.UnaryOp .USub a pos) (tV T W (sUn negD s)) :=
  PE.imp (pe_un un_neg ha) fun σ H Q ⟨μ, ρ, h, r, e, o⟩ => by
    refine ⟨μ, ρ, h, r, e, OutV.mono (OutV.bind o) ?_⟩
    rintro v H1 ⟨μ1, d, h1, s1, r1, rv, o1⟩
    unfold negD at o1
    split at o1
    · simp only [Rep] at rv
      exact ⟨_, rv, o1 μ1 H1 _ Stp.refl r1 (rep_int rfl)⟩
    · exact o1.elim
end
end VI
end
section
namespace VI
open PySem PySem.Spec PyProof.Rows L2
section
variable {X : Cx} {T : Tb} {W : WX} {μ μ' : Mu} {H H' : Hp} {h : Bs} {σ : Sg}
def rDn (T : Tb) (f : List D → Bs → R D) : List V → Hp → VK → Prop := fun xs H Q => ∃ μ h ds, Rel T μ h H ∧ Reps T μ H ds xs ∧ OutV T noW [] μ H Q (f ds h)
def sCall (f : List D → Bs → R D) (sa : SA) : SV := fun ρ h => (sa ρ h).bind f
theorem call_imp {f : List D → Bs → R D} {sa : SA} (cf : ∀ ds h, Calm (f ds h)) : ∀ σ H Q, tV T W (sCall f sa) σ H Q → tCB (rDn T f) (tA' T W sa) σ H Q := fun σ H Q ⟨μ, ρ, h, r, e, o⟩ => by
  refine ⟨μ, ρ, h, r, e, OutA.mono (OutV.bindA o) ?_⟩
  rintro v H1 ⟨μ1, d, h1, s1, r1, rv, o1⟩
  exact ⟨μ1, h1, d, r1, rv, o1.calm (cf _ _)⟩
def noStars (es : List Expr) : Bool := es.all fun e => !PySem.W.isStarred e
theorem back_no {pos : Pos} {env : Env} : ∀ {es : List Expr}, noStars es = true → (backTo pos (starEach es env)).any (·.1) = false
  | [], _ => rfl
  | e :: es, hs => by
    simp only [noStars, List.all_cons, Bool.and_eq_true, Bool.not_eq_true'] at hs
    rw [star_no hs.1]
    show (false || (backTo pos (starEach es env)).any (·.1)) = false
    rw [back_no (show noStars es = true from hs.2)]
    rfl
theorem pv_callB {x : Str} {id : String} {e : Expr} {es : List Expr} {p pos : Pos} {f : List D → Bs → R D} {sa : SA} (cf : ∀ ds h, Calm (f ds h)) (hc : CallR X (.builtin id) (rDn T f)) (hg : Gl X x) (hm : X.mg x = none) (hv : bootBuiltins x = some (.builtin id))
    (hn : x ≠ "__name__") (hdb : (x == ("__debug__" : Str)) = false) (hs : noStars (e :: es) = true) (ha : PA X (e :: es) (tA' T W sa)) : PE X (.Call (.Name x p) (e :: es) [] pos) (tV T W (sCall f sa)) := by
  simp only [noStars, List.all_cons, Bool.and_eq_true, Bool.not_eq_true'] at hs
  exact PE.imp (pe_callB hc hg hm hv ha hn hdb (star_no hs.1) (back_no (show noStars es = true from hs.2))) (call_imp cf)
theorem pv_callTy {x : Str} {id : String} {e : Expr} {es : List Expr} {p pos : Pos} {f : List D → Bs → R D} {sa : SA} (cf : ∀ ds h, Calm (f ds h)) (hc : CallR X (.type id) (rDn T f)) (hg : Gl X x) (hm : X.mg x = none) (hv : bootBuiltins x = some (.type id))
    (hn : x ≠ "__name__") (hdb : (x == ("__debug__" : Str)) = false) (hs : noStars (e :: es) = true) (ha : PA X (e :: es) (tA' T W sa)) : PE X (.Call (.Name x p) (e :: es) [] pos) (tV T W (sCall f sa)) := by
  simp only [noStars, List.all_cons, Bool.and_eq_true, Bool.not_eq_true'] at hs
  exact PE.imp (pe_callTy hc hg hm hv ha hn hdb (star_no hs.1) (back_no (show noStars es = true from hs.2))) (call_imp cf)
theorem CallR.imp {f : Value} {r r' : List V → Hp → VK → Prop} (h : CallR X f r) (i : ∀ xs H Q, r' xs H Q → r xs H Q) : CallR X f r' := fun pins s σ H xs us Q I rx w => h pins s σ H xs us Q I rx (i xs H Q w)
theorem Reps.is1 {d : D} {xs : List V} (q : Reps T μ H [d] xs) : ∃ v, xs = [v] ∧ Rep T μ H d v := by
  simp only [Reps] at q
  obtain ⟨v, r, rfl, q1, rfl⟩ := q
  exact ⟨v, rfl, q1⟩
theorem Reps.is2 {d e : D} {xs : List V} (q : Reps T μ H [d, e] xs) : ∃ v w, xs = [v, w] ∧ Rep T μ H d v ∧ Rep T μ H e w := by
  simp only [Reps] at q
  obtain ⟨v, r, rfl, q1, w, r2, rfl, q2, rfl⟩ := q
  exact ⟨v, w, rfl, q1, q2⟩
def lenD (ds : List D) (h : Bs) : R D := match ds with
  | [d] => (match seqOf h d with
    | some xs => .ok (.int xs.length) h
    | none => .no)
  | _ => .no
theorem lenD_calm {ds : List D} : Calm (lenD ds h) := by
  intro x h' z; unfold lenD at z
  split at z
  · split at z <;> cases z
  · cases z
theorem cv_len (hK : X.K = T.K) : CallR X (.builtin "len") (rDn T lenD) :=
  CallR.imp call_len_seq fun xs H Q ⟨μ, h, ds, r, rd, o⟩ => by
    unfold lenD at o
    split at o
    · obtain ⟨v, rfl, rv⟩ := rd.is1
      split at o
      · rename_i ys hy
        obtain ⟨a, vs, rfl, e2, e3⟩ := r.seqOf rv hy
        exact ⟨a, vs, rfl, by rw [hK]; exact e2.symm, o μ H _ Stp.refl r (rep_int (by rw [e3.length]))⟩
      · exact o.elim
    · exact o.elim
def intD (ds : List D) (h : Bs) : R D := match ds with
  | [.int i] => .ok (.int i) h
  | [.bl b] => .ok (.int (if b then 1 else 0)) h
  | _ => .no
theorem intD_calm {ds : List D} : Calm (intD ds h) := by
  intro x h' z; unfold intD at z; split at z <;> cases z
theorem cv_int : CallR X (.type "int") (rDn T intD) :=
  CallR.imp call_int1 fun xs H Q ⟨μ, h, ds, r, rd, o⟩ => by
    unfold intD at o
    split at o
    · obtain ⟨v, rfl, rv⟩ := rd.is1
      simp only [Rep] at rv
      subst rv
      exact .inl ⟨_, rfl, o μ H _ Stp.refl r (rep_int rfl)⟩
    · obtain ⟨v, rfl, rv⟩ := rd.is1
      simp only [Rep] at rv
      subst rv
      exact .inr ⟨_, rfl, o μ H _ Stp.refl r (rep_int rfl)⟩
    · exact o.elim
def intsD : List D → Option (List Int)
  | [] => some []
  | .int i :: xs => (match intsD xs with | some ns => some (i :: ns) | none => none)
  | _ :: _ => none
theorem intsD_eq : ∀ {xs : List D} {ns : List Int}, intsD xs = some ns → xs = ns.map .int
  | [], ns, e => by simp [intsD] at e; subst e; rfl
  | .int i :: xs, ns, e => by
    simp only [intsD] at e
    cases q : intsD xs with
    | none => rw [q] at e; cases e
    | some ms => rw [q] at e; cases e; rw [intsD_eq q]; rfl
  | .non :: _, _, e | .bl _ :: _, _, e | .str _ :: _, _, e | .tup _ :: _, _, e | .tpl _ :: _, _, e | .lst _ :: _, _, e | .dct _ _ :: _, _, e | .obj _ _ _ :: _, _, e | .exo _ _ _ :: _, _, e | .ref _ :: _, _, e | .scr _ :: _, _, e => by simp [intsD] at e
theorem intsD_map : ∀ ns : List Int, intsD (ns.map .int) = some ns
  | [] => rfl
  | n :: ns => by simp [intsD, intsD_map ns]
theorem Rel.ints (r : Rel T μ h H) {d : D} {v : V} {xs : List D} {ns : List Int} (q : Rep T μ H d v) (e : VI.seqOf h d = some xs) (e2 : intsD xs = some ns) : ∃ a, v = .ref a ∧ (SqT T.K H a (ns.map V.int) ∨ SqL T.K H a (ns.map V.int)) := by
  obtain ⟨a, vs, e1, e3, e4⟩ := r.seqOf q e
  rw [intsD_eq e2] at e4
  rw [e4.intsOf] at e3
  exact ⟨a, e1, e3⟩
theorem ints_alike (ns : List Int) : PySem.W.AlikeAll (ns.map .int) := by
  refine ⟨fun x hx y hy => ?_, fun x hx => ?_⟩
  · obtain ⟨i, _, rfl⟩ := List.mem_map.mp hx
    obtain ⟨j, _, rfl⟩ := List.mem_map.mp hy
    rfl
  · obtain ⟨i, _, rfl⟩ := List.mem_map.mp hx
    intro z; cases z
theorem ints_reads {pins : List (Addr × Obj)} {s : Shared} (I : Inv X pins σ H s) {ns : List Int} {us : List Value} (rv : Vals (ns.map V.int) us) : ∃ as, ReadsAll s.heap us (ns.map PyData.int) as :=
  Dp.readsAll I _ _ _ (ints_dp (T := ⟨X.K, fun _ => none, fun _ => default, 0, fun _ _ => none, fun _ => false, fun _ _ => false, fun _ => (0, ""), fun _ _ => false⟩) ns).1 rv
theorem reads_int {h : Heap} {v : Value} {i : Int} {bs : List Addr} (r : Reads h v (.int i) bs) : ∃ t, v = .int i t := by
  cases r; exact ⟨_, rfl⟩
theorem depth_ints : ∀ ns : List Int, PyData.depthAll (ns.map .int) = 0
  | [] => by simp [PyData.depthAll]
  | n :: ns => by simp [PyData.depthAll, PyData.depth, depth_ints ns]
def minFold (n : Int) (ns : List Int) : Int := ns.foldl min n
def maxFold (n : Int) (ns : List Int) : Int := ns.foldl max n
def mmD (f2 : Int → Int → Int) (ff : Int → List Int → Int) (ds : List D) (h : Bs) : R D := match ds with
  | [.int i, .int j] => .ok (.int (f2 i j)) h
  | [d] => (match seqOf h d with
    | some xs => (match intsD xs with
      | some (n :: ns) => .ok (.int (ff n ns)) h
      | _ => .no)
    | none => .no)
  | _ => .no
theorem mmD_calm {f2 : Int → Int → Int} {ff : Int → List Int → Int} {ds : List D} : Calm (mmD f2 ff ds h) := by
  intro x h' z; unfold mmD at z
  split at z
  · cases z
  · split at z
    · split at z <;> cases z
    · cases z
  · cases z
theorem cv_min (hK : X.K = T.K) (hc : X.calm = true) (hu : X.A.units + 1 < cLine) : CallR X (.builtin "min") (rDn T (mmD (fun i j => if j < i then j else i) minFold)) := by
  intro pins s σ H xs us Q I rx ⟨μ, h, ds, r, rd, o⟩
  unfold mmD at o
  split at o
  · obtain ⟨v, w, rfl, rv, rw'⟩ := rd.is2
    simp only [Rep] at rv rw'
    subst rv rw'
    exact call_min2 hc pins s σ H _ us Q I rx ⟨_, _, rfl, o μ H _ Stp.refl r (rep_int rfl)⟩
  · obtain ⟨v, rfl, rv⟩ := rd.is1
    split at o
    · rename_i ys hy
      split at o
      · rename_i n ns hn
        obtain ⟨a, rfl, e2⟩ := r.ints rv hy hn
        obtain rfl := Vals.ref1 rx
        have fin : ∀ (i : Nat) (v : Value) (h' : Heap) (tk : Nat) (bs : List Addr), Reads h' v (PySem.W.minD (.int n) (ns.map .int)) bs → (∀ b o, s.heap.get? b = some o → h'.get? b = some o) → EP X pins σ Q v { s with heap := h', toks := tk } := fun i v h' tk bs rr hk => by
          rw [PySem.W.minD_ints] at rr
          obtain ⟨t, rfl⟩ := reads_int rr
          exact ⟨.int _, H, I.kept (t' := tk) hk, ⟨_, rfl⟩, o μ H _ Stp.refl r (rep_int rfl)⟩
        rcases e2 with e2 | e2
        · obtain ⟨its, rv, ht, _⟩ := I.tuple (by rw [hK]; exact e2)
          obtain ⟨as, rr⟩ := ints_reads I rv
          exact PySem.W.min_tuple_data (I.ok.hd hc) ht (x := .int n) (xs := ns.map .int) rr (ints_alike (n :: ns)) (by rw [show PyData.depthAll (PyData.int n :: ns.map .int) = 0 from depth_ints (n :: ns)]; exact hu) fun i v h' tk bs _ => fin i v h' tk bs
        · obtain ⟨its, rv, ht, _⟩ := I.list (by rw [hK]; exact e2)
          obtain ⟨as, rr⟩ := ints_reads I rv
          exact PySem.W.min_list_data (I.ok.hd hc) ht.isList (x := .int n) (xs := ns.map .int) rr (ints_alike (n :: ns)) (by rw [show PyData.depthAll (PyData.int n :: ns.map .int) = 0 from depth_ints (n :: ns)]; exact hu) fun i v h' tk bs _ => fin i v h' tk bs
      · exact o.elim
    · exact o.elim
  · exact o.elim
theorem cv_max (hK : X.K = T.K) (hc : X.calm = true) (hu : X.A.units + 1 < cLine) : CallR X (.builtin "max") (rDn T (mmD (fun i j => if j > i then j else i) maxFold)) := by
  intro pins s σ H xs us Q I rx ⟨μ, h, ds, r, rd, o⟩
  unfold mmD at o
  split at o
  · obtain ⟨v, w, rfl, rv, rw'⟩ := rd.is2
    simp only [Rep] at rv rw'
    subst rv rw'
    exact call_max2 hc pins s σ H _ us Q I rx ⟨_, _, rfl, o μ H _ Stp.refl r (rep_int rfl)⟩
  · obtain ⟨v, rfl, rv⟩ := rd.is1
    split at o
    · rename_i ys hy
      split at o
      · rename_i n ns hn
        obtain ⟨a, rfl, e2⟩ := r.ints rv hy hn
        obtain rfl := Vals.ref1 rx
        have fin : ∀ (i : Nat) (v : Value) (h' : Heap) (tk : Nat) (bs : List Addr), Reads h' v (PySem.W.maxD (.int n) (ns.map .int)) bs → (∀ b o, s.heap.get? b = some o → h'.get? b = some o) → EP X pins σ Q v { s with heap := h', toks := tk } := fun i v h' tk bs rr hk => by
          rw [PySem.W.maxD_ints] at rr
          obtain ⟨t, rfl⟩ := reads_int rr
          exact ⟨.int _, H, I.kept (t' := tk) hk, ⟨_, rfl⟩, o μ H _ Stp.refl r (rep_int rfl)⟩
        rcases e2 with e2 | e2
        · obtain ⟨its, rv, ht, _⟩ := I.tuple (by rw [hK]; exact e2)
          obtain ⟨as, rr⟩ := ints_reads I rv
          exact PySem.W.max_tuple_data (I.ok.hd hc) ht (x := .int n) (xs := ns.map .int) rr (ints_alike (n :: ns)) (by rw [show PyData.depthAll (PyData.int n :: ns.map .int) = 0 from depth_ints (n :: ns)]; exact hu) fun i v h' tk bs _ => fin i v h' tk bs
        · obtain ⟨its, rv, ht, _⟩ := I.list (by rw [hK]; exact e2)
          obtain ⟨as, rr⟩ := ints_reads I rv
          exact PySem.W.max_list_data (I.ok.hd hc) ht.isList (x := .int n) (xs := ns.map .int) rr (ints_alike (n :: ns)) (by rw [show PyData.depthAll (PyData.int n :: ns.map .int) = 0 from depth_ints (n :: ns)]; exact hu) fun i v h' tk bs _ => fin i v h' tk bs
      · exact o.elim
    · exact o.elim
  · exact o.elim
def sumD (ds : List D) (h : Bs) : R D := match ds with
  | [d] => (match seqOf h d with
    | some xs => (match intsD xs with
      | some ns => .ok (.int ns.sum) h
      | _ => .no)
    | none => .no)
  | _ => .no
end
end VI
end
section
namespace VI
open PySem PySem.Spec PyProof.Rows L2
def F.bind (f : F) (g : Ev → Bs → F) : F := match f with
  | .nx ρ h => g ρ h
  | f => f
def R.toF {α : Type} (r : R α) (ρ : Ev) (k : α → Bs → F) : F := match r with
  | .ok a h => k a h
  | .ex x h => .ex x ρ h
  | .no => .no
section
variable {X : Cx} {T : Tb} {W : WX} {μ μ' : Mu} {H H' : Hp} {h : Bs} {σ : Sg} {ρ : Ev}
theorem OutS.mono {D D' : Ends} {f : F} (o : OutS T W μ H D f) (hn : ∀ σ H, D.nx σ H → D'.nx σ H) (hr : ∀ v H, D.rt v H → D'.rt v H) (hb : ∀ σ H, D.bk σ H → D'.bk σ H) (hc : ∀ σ H, D.ct σ H → D'.ct σ H) : OutS T W μ H D' f := by
  cases f with
  | nx ρ h => exact fun μ1 H1 σ1 a b c => hn _ _ (o μ1 H1 σ1 a b c)
  | bk ρ h => exact fun μ1 H1 σ1 a b c => hb _ _ (o μ1 H1 σ1 a b c)
  | ct ρ h => exact fun μ1 H1 σ1 a b c => hc _ _ (o μ1 H1 σ1 a b c)
  | rt d h => exact fun μ1 H1 σ1 a b c => hr _ _ (o μ1 H1 σ1 a b c)
  | ex x ρ h => exact o
  | no => exact o
theorem OutS.bind {D : Ends} {f : F} {g : Ev → Bs → F} (o : OutS T W μ H D (f.bind g)) :
    OutS T W μ H { D with nx := fun σ H1 => ∃ μ1 ρ1 h1, Stp μ H μ1 H1 ∧ Rel T μ1 h1 H1 ∧ RepE T μ1 H1 ρ1 σ ∧ OutS T W μ1 H1 D (g ρ1 h1) } f := by
  cases f with
  | nx ρ h => exact fun μ1 H1 σ1 a b c => ⟨μ1, ρ, h, a, b, c, OutS.step o a⟩
  | bk ρ h => exact o
  | ct ρ h => exact o
  | rt d h => exact o
  | ex x ρ h => exact o
  | no => exact o
theorem OutS.ofV {D : Ends} {r : R VI.D} {k : VI.D → Bs → F} (e : RepE T μ H ρ σ) (o : OutS T W μ H D (r.toF ρ k)) :
    OutV T W σ μ H (fun v H1 => ∃ μ1 d h1, Stp μ H μ1 H1 ∧ Rel T μ1 h1 H1 ∧ RepE T μ1 H1 ρ σ ∧ Rep T μ1 H1 d v ∧ OutS T W μ1 H1 D (k d h1)) r := by
  cases r with
  | ok d h => exact fun μ1 H1 v s r1 rv => ⟨μ1, d, h, s, r1, e.step s, rv, OutS.step o s⟩
  | ex x h => exact fun μ1 H1 c d s r1 rx => o μ1 H1 σ c d s r1 (e.step s) rx
  | no => exact o
theorem OutS.ofB {D : Ends} {r : R Bool} {k : Bool → Bs → F} (e : RepE T μ H ρ σ) (o : OutS T W μ H D (r.toF ρ k)) :
    OutB T W σ μ H (fun d H1 => ∃ μ1 h1, Stp μ H μ1 H1 ∧ Rel T μ1 h1 H1 ∧ RepE T μ1 H1 ρ σ ∧ OutS T W μ1 H1 D (k d h1)) r := by
  cases r with
  | ok d h => exact fun μ1 H1 s r1 => ⟨μ1, h, s, r1, e.step s, OutS.step o s⟩
  | ex x h => exact fun μ1 H1 c d s r1 rx => o μ1 H1 σ c d s r1 (e.step s) rx
  | no => exact o
def ssNil : SS := fun ρ h => .nx ρ h
def ssCons (s t : SS) : SS := fun ρ h => (s ρ h).bind t
theorem psv_nil : PSs X [] (tS' T W ssNil) := PSs.imp pss_nil fun D σ H ⟨μ, ρ, h, r, e, o⟩ => o μ H σ Stp.refl r e
theorem psv_cons {st : Stmt} {rest : List Stmt} {s t : SS} (h1 : PS X st (tS' T W s)) (h2 : PSs X rest (tS' T W t)) : PSs X (st :: rest) (tS' T W (ssCons s t)) :=
  PSs.imp (pss_cons h1 h2) fun D σ H ⟨μ, ρ, h, r, e, o⟩ => by
    refine ⟨μ, ρ, h, r, e, OutS.mono (OutS.bind o) (fun σ1 H1 ⟨μ1, ρ1, h1, _, r1, e1, o1⟩ => ⟨μ1, ρ1, h1, r1, e1, o1⟩) (fun _ _ z => z) (fun _ _ z => z) (fun _ _ z => z)⟩
variable {pos : Pos} {a b c : Expr} {sa sb sc : SV}
def ssExpr (s : SV) : SS := fun ρ h => (s ρ h).toF ρ fun _ h1 => .nx ρ h1
def isComp : Expr → Bool
  | .ListComp .. => true
  | .SetComp .. => true
  | .DictComp .. => true
  | _ => false
theorem sw_no {e : Expr} {t : Option Expr} {l : Nat} {env : Env} (hc : isComp e = false) : swapsWith e t l env = pure false := by
  cases e <;> first | rfl | (exact Bool.noConfusion hc)
theorem psv_expr (hc : isComp a = false) (ha : PE X a (tV T W sa)) : PS X (.Expr a pos) (tS' T W (ssExpr sa)) :=
  PS.imp (ps_expr ha (sw_no hc)) fun D σ H ⟨μ, ρ, h, r, e, o⟩ => by
    refine ⟨μ, ρ, h, r, e, OutV.mono (OutS.ofV e o) ?_⟩
    rintro v H1 ⟨μ1, d, h1, s1, r1, e1, rv, o1⟩
    exact o1 μ1 H1 σ Stp.refl r1 e1
def ssRet (s : SV) : SS := fun ρ h => (s ρ h).toF ρ fun d h1 => .rt d h1
theorem psv_ret (ha : PE X a (tV T W sa)) : PS X (.Return (some a) pos) (tS' T W (ssRet sa)) :=
  PS.imp (ps_ret ha) fun D σ H ⟨μ, ρ, h, r, e, o⟩ => by
    refine ⟨μ, ρ, h, r, e, OutV.mono (OutS.ofV e o) ?_⟩
    rintro v H1 ⟨μ1, d, h1, s1, r1, e1, rv, o1⟩
    exact o1 μ1 H1 v Stp.refl r1 rv
def ssIf (s : SV) (t u : SS) : SS := fun ρ h => (sTru s ρ h).toF ρ fun b h1 => if b then t ρ h1 else u ρ h1
theorem psv_if {x y : List Stmt} {t u : SS} (hc : PT X c (tB' T W (sTru sc))) (hx : PSs X x (tS' T W t)) (hy : PSs X y (tS' T W u)) : PS X (.If c x y pos) (tS' T W (ssIf sc t u)) :=
  PS.imp (ps_if hc hx hy) fun D σ H ⟨μ, ρ, h, r, e, o⟩ => by
    refine ⟨μ, ρ, h, r, e, OutB.mono (OutS.ofB e o) ?_⟩
    rintro b H1 ⟨μ1, h1, s1, r1, e1, o1⟩
    cases b with
    | true => exact ⟨μ1, ρ, h1, r1, e1, o1⟩
    | false => exact ⟨μ1, ρ, h1, r1, e1, o1⟩
abbrev SG := VI.D → Ev → Bs → R Ev
abbrev SGs := List VI.D → Ev → Bs → R Ev
def OutG (T : Tb) (own : List Nat) (σ : Sg) (μ : Mu) (H : Hp) (Q : Sg → Hp → Prop) : R Ev → Prop
  | .ok ρ h' => ∀ μ' H' σ', Stp μ H μ' H' → Rel T μ' h' H' → RepE T μ' H' ρ σ' → wipe σ' own = wipe σ own → Q σ' H'
  | _ => False
def tG' (T : Tb) (own : List Nat) (s : SG) : TG := fun v σ H Q => ∃ μ ρ h d, Rel T μ h H ∧ RepE T μ H ρ σ ∧ Rep T μ H d v ∧ OutG T own σ μ H Q (s d ρ h)
def tGs' (T : Tb) (own : List Nat) (s : SGs) : TGs := fun vs σ H Q => ∃ μ ρ h ds, Rel T μ h H ∧ RepE T μ H ρ σ ∧ Reps T μ H ds vs ∧ OutG T own σ μ H Q (s ds ρ h)
variable {own : List Nat}
theorem OutG.step {Q : Sg → Hp → Prop} {r : R Ev} (o : OutG T own σ μ H Q r) (s : Stp μ H μ' H') : OutG T own σ μ' H' Q r := by
  cases r with
  | ok ρ h => exact fun μ2 H2 σ2 s2 => o μ2 H2 σ2 (s.trans s2)
  | ex x h => exact o
  | no => exact o
theorem OutG.mono {Q Q' : Sg → Hp → Prop} {r : R Ev} (o : OutG T own σ μ H Q r) (i : ∀ σ H, Q σ H → Q' σ H) : OutG T own σ μ H Q' r := by
  cases r with
  | ok ρ h => exact fun μ2 H2 σ2 a b c d => i _ _ (o μ2 H2 σ2 a b c d)
  | ex x h => exact o
  | no => exact o
theorem OutG.sig {Q : Sg → Hp → Prop} {r : R Ev} {σ1 : Sg} (o : OutG T own σ μ H Q r) (e : wipe σ1 own = wipe σ own) : OutG T own σ1 μ H Q r := by
  cases r with
  | ok ρ h => exact fun μ2 H2 σ2 a b c d => o μ2 H2 σ2 a b c (d.trans e)
  | ex x h => exact o
  | no => exact o
theorem OutG.bind {Q : Sg → Hp → Prop} {r : R Ev} {g : Ev → Bs → R Ev} (o : OutG T own σ μ H Q (r.bind g)) :
    OutG T own σ μ H (fun σ1 H1 => ∃ μ1 ρ1 h1, Stp μ H μ1 H1 ∧ Rel T μ1 h1 H1 ∧ RepE T μ1 H1 ρ1 σ1 ∧ OutG T own σ1 μ1 H1 Q (g ρ1 h1)) r := by
  cases r with
  | ok ρ h => exact fun μ1 H1 σ1 a b c d => ⟨μ1, ρ, h, a, b, c, (OutG.step o a).sig d⟩
  | ex x h => exact o
  | no => exact o
theorem OutG.ofV {Q : Sg → Hp → Prop} {r : R VI.D} {k : VI.D → Bs → R Ev} (e : RepE T μ H ρ σ) (o : OutG T own σ μ H Q (r.bind k)) :
    OutV T W σ μ H (fun v H1 => ∃ μ1 d h1, Stp μ H μ1 H1 ∧ Rel T μ1 h1 H1 ∧ RepE T μ1 H1 ρ σ ∧ Rep T μ1 H1 d v ∧ OutG T own σ μ1 H1 Q (k d h1)) r := by
  cases r with
  | ok d h => exact fun μ1 H1 v s r1 rv => ⟨μ1, d, h, s, r1, e.step s, rv, OutG.step o s⟩
  | ex x h => exact o.elim
  | no => exact o
theorem wipe_set {i : Nat} {v : Option V} : ∀ {own : List Nat} {σ : Sg}, i ∈ own → wipe (σ.set i v) own = wipe σ own
  | o :: os, σ, h => by
    unfold wipe
    by_cases hi : i ∈ os
    · rw [wipe_set hi]
    · have e : i = o := by
        rcases List.mem_cons.mp h with z | z
        · exact z
        · exact absurd z hi
      subst e
      have key : ∀ (os : List Nat), i ∉ os → wipe (σ.set i v) os = (wipe σ os).set i v := by
        intro os
        induction os with
        | nil => intro _; rfl
        | cons o os ih =>
          intro hn
          unfold wipe
          rw [ih (fun z => hn (List.mem_cons_of_mem _ z)), List.set_comm]
          exact fun z => hn (by rw [z]; exact List.mem_cons_self)
      rw [key os hi, List.set_set]
theorem PG.imp {t t' : TG} (h : PG X a t) (i : ∀ v σ H Q, t' v σ H Q → t v σ H Q) : PG X a t' := ⟨fun pins s σ H v u Q I r w => h.run pins s σ H v u Q I r (i v σ H Q w)⟩
theorem PGs.imp {es : List Expr} {t t' : TGs} (h : PGs X es t) (i : ∀ v σ H Q, t' v σ H Q → t v σ H Q) : PGs X es t' := ⟨fun pins s σ H v u Q I r w => h.run pins s σ H v u Q I r (i v σ H Q w)⟩
def sgName (i : Nat) : SG := fun d ρ h => .ok (ρ.set i (some d)) h
theorem pgv_name {i : Nat} {x : Str} (hN : X.N.Nodup) (hi : X.N[i]? = some x) (hx : Loc X.env.scope x) (hf : X.fn x = true ∨ X.env.scope.names.lookup x = some .local) (ho : i ∈ own) : PG X (.Name x pos) (tG' T own (sgName i)) :=
  PG.imp (pg_name hN hi hx hf) fun v σ H Q ⟨μ, ρ, h, d, r, e, rv, o⟩ => o μ H _ Stp.refl r (e.set rv) (wipe_set ho)
def sgNil : SGs := fun ds ρ h => match ds with
  | [] => .ok ρ h
  | _ => .no
def sgCons (s : SG) (t : SGs) : SGs := fun ds ρ h => match ds with
  | d :: r => (s d ρ h).bind (t r)
  | [] => .no
theorem pgsv_nil : PGs X [] (tGs' T own sgNil) := PGs.imp pgs_nil fun v σ H Q ⟨μ, ρ, h, ds, r, e, rv, o⟩ => by
  cases ds with
  | nil => simp only [Reps] at rv; exact ⟨rv, o μ H σ Stp.refl r e rfl⟩
  | cons _ _ => exact o.elim
def noStarT : Expr → Bool
  | .Starred .. => false
  | _ => true
theorem asg_one {e : Expr} {es : List Expr} {env : Env} (hs : noStarT e = true) : (assignEach (e :: es) env).map (·.2) = assign e env :: (assignEach es env).map (·.2) := by
  cases e <;> first | rfl | (exact Bool.noConfusion hs)
theorem pgsv_cons {es : List Expr} {s : SG} {t : SGs} (hs : noStarT a = true) (h1 : PG X a (tG' T own s)) (h2 : PGs X es (tGs' T own t)) : PGs X (a :: es) (tGs' T own (sgCons s t)) :=
  PGs.imp (pgs_cons h1 h2 (asg_one hs)) fun v σ H Q ⟨μ, ρ, h, ds, r, e, rv, o⟩ => by
    cases ds with
    | nil => exact o.elim
    | cons d ds =>
      simp only [Reps] at rv
      obtain ⟨w, vr, rfl, q1, q2⟩ := rv
      refine ⟨w, vr, rfl, μ, ρ, h, d, r, e, q1, OutG.mono (OutG.bind o) (fun σ1 H1 ⟨μ1, ρ1, h1, s1, r1, e1, o1⟩ => ?_)⟩
      exact ⟨μ1, ρ1, h1, ds, r1, e1, Reps.step s1 _ _ q2, o1⟩
def sgTup (n : Nat) (t : SGs) : SG := fun d ρ h => match d with
  | .tup xs => if xs.length = n then t xs ρ h else .no
  | .tpl xs => if xs.length = n then t xs ρ h else .no
  | _ => .no
def noStarTs (es : List Expr) : Bool := es.all noStarT
theorem asg_len {env : Env} : ∀ {es : List Expr}, noStarTs es = true → (assignEach es env).length = es.length ∧ (assignEach es env).findIdx? (·.1) = none
  | [], _ => ⟨rfl, rfl⟩
  | e :: es, hs => by
    simp only [noStarTs, List.all_cons, Bool.and_eq_true] at hs
    obtain ⟨h1, h2⟩ := asg_len (env := env) (show noStarTs es = true from hs.2)
    have e1 : assignEach (e :: es) env = (false, assign e env) :: assignEach es env := by
      have := hs.1
      cases e <;> first | rfl | (exact Bool.noConfusion this)
    rw [e1]
    refine ⟨by simp [h1], ?_⟩
    rw [List.findIdx?_cons]
    simp [h2]
theorem pgv_tup {es : List Expr} {k : Nat} {t : SGs} (hc : X.calm = true) (hs : noStarTs es = true) (h : PGs X es (tGs' T own t)) : PG X (.Tuple es k pos) (tG' T own (sgTup es.length t)) :=
  PG.imp (pg_tup (n := es.length) hc h (asg_len hs).1 (asg_len hs).2) fun v σ H Q ⟨μ, ρ, h, d, r, e, rv, o⟩ => by
    cases d with
    | tup xs =>
      unfold sgTup at o
      simp only at o
      split at o
      · rename_i hl
        obtain ⟨a, vs, e1, e2, _, e3⟩ := rv.tupOf
        exact ⟨a, vs, e1, SqT.of e2, by rw [← e3.length]; exact hl, μ, ρ, h, xs, r, e, e3, o⟩
      · exact o.elim
    | tpl xs =>
      unfold sgTup at o
      simp only at o
      split at o
      · rename_i hl
        obtain ⟨a, ob, vs, e1, e2, _, _, e3⟩ := rv.tplOf
        exact ⟨a, vs, e1, SqT.fz e2, by rw [← e3.length]; exact hl, μ, ρ, h, xs, r, e, e3, o⟩
      · exact o.elim
    | _ => exact o.elim
def okW (h : Bs) (b : Nat) (d : VI.D) : Bool := match h.fbs with
  | [] => true
  | k :: _ => decide (k ≤ b) || noR d
theorem okW_bel (r : Rel T μ h H) {b : Nat} {d : VI.D} (e : okW h b d = true) : ∀ k ∈ h.fbs, b < k → bel k d := by
  intro k hk hb
  unfold okW at e
  have o := r.ord
  cases q : h.fbs with
  | nil => rw [q] at hk; cases hk
  | cons k0 ks =>
    rw [q] at hk e o
    simp only [Bool.or_eq_true, decide_eq_true_eq] at e
    rcases e with e | e
    · exfalso
      rcases List.mem_cons.mp hk with z | z
      · subst z; omega
      · have : k0 ≥ k := (List.pairwise_cons.mp o).1 k z
        omega
    · exact noR.bel d e
theorem bels_append {k : Nat} : ∀ {xs ys : List VI.D}, bels k xs → bels k ys → bels k (xs ++ ys)
  | [], _, _, h => h
  | x :: xs, ys, h, h2 => by simp only [bels] at h; simp only [List.cons_append, bels]; exact ⟨h.1, bels_append h.2 h2⟩
def putL (b : Nat) (xs : List VI.D) (h : Bs) : Bs := { h with bs := h.bs.set b (.lst false xs) }
theorem Rel.putL (r : Rel T μ h H) {b : Nat} {a : Addr} {xs ys : List VI.D} {vs : List V} (hb : h.bs[b]? = some (.lst false xs)) (ha : μ.ad[b]? = some a) (q : Reps T μ H ys vs) (hw : ∀ k ∈ h.fbs, b < k → bels k xs → bels k ys) :
    Rel T μ (VI.putL b ys h) (upd H a (.lst vs)) ∧ Stp μ H μ (upd H a (.lst vs)) := by
  have hlk : ∀ z, h.bs[b]? = some z → lkd z = false := fun z e => by rw [hb] at e; cases e; rfl
  have st : Stp μ H μ (upd H a (.lst vs)) := Stp.put (List.mem_of_getElem? ha) (r.free ha hlk)
  exact ⟨r.put ha hlk rfl ⟨vs, upd_same, Reps.step st _ _ q⟩ fun k hk hb' => hw k hk hb' (r.wf k hk b _ hb' hb), st⟩
theorem Rel.boxAt (r : Rel T μ h H) {b : Nat} {v : V} {lk : Bool} {xs : List VI.D} (hb : h.bs[b]? = some (.lst lk xs)) (q : Rep T μ H (.ref b) v) : ∃ a vs, μ.ad[b]? = some a ∧ v = .ref a ∧ H a = some (.lst vs) ∧ Reps T μ H xs vs := by
  simp only [Rep] at q
  obtain ⟨a, e1, e2⟩ := q
  obtain ⟨vs, e3, q⟩ := r.at_ _ _ a hb e1
  exact ⟨a, vs, e1, e2, e3, q⟩
def setD (o i v : VI.D) (h : Bs) : R VI.D := match o, i with
  | .ref b, .int k => (match h.bs[b]? with
    | some (.lst false xs) => (match ixN xs.length k with
      | some j => if okW h b v then .ok .non (putL b (xs.set j v) h) else .no
      | none => .no)
    | _ => .no)
  | _, _ => .no
theorem PSet.imp {t t' : TSet} (h : PSet X t) (i : ∀ o j v H Q, t' o j v H Q → t o j v H Q) : PSet X t' := fun pins s σ H o j v ov iv u Q I r1 r2 r3 w => h pins s σ H o j v ov iv u Q I r1 r2 r3 (i o j v H Q w)
def sgSub (so si : SV) : SG := fun d ρ h => (so ρ h).bind fun o h1 => (si ρ h1).bind fun i h2 => (setD o i d h2).bind fun _ h3 => .ok ρ h3
def R.toF' (r : R Ev) : F := match r with
  | .ok ρ h => .nx ρ h
  | _ => .no
def ssAsg (s : SV) (g : SG) : SS := fun ρ h => (s ρ h).toF ρ fun d h1 => (g d ρ h1).toF'
theorem OutS.toG {D : Ends} {r : R Ev} (o : OutS T W μ H D r.toF') : OutG T own σ μ H D.nx r := by
  cases r with
  | ok ρ h => exact fun μ1 H1 σ1 a b c _ => o μ1 H1 σ1 a b c
  | ex x h => exact o
  | no => exact o
theorem asg_imp {g : SG} : ∀ D σ H, tS' T W (ssAsg sa g) D σ H → tAsg (tV T W sa) (tG' T own g) D σ H := fun D σ H ⟨μ, ρ, h, r, e, o⟩ => by
  refine ⟨μ, ρ, h, r, e, OutV.mono (OutS.ofV e o) ?_⟩
  rintro v H1 ⟨μ1, d, h1, s1, r1, e1, rv, o1⟩
  exact ⟨μ1, ρ, h1, d, r1, e1, rv, OutS.toG o1⟩
theorem asgN_imp {i : Nat} : ∀ D σ H, tS' T W (ssAsg sa (sgName i)) D σ H → tAsg (tV T W sa) (gName i) D σ H := fun D σ H ⟨μ, ρ, h, r, e, o⟩ => by
  refine ⟨μ, ρ, h, r, e, OutV.mono (OutS.ofV e o) ?_⟩
  rintro v H1 ⟨μ1, d, h1, s1, r1, e1, rv, o1⟩
  exact o1 μ1 H1 _ Stp.refl r1 (e1.set rv)
theorem psv_set {i : Nat} {x : Str} {pos' : Pos} (hN : X.N.Nodup) (hi : X.N[i]? = some x) (hx : Loc X.env.scope x) (hf : X.fn x = true ∨ X.env.scope.names.lookup x = some .local) (hc : isComp a = false) (ha : PE X a (tV T W sa)) :
    PS X (.Assign [.Name x pos'] a pos) (tS' T W (ssAsg sa (sgName i))) := PS.imp (ps_set hN hi hx ha (sw_no hc) hf) asgN_imp
theorem psv_asg {tg : Expr} {g : SG} (hc : isComp a = false) (hw : swappedStores [tg] a X.env = pure none) (hs : noStarT tg = true) (ha : PE X a (tV T W sa)) (hg : PG X tg (tG' T own g)) : PS X (.Assign [tg] a pos) (tS' T W (ssAsg sa g)) :=
  PS.imp (ps_asg ha hg (sw_no hc) hw (asg_one hs)) asg_imp
end
end VI
end
section
namespace VI
open PySem PySem.Spec PyProof.Rows L2
def lockB (b : Nat) (h : Bs) : Bs := match h.bs[b]? with
  | some (.lst _ xs) => { h with bs := h.bs.set b (.lst true xs) }
  | _ => h
def unlB (b : Nat) (h : Bs) : Bs := match h.bs[b]? with
  | some (.lst _ xs) => { h with bs := h.bs.set b (.lst false xs) }
  | _ => h
def lockO (l : Option Nat) (h : Bs) : Bs := match l with
  | some b => lockB b h
  | none => h
def unlO (l : Option Nat) (h : Bs) : Bs := match l with
  | some b => unlB b h
  | none => h
def unlF (l : Option Nat) (f : F) : F := match f with
  | .nx ρ h => .nx ρ (unlO l h)
  | .bk ρ h => .bk ρ (unlO l h)
  | .ct ρ h => .ct ρ (unlO l h)
  | .rt d h => .rt d (unlO l h)
  | .ex x ρ h => .ex x ρ (unlO l h)
  | .no => .no
def unlR {α : Type} (l : Option Nat) (r : R α) : R α := match r with
  | .ok a h => .ok a (unlO l h)
  | .ex x h => .ex x (unlO l h)
  | .no => .no
section
variable {X : Cx} {T : Tb} {W : WX} {μ μ' : Mu} {H H' : Hp} {h : Bs} {σ : Sg} {ρ : Ev}
mutual
theorem Rep.ad (e : μ'.ad = μ.ad) (ep : μ'.pr = μ.pr) : ∀ (d : D) (v : V), Rep T μ H d v → Rep T μ' H d v
  | .non, v, q => by simpa only [Rep] using q
  | .bl b, v, q => by simpa only [Rep] using q
  | .int b, v, q => by simpa only [Rep] using q
  | .str b, v, q => by simpa only [Rep] using q
  | .tup xs, v, q => by
    simp only [Rep] at q ⊢
    obtain ⟨a, vs, e1, e2, e3, e4⟩ := q
    exact ⟨a, vs, e1, e2, ⟨by rw [e]; exact e3.1, by rw [ep]; exact e3.2⟩, Reps.ad e ep xs vs e4⟩
  | .tpl xs, v, q => by
    simp only [Rep] at q ⊢
    obtain ⟨a, o, vs, e1, e2, c, e3, e4⟩ := q
    exact ⟨a, o, vs, e1, e2, c, ⟨by rw [e]; exact e3.1, by rw [ep]; exact e3.2⟩, Reps.ad e ep xs vs e4⟩
  | .lst xs, v, q => by
    simp only [Rep] at q ⊢
    obtain ⟨a, vs, e1, e2, e3, e4⟩ := q
    exact ⟨a, vs, e1, e2, ⟨by rw [e]; exact e3.1, by rw [ep]; exact e3.2⟩, Reps.ad e ep xs vs e4⟩
  | .dct ks xs, v, q => by
    simp only [Rep] at q ⊢
    obtain ⟨a, o, vs, e1, e2, e3, e4, e5⟩ := q
    exact ⟨a, o, vs, e1, e2, ⟨by rw [e]; exact e3.1, by rw [ep]; exact e3.2⟩, e4, Reps.ad e ep xs vs e5⟩
  | .obj c fs xs, v, q => by
    simp only [Rep] at q ⊢
    obtain ⟨a, C, dx, vs, e1, e2, e3, e4, e5, e6⟩ := q
    exact ⟨a, C, dx, vs, e1, e2, e3, ⟨by rw [e]; exact e4.1, by rw [ep]; exact e4.2⟩, e5, Reps.ad e ep xs vs e6⟩
  | .exo c fs xs, v, q => by
    simp only [Rep] at q ⊢
    obtain ⟨a, C, o, us, vs, e1, e2, e3, eo, n, x, l, r⟩ := q
    exact ⟨a, C, o, us, vs, e1, e2, e3, eo, ⟨by rw [e]; exact n.1, by rw [ep]; exact n.2⟩, x.imp fun dx u z m => ⟨z, by rw [e]; exact m.1, by rw [ep]; exact m.2⟩, l, Reps.ad e ep xs vs r⟩
  | .ref b, v, q => by simp only [Rep] at q ⊢; rw [e]; exact q
  | .scr ns, v, q => by
    simp only [Rep] at q ⊢
    obtain ⟨a, e1, e2⟩ := q
    refine ⟨a, e1, ?_⟩
    rcases e2 with ⟨z1, z2⟩ | z
    · exact .inl ⟨z1, by rw [e]; exact z2.1, by rw [ep]; exact z2.2⟩
    · exact .inr z
theorem Reps.ad (e : μ'.ad = μ.ad) (ep : μ'.pr = μ.pr) : ∀ (d : List D) (v : List V), Reps T μ H d v → Reps T μ' H d v
  | [], v, q => by simpa only [Reps] using q
  | x :: xs, v, q => by
    simp only [Reps] at q ⊢
    obtain ⟨w, r, e1, q1, q2⟩ := q
    exact ⟨w, r, e1, Rep.ad e ep x w q1, Reps.ad e ep xs r q2⟩
end
theorem RepB.ad (e : μ'.ad = μ.ad) (ep : μ'.pr = μ.pr) {b : Bx} {a : Addr} (q : RepB T μ H b a) : RepB T μ' H b a := by
  cases b with
  | lst lk xs => obtain ⟨vs, e1, q⟩ := q; exact ⟨vs, e1, Reps.ad e ep _ _ q⟩
  | dct lk ks xs => obtain ⟨vs, e1, e2, q⟩ := q; exact ⟨vs, e1, e2, Reps.ad e ep _ _ q⟩
  | dfz ks xs => obtain ⟨o, vs, e1, e2, q⟩ := q; exact ⟨o, vs, e1, e2, Reps.ad e ep _ _ q⟩
  | obj c fs xs => obtain ⟨C, dx, vs, e1, e2, e3, q⟩ := q; exact ⟨C, dx, vs, e1, e2, e3, Reps.ad e ep _ _ q⟩
  | tbl t => obtain ⟨a1, ps, e1, e2, e3⟩ := q; exact ⟨a1, ps, e1, e2, fun pos cv q => by obtain ⟨c, f1, f2, f3⟩ := e3 pos cv q; exact ⟨c, f1, f2, by rw [e]; exact f3.1, by rw [ep]; exact f3.2⟩⟩
theorem RepE.ad (e : μ'.ad = μ.ad) (ep : μ'.pr = μ.pr) (q : RepE T μ H ρ σ) : RepE T μ' H ρ σ := ⟨q.1, fun i d z => by
  obtain ⟨v, e1, q⟩ := q.2 i d z
  exact ⟨v, e1, Rep.ad e ep _ _ q⟩⟩
theorem RepX.ad (e : μ'.ad = μ.ad) (ep : μ'.pr = μ.pr) {x : Ex} {cls : Value} {d : Option Addr} (q : RepX T μ H x cls d) : RepX T μ' H x cls d := by
  obtain ⟨C, e1, e2, q⟩ := q
  refine ⟨C, e1, e2, ?_⟩
  rcases q with q | ⟨dx, vs, e3, e4, e5, e6, q⟩
  · exact .inl q
  · exact .inr ⟨dx, vs, e3, e4, ⟨by rw [e]; exact e5.1, by rw [ep]; exact e5.2⟩, e6, Reps.ad e ep _ _ q⟩
theorem Rel.flag (r : Rel T μ h H) {b : Nat} {lk lk' : Bool} {xs : List D} (hb : h.bs[b]? = some (.lst lk xs)) (e : μ'.ad = μ.ad) (ep : μ'.pr = μ.pr) (ef : μ'.fb = μ.fb)
    (hl : ∀ a ∈ μ'.lk, ∃ (c : Nat) (y : Bx), μ'.ad[c]? = some a ∧ (h.bs.set b (.lst lk' xs))[c]? = some y ∧ lkd y = true) (hf : ∀ (c : Nat) (y : Bx) (a : Addr), (h.bs.set b (.lst lk' xs))[c]? = some y → lkd y = true → μ'.ad[c]? = some a → a ∈ μ'.lk) : Rel T μ' { h with bs := h.bs.set b (.lst lk' xs) } H := by
  have hlt : b < h.bs.length := (List.getElem?_eq_some_iff.mp hb).1
  refine ⟨r.fb.trans ef.symm, fun a ha => by rw [ep] at ha; rw [e]; exact r.prh a ha, hl, hf, by rw [e]; simp [r.len], by rw [e]; exact r.nd, fun i b' a e1 e2 => ?_, fun k hk => by simpa using r.lo k hk, r.ord, fun k hk i b' hi e1 => ?_⟩
  · have e1 : (h.bs.set b (.lst lk' xs))[i]? = some b' := e1
    rw [e] at e2
    by_cases hi : b = i
    · subst hi
      rw [List.getElem?_set_self hlt] at e1
      cases e1
      exact (r.at_ b _ a hb e2).ad e ep
    · rw [List.getElem?_set_ne hi] at e1
      exact (r.at_ i b' a e1 e2).ad e ep
  · have e1 : (h.bs.set b (.lst lk' xs))[i]? = some b' := e1
    by_cases hi' : b = i
    · subst hi'
      rw [List.getElem?_set_self hlt] at e1
      cases e1
      exact (r.wf k hk b _ hi hb : belB k (.lst lk xs))
    · rw [List.getElem?_set_ne hi'] at e1
      exact r.wf k hk i b' hi e1
def lockMu (μ : Mu) : Option Nat → Mu
  | some b => (match μ.ad[b]? with
    | some a => { μ with lk := a :: μ.lk }
    | none => μ)
  | none => μ
theorem lockMu_ad {l : Option Nat} : (lockMu μ l).ad = μ.ad := by
  cases l with
  | none => rfl
  | some b => simp only [lockMu]; split <;> rfl
theorem lockMu_pr {l : Option Nat} : (lockMu μ l).pr = μ.pr := by
  cases l with
  | none => rfl
  | some b => simp only [lockMu]; split <;> rfl
theorem Rel.lock (r : Rel T μ h H) (l : Option Nat) (hl : ∀ b, l = some b → ∃ lk xs, h.bs[b]? = some (.lst lk xs)) : Rel T (lockMu μ l) (lockO l h) H := by
  cases l with
  | none => exact r
  | some b =>
    obtain ⟨lk, xs, hb⟩ := hl b rfl
    have hlt : b < h.bs.length := (List.getElem?_eq_some_iff.mp hb).1
    have ha : ∃ a, μ.ad[b]? = some a := ⟨_, List.getElem?_eq_getElem (by rw [r.len]; exact hlt)⟩
    obtain ⟨a, ha⟩ := ha
    have em : lockMu μ (some b) = { μ with lk := a :: μ.lk } := by simp only [lockMu, ha]
    have eh : lockO (some b) h = { h with bs := h.bs.set b (.lst true xs) } := by simp only [lockO, lockB, hb]
    rw [em, eh]
    refine r.flag hb rfl rfl rfl (fun a' ha' => ?_) (fun c ys a' f1 f1l f2 => ?_)
    rcases List.mem_cons.mp ha' with z | z
    · subst z
      exact ⟨b, _, ha, List.getElem?_set_self hlt, rfl⟩
    · obtain ⟨c, ys, e1, e2, e2l⟩ := r.lks a' z
      by_cases hc : b = c
      · subst hc
        exact ⟨b, _, e1, List.getElem?_set_self hlt, rfl⟩
      · exact ⟨c, ys, e1, by rw [List.getElem?_set_ne hc]; exact e2, e2l⟩
    · have f2' : μ.ad[c]? = some a' := f2
      by_cases hc : b = c
      · subst hc
        rw [ha] at f2'
        cases f2'
        exact List.mem_cons_self
      · rw [List.getElem?_set_ne hc] at f1
        exact List.mem_cons_of_mem _ (r.lkf c ys a' f1 f1l f2')
theorem Rel.unlock {μ1 : Mu} {H1 : Hp} (l : Option Nat) (hl : ∀ b, l = some b → ∃ a, μ1.ad[b]? = some a ∧ a ∉ μ1.lk ∧ ∃ vs, H1 a = some (.lst vs)) (s : Stp (lockMu μ1 l) H1 μ H) (r : Rel T μ h H) : Rel T { μ with lk := μ1.lk } (unlO l h) H ∧ Stp μ1 H1 { μ with lk := μ1.lk } H := by
  cases l with
  | none =>
    have s' : Stp μ1 H1 μ H := s
    have e : ({ μ with lk := μ1.lk } : Mu) = μ := by rw [← s'.lks]
    rw [e]
    exact ⟨r, s'⟩
  | some b =>
    obtain ⟨a, ha, na, ws, ha1⟩ := hl b rfl
    have em : lockMu μ1 (some b) = { μ1 with lk := a :: μ1.lk } := by simp only [lockMu, ha]
    rw [em] at s
    have hμ : μ.ad[b]? = some a := s.pre b a ha
    refine ⟨?_, ⟨s.fbe, s.pre, rfl, s.prs, s.prn, fun c o e1 e2 => s.keep' c o e1 ?_, s.new⟩⟩
    · have hm : a ∈ μ.lk := by rw [s.lks]; exact List.mem_cons_self
      obtain ⟨c, x, e1, e2', e2l⟩ := r.lks a hm
      have hH : H a = some (.lst ws) := s.keep' a _ ha1 (.inr List.mem_cons_self)
      have rb := r.at_ c x a e2' e1
      obtain ⟨xs, rfl⟩ : ∃ xs, x = .lst true xs := by
        cases x with
        | lst lk xs => cases (show lk = true from e2l); exact ⟨xs, rfl⟩
        | dct lk ks xs =>
          cases (show lk = true from e2l)
          obtain ⟨vs, q, _⟩ := rb
          obtain ⟨o, q⟩ : ∃ o, H a = some (.frz o (kvO ks vs)) := by simpa using q
          rw [hH] at q; cases q
        | dfz ks xs => cases e2l
        | obj c fs xs => cases e2l
        | tbl t => cases e2l
      have e2 : h.bs[c]? = some (.lst true xs) := e2'
      have hc : c = b := by
        obtain ⟨p1, q1⟩ := List.getElem?_eq_some_iff.mp hμ
        obtain ⟨p2, q2⟩ := List.getElem?_eq_some_iff.mp e1
        exact (List.getElem_inj (h₀ := p2) (h₁ := p1) r.nd).mp (q2.trans q1.symm)
      subst hc
      have eh : unlO (some c) h = { h with bs := h.bs.set c (.lst false xs) } := by simp only [unlO, unlB, e2]
      rw [eh]
      refine r.flag e2 rfl rfl rfl (fun a' ha' => ?_) (fun c' ys a' f1 f1l f2 => ?_)
      rotate_left
      · have f2' : μ.ad[c']? = some a' := f2
        by_cases hc : c = c'
        · subst hc
          rw [List.getElem?_set_self (List.getElem?_eq_some_iff.mp e2).1] at f1
          cases f1
          cases f1l
        · rw [List.getElem?_set_ne hc] at f1
          have hm2 := r.lkf c' ys a' f1 f1l f2'
          rw [s.lks] at hm2
          rcases List.mem_cons.mp hm2 with z | z
          · exfalso
            subst z
            obtain ⟨p1, q1⟩ := List.getElem?_eq_some_iff.mp hμ
            obtain ⟨p2, q2⟩ := List.getElem?_eq_some_iff.mp f2'
            exact hc ((List.getElem_inj (h₀ := p1) (h₁ := p2) r.nd).mp (q1.trans q2.symm))
          · exact z
      have ha2 : a' ∈ μ.lk := by rw [s.lks]; exact List.mem_cons_of_mem _ ha'
      obtain ⟨c', ys, f1, f2, f2l⟩ := r.lks a' ha2
      refine ⟨c', ys, f1, ?_, f2l⟩
      rw [List.getElem?_set_ne]
      · exact f2
      · intro z
        subst z
        rw [e1] at f1
        cases f1
        exact na ha'
    · rcases e2 with z | z
      · exact .inl z
      · exact .inr (List.mem_cons_of_mem _ z)
theorem OutS.unl {μ1 : Mu} {H1 : Hp} {D : Ends} {f : F} (l : Option Nat) (hl : ∀ b, l = some b → ∃ a, μ1.ad[b]? = some a ∧ a ∉ μ1.lk ∧ ∃ vs, H1 a = some (.lst vs)) (o : OutS T W μ1 H1 D (unlF l f)) : OutS T W (lockMu μ1 l) H1 D f := by
  cases f with
  | nx ρ h =>
    intro μ' H' σ' s r e
    obtain ⟨r', s'⟩ := Rel.unlock l hl s r
    exact o _ H' σ' s' r' (RepE.ad (μ := μ') (μ' := { μ' with lk := μ1.lk }) rfl rfl e)
  | bk ρ h =>
    intro μ' H' σ' s r e
    obtain ⟨r', s'⟩ := Rel.unlock l hl s r
    exact o _ H' σ' s' r' (RepE.ad (μ := μ') (μ' := { μ' with lk := μ1.lk }) rfl rfl e)
  | ct ρ h =>
    intro μ' H' σ' s r e
    obtain ⟨r', s'⟩ := Rel.unlock l hl s r
    exact o _ H' σ' s' r' (RepE.ad (μ := μ') (μ' := { μ' with lk := μ1.lk }) rfl rfl e)
  | rt d h =>
    intro μ' H' v s r e
    obtain ⟨r', s'⟩ := Rel.unlock l hl s r
    exact o _ H' v s' r' (Rep.ad (μ := μ') (μ' := { μ' with lk := μ1.lk }) rfl rfl _ _ e)
  | ex x ρ h =>
    intro μ' H' σ' cls d s r e q
    obtain ⟨r', s'⟩ := Rel.unlock l hl s r
    exact o _ H' σ' cls d s' r' (RepE.ad (μ := μ') (μ' := { μ' with lk := μ1.lk }) rfl rfl e) (RepX.ad (μ := μ') (μ' := { μ' with lk := μ1.lk }) rfl rfl q)
  | no => exact o
theorem OutV.unl {μ1 : Mu} {H1 : Hp} {Q : VK} {f : R D} (l : Option Nat) (hl : ∀ b, l = some b → ∃ a, μ1.ad[b]? = some a ∧ a ∉ μ1.lk ∧ ∃ vs, H1 a = some (.lst vs)) (o : OutV T W σ μ1 H1 Q (unlR l f)) : OutV T W σ (lockMu μ1 l) H1 Q f := by
  cases f with
  | ok d h =>
    intro μ' H' v s r e
    obtain ⟨r', s'⟩ := Rel.unlock l hl s r
    exact o _ H' v s' r' (Rep.ad (μ := μ') (μ' := { μ' with lk := μ1.lk }) rfl rfl _ _ e)
  | ex x h =>
    intro μ' H' cls d s r q
    obtain ⟨r', s'⟩ := Rel.unlock l hl s r
    exact o _ H' cls d s' r' (RepX.ad (μ := μ') (μ' := { μ' with lk := μ1.lk }) rfl rfl q)
  | no => exact o
end
end VI
end
section
namespace VI
open PySem PySem.Spec PyProof.Rows L2
structure Stx (E : Addr → Prop) (μ : Mu) (H : Hp) (μ' : Mu) (H' : Hp) : Prop where
  fbe : μ'.fb = μ.fb
  pre : ∀ (i : Nat) (a : Addr), μ.ad[i]? = some a → μ'.ad[i]? = some a
  lks : μ'.lk = μ.lk
  prs : ∀ a ∈ μ.pr, a ∈ μ'.pr
  prn : ∀ a ∈ μ'.pr, a ∈ μ.pr ∨ a ∈ μ.ad ∨ H a = none
  keep' : ∀ a o, H a = some o → (a ∉ μ.ad ∨ a ∈ μ.lk) → ¬ E a → H' a = some o
  new : ∀ p, p ∈ μ'.ad → p ∈ μ.ad ∨ H p = none
  al : ∀ a, E a → ∃ o, H' a = some o
section
variable {T : Tb} {μ μ' μ'' : Mu} {H H' H'' : Hp} {E : Addr → Prop}
theorem Stp.x0 (s : Stp μ H μ' H') : Stx (fun _ => False) μ H μ' H' := ⟨s.fbe, s.pre, s.lks, s.prs, s.prn, fun a o e n _ => s.keep' a o e n, s.new, fun _ z => z.elim⟩
theorem Stx.p (s : Stx (fun _ => False) μ H μ' H') : Stp μ H μ' H' := ⟨s.fbe, s.pre, s.lks, s.prs, s.prn, fun a o e n => s.keep' a o e n id, s.new⟩
theorem Stx.keepN (s : Stx E μ H μ' H') (hE : ∀ a, E a → a ∈ μ.pr) {a : Addr} {o : HO} (h : H a = some o) (n : μ.no a) : H' a = some o := s.keep' a o h (.inl n.1) fun z => n.2 (hE a z)
theorem Stx.not (s : Stx E μ H μ' H') {a : Addr} {o : HO} (h : H a = some o) (n : μ.no a) : μ'.no a := by
  refine ⟨fun hm => ?_, fun hm => ?_⟩
  · rcases s.new a hm with z | z
    · exact n.1 z
    · rw [z] at h; cases h
  · rcases s.prn a hm with z | z | z
    · exact n.2 z
    · exact n.1 z
    · rw [z] at h; cases h
theorem Stx.fl {K : PySem.W.Frag} (s : Stx E μ H μ' H') (hE : ∀ a, E a → a ∈ μ.pr) {a : Addr} {xs : List V} (h : FzL K μ H a xs) : FzL K μ' H' a xs := by
  rcases h with ⟨r, n⟩ | h
  · obtain ⟨o, e⟩ := Rd.some r
    refine .inl ⟨?_, s.not e n⟩
    rcases r with r | ⟨o, r⟩
    · exact .inl (s.keepN hE r n)
    · exact .inr ⟨o, s.keepN hE r n⟩
  · exact .inr h
mutual
theorem Rep.stepx (s : Stx E μ H μ' H') (hE : ∀ a, E a → a ∈ μ.pr) : ∀ (d : D) (v : V), Rep T μ H d v → Rep T μ' H' d v
  | .non, v, h => by simpa [Rep] using h
  | .bl b, v, h => by simpa [Rep] using h
  | .int i, v, h => by simpa [Rep] using h
  | .str x, v, h => by simpa [Rep] using h
  | .tup xs, v, h => by
    simp only [Rep] at h ⊢
    obtain ⟨a, vs, e, f, n, r⟩ := h
    exact ⟨a, vs, e, s.keepN hE f n, s.not f n, Reps.stepx s hE xs vs r⟩
  | .tpl xs, v, h => by
    simp only [Rep] at h ⊢
    obtain ⟨a, o, vs, e, f, c, n, r⟩ := h
    exact ⟨a, o, vs, e, s.keepN hE f n, c, s.not f n, Reps.stepx s hE xs vs r⟩
  | .lst xs, v, h => by
    simp only [Rep] at h ⊢
    obtain ⟨a, vs, e, f, n, r⟩ := h
    exact ⟨a, vs, e, s.keepN hE f n, s.not f n, Reps.stepx s hE xs vs r⟩
  | .dct ks xs, v, h => by
    simp only [Rep] at h ⊢
    obtain ⟨a, o, vs, e, f, n, l, r⟩ := h
    exact ⟨a, o, vs, e, s.keepN hE f n, s.not f n, l, Reps.stepx s hE xs vs r⟩
  | .obj c fs xs, v, h => by
    simp only [Rep] at h ⊢
    obtain ⟨a, C, dx, vs, e, ec, f, n, l, r⟩ := h
    exact ⟨a, C, dx, vs, e, ec, s.keepN hE f n, s.not f n, l, Reps.stepx s hE xs vs r⟩
  | .exo c fs xs, v, h => by
    simp only [Rep] at h ⊢
    obtain ⟨a, C, o, us, vs, e, ec, f, eo, n, x, l, r⟩ := h
    exact ⟨a, C, o, us, vs, e, ec, s.keepN hE f n, eo, s.not f n, x.imp fun dx u z m => ⟨s.keepN hE z m, s.not z m⟩, l, Reps.stepx s hE xs vs r⟩
  | .ref b, v, h => by
    simp only [Rep] at h ⊢
    obtain ⟨a, e, e2⟩ := h
    exact ⟨a, s.pre _ _ e, e2⟩
  | .scr ns, v, h => by
    simp only [Rep] at h ⊢
    obtain ⟨a, e, f⟩ := h
    exact ⟨a, e, s.fl hE f⟩
theorem Reps.stepx (s : Stx E μ H μ' H') (hE : ∀ a, E a → a ∈ μ.pr) : ∀ (d : List D) (v : List V), Reps T μ H d v → Reps T μ' H' d v
  | [], v, h => by simpa [Reps] using h
  | x :: xs, v, h => by
    simp only [Reps] at h ⊢
    obtain ⟨w, r, e, h1, h2⟩ := h
    exact ⟨w, r, e, Rep.stepx s hE x w h1, Reps.stepx s hE xs r h2⟩
end
theorem RepE.stepx (s : Stx E μ H μ' H') (hE : ∀ a, E a → a ∈ μ.pr) {ρ : Ev} {σ : Sg} (h : RepE T μ H ρ σ) : RepE T μ' H' ρ σ := ⟨h.1, fun i d e => by
  obtain ⟨v, e1, r⟩ := h.2 i d e
  exact ⟨v, e1, Rep.stepx s hE d v r⟩⟩
theorem Stx.trans (s : Stx E μ H μ' H') (hE : ∀ a, E a → a ∈ μ.pr ∧ a ∉ μ.ad ∧ ∃ o, H a = some o) (t : Stp μ' H' μ'' H'') : Stx E μ H μ'' H'' := by
  have nad : ∀ a, a ∉ μ.ad → (∃ o, H a = some o) → a ∉ μ'.ad := fun a h1 ⟨o, h2⟩ z => by
    rcases s.new a z with q | q
    · exact h1 q
    · rw [q] at h2; cases h2
  refine ⟨t.fbe.trans s.fbe, fun i a h => t.pre i a (s.pre i a h), t.lks.trans s.lks, fun a h => t.prs a (s.prs a h), fun a h => ?_, fun a o h n ne => ?_, fun p hp => ?_, fun a h => ?_⟩
  · rcases t.prn a h with z | z | z
    · exact s.prn a z
    · exact .inr (s.new a z)
    · by_cases hm : a ∈ μ.ad
      · exact .inr (.inl hm)
      · by_cases he : E a
        · exact .inl (hE a he).1
        · cases e : H a with
          | none => exact .inr (.inr rfl)
          | some o => have := s.keep' a o e (.inl hm) he; rw [z] at this; cases this
  · refine t.keep' a o (s.keep' a o h n ne) ?_
    rcases n with n | n
    · exact .inl (nad a n ⟨o, h⟩)
    · exact .inr (by rw [s.lks]; exact n)
  · rcases t.new p hp with z | z
    · exact s.new p z
    · by_cases hm : p ∈ μ.ad
      · exact .inl hm
      · cases e : H p with
        | none => exact .inr rfl
        | some o =>
          by_cases he : E p
          · obtain ⟨u, hu⟩ := s.al p he; rw [z] at hu; cases hu
          · have := s.keep' p o e (.inl hm) he; rw [z] at this; cases this
  · obtain ⟨u, hu⟩ := s.al a h
    exact ⟨u, t.keep' a u hu (.inl (nad a (hE a h).2.1 (hE a h).2.2))⟩
theorem Stx.put {D : Addr} {o : HO} (s : Stx (· = D) μ H μ' H') : Stx (· = D) μ H μ' (upd H' D o) :=
  ⟨s.fbe, s.pre, s.lks, s.prs, s.prn, fun a u h n ne => by rw [upd_ne ne]; exact s.keep' a u h n ne, s.new, fun a h => ⟨o, by cases h; exact upd_same⟩⟩
theorem Stx.one {D : Addr} {o : HO} (h : H D = some o) : Stx (· = D) μ H μ H := ⟨rfl, fun _ _ z => z, rfl, fun _ z => z, fun _ z => .inl z, fun _ _ z _ _ => z, fun _ z => .inl z, fun a e => ⟨o, by cases e; exact h⟩⟩
open Classical in
end
end VI
end
section
namespace VI
open PySem PySem.Spec PyProof.Rows L2
abbrev Iu := List VI.D × Option Nat
abbrev SI := Ev → Bs → R Iu
structure Wk (T : Tb) (J : It) (items : List VI.D) (μL : Mu) (H1 : Hp) : Prop where
  goesx : ∀ (E : Addr → Prop) i μ H, (∀ a, E a → a ∈ μL.pr) → i < items.length → Stx E μL H1 μ H → J.go i H
  stopsx : ∀ (E : Addr → Prop) μ H, (∀ a, E a → a ∈ μL.pr) → Stx E μL H1 μ H → J.stop items.length H
  yieldsx : ∀ (E : Addr → Prop) i μ H h x H', (∀ a, E a → a ∈ μL.pr) → i < items.length → Stx E μL H1 μ H → Rel T μ h H → J.yld i H x H' → ∃ d, items[i]? = some d ∧ Stp μ H μ H' ∧ Rel T μ h H' ∧ Rep T μ H' d x
theorem Wk.goes {T : Tb} {J : It} {items : List VI.D} {μL : Mu} {H1 : Hp} (w : Wk T J items μL H1) (i : Nat) (μ : Mu) (H : Hp) (hi : i < items.length) (s : Stp μL H1 μ H) : J.go i H := w.goesx _ i μ H (fun _ z => z.elim) hi s.x0
theorem Wk.stops {T : Tb} {J : It} {items : List VI.D} {μL : Mu} {H1 : Hp} (w : Wk T J items μL H1) (μ : Mu) (H : Hp) (s : Stp μL H1 μ H) : J.stop items.length H := w.stopsx _ μ H (fun _ z => z.elim) s.x0
theorem Wk.yields {T : Tb} {J : It} {items : List VI.D} {μL : Mu} {H1 : Hp} (w : Wk T J items μL H1) (i : Nat) (μ : Mu) (H : Hp) (h : Bs) (x : V) (H' : Hp) (hi : i < items.length) (s : Stp μL H1 μ H) (r : Rel T μ h H) (y : J.yld i H x H') : ∃ d, items[i]? = some d ∧ Stp μ H μ H' ∧ Rel T μ h H' ∧ Rep T μ H' d x := w.yieldsx _ i μ H h x H' (fun _ z => z.elim) hi s.x0 r y
def Stays (μ : Mu) (H : Hp) (P : Hp → Prop) : Prop := ∀ (E : Addr → Prop) μ' H', (∀ a, E a → a ∈ μ.pr) → Stx E μ H μ' H' → P H'
def Lkb (μ : Mu) (h : Bs) (l : Option Nat) : Prop := ∀ b, l = some b → (∃ a, μ.ad[b]? = some a ∧ a ∉ μ.lk) ∧ ∃ lk xs, h.bs[b]? = some (.lst lk xs)
theorem Lkb.low {T : Tb} {μ : Mu} {h : Bs} {H : Hp} {l : Option Nat} (k : Lkb μ h l) (r : Rel T μ h H) : ∀ b, l = some b → ∃ a, μ.ad[b]? = some a ∧ a ∉ μ.lk ∧ ∃ vs, H a = some (.lst vs) := fun b z => by
  obtain ⟨⟨a, e1, e2⟩, lk, xs, e3⟩ := k b z
  obtain ⟨vs, e4, _⟩ := r.at_ b _ a e3 e1
  exact ⟨a, e1, e2, vs, e4⟩
def OutI (T : Tb) (W : WX) (σ : Sg) (μ : Mu) (H : Hp) (Q : It → Hp → Prop) : R Iu → Prop
  | .ok d h' => ∀ μ' H' J, Stp μ H μ' H' → Rel T μ' h' H' → Lkb μ' h' d.2 → Wk T J d.1 (lockMu μ' d.2) H' → Q J H'
  | .ex x h' => ∀ μ' H' cls d, Stp μ H μ' H' → Rel T μ' h' H' → RepX T μ' H' x cls d → W cls d σ H'
  | .no => False
def tI' (T : Tb) (W : WX) (s : SI) : TI := fun σ H Q => ∃ μ ρ h, Rel T μ h H ∧ RepE T μ H ρ σ ∧ OutI T W σ μ H Q (s ρ h)
section
variable {X : Cx} {T : Tb} {W : WX} {μ μ' : Mu} {H H' : Hp} {h : Bs} {σ : Sg} {ρ : Ev} {tg : Expr}
theorem OutI.step {Q : It → Hp → Prop} {r : R Iu} (o : OutI T W σ μ H Q r) (s : Stp μ H μ' H') : OutI T W σ μ' H' Q r := by
  cases r with
  | ok d h => exact fun μ2 H2 J s2 => o μ2 H2 J (s.trans s2)
  | ex x h => exact fun μ2 H2 c d s2 => o μ2 H2 c d (s.trans s2)
  | no => exact o
theorem OutI.bindV {Q : It → Hp → Prop} {r : R VI.D} {f : VI.D → Bs → R Iu} (o : OutI T W σ μ H Q (r.bind f)) :
    OutV T W σ μ H (fun v H1 => ∃ μ1 d h1, Stp μ H μ1 H1 ∧ Rel T μ1 h1 H1 ∧ Rep T μ1 H1 d v ∧ OutI T W σ μ1 H1 Q (f d h1)) r := by
  cases r with
  | ok d h => exact fun μ1 H1 v s r1 rv => ⟨μ1, d, h, s, r1, rv, OutI.step o s⟩
  | ex x h => exact o
  | no => exact o
theorem OutI.bindA {Q : It → Hp → Prop} {r : R (List VI.D)} {f : List VI.D → Bs → R Iu} (o : OutI T W σ μ H Q (r.bind f)) :
    OutA T W σ μ H (fun v H1 => ∃ μ1 d h1, Stp μ H μ1 H1 ∧ Rel T μ1 h1 H1 ∧ Reps T μ1 H1 d v ∧ OutI T W σ μ1 H1 Q (f d h1)) r := by
  cases r with
  | ok d h => exact fun μ1 H1 v s r1 rv => ⟨μ1, d, h, s, r1, rv, OutI.step o s⟩
  | ex x h => exact o
  | no => exact o
theorem PI.imp {e : Expr} {t t' : TI} (h : PI X tg e t) (i : ∀ σ H Q, t' σ H Q → t σ H Q) : PI X tg e t' := ⟨fun pins s σ H Q I w => h.run pins s σ H Q I (i σ H Q w)⟩
theorem PI.or {e : Expr} {t t' : TI} (h : PI X tg e t) (h' : PI X tg e t') : PI X tg e (fun σ H Q => t σ H Q ∨ t' σ H Q) := ⟨fun pins s σ H Q I w => by
  rcases w with w | w
  · exact h.run pins s σ H Q I w
  · exact h'.run pins s σ H Q I w⟩
def itSeq (d : VI.D) (h : Bs) : R Iu := match d with
  | .tup xs => .ok (xs, none) h
  | .tpl xs => .ok (xs, none) h
  | .lst xs => .ok (xs, none) h
  | .scr ns => .ok (ns.map .int, none) h
  | .ref b => (match h.bs[b]? with
    | some (.lst false xs) => .ok (xs, some b) h
    | some (.lst true xs) => .ok (xs, none) h
    | _ => .no)
  | _ => .no
def isTupD : VI.D → Bool
  | .tup _ => true
  | .tpl _ => true
  | _ => false
def siSeq (s : SV) : SI := fun ρ h => (s ρ h).bind itSeq
theorem wk_list {a : Addr} {xs : List VI.D} {vs : List V} {μ1 : Mu} (q : Reps T μ1 H xs vs) (hs : Stays μ1 H fun H' => SqL T.K H' a vs) : Wk T (Itl T.K a) xs μ1 H := by
  have wk := walk_list (K := T.K) (a := a) (xs := vs)
  refine ⟨fun E i μ' H' hE hi s => wk.goes i H' (by rw [← q.length]; exact hi) (hs E μ' H' hE s), fun E μ' H' hE s => by rw [q.length]; exact wk.stops H' (hs E μ' H' hE s), fun E i μ' H' h x H'' hE hi s r y => ?_⟩
  obtain ⟨e1, e2⟩ := wk.yields i H' x H'' (by rw [← q.length]; exact hi) (hs E μ' H' hE s) y
  subst e1
  have hd : xs[i]? = some xs[i] := List.getElem?_eq_getElem hi
  obtain ⟨v, e3, rv⟩ := q.get hd
  rw [e2] at e3
  cases e3
  exact ⟨_, hd, Stp.refl, r, Rep.stepx s hE _ _ rv⟩
theorem wk_tup {a : Addr} {xs : List VI.D} {vs : List V} {μ1 : Mu} (q : Reps T μ1 H xs vs) (hs : Stays μ1 H fun H' => SqT T.K H' a vs) : Wk T (Itt T.K a) xs μ1 H := by
  have wk := walk_tup (K := T.K) (a := a) (xs := vs)
  refine ⟨fun E i μ' H' hE hi s => wk.goes i H' (by rw [← q.length]; exact hi) (hs E μ' H' hE s), fun E μ' H' hE s => by rw [q.length]; exact wk.stops H' (hs E μ' H' hE s), fun E i μ' H' h x H'' hE hi s r y => ?_⟩
  obtain ⟨e1, e2⟩ := wk.yields i H' x H'' (by rw [← q.length]; exact hi) (hs E μ' H' hE s) y
  subst e1
  have hd : xs[i]? = some xs[i] := List.getElem?_eq_getElem hi
  obtain ⟨v, e3, rv⟩ := q.get hd
  rw [e2] at e3
  cases e3
  exact ⟨_, hd, Stp.refl, r, Rep.stepx s hE _ _ rv⟩
theorem seq_stays {d : VI.D} {v : V} {xs : List VI.D} {l : Option Nat} {h' : Bs} (r : Rel T μ h H) (rv : Rep T μ H d v) (e : itSeq d h = .ok (xs, l) h') :
    h' = h ∧ Lkb μ h l ∧ ∃ a vs, v = .ref a ∧ Reps T μ H xs vs ∧ ((isTupD d = false ∧ SqL T.K H a vs ∧ Stays (lockMu μ l) H fun H' => SqL T.K H' a vs) ∨ (isTupD d = true ∧ SqT T.K H a vs ∧ Stays (lockMu μ l) H fun H' => SqT T.K H' a vs)) := by
  have nl : Lkb μ h none := fun b z => by cases z
  cases d with
  | tup ys =>
    simp only [itSeq] at e; cases e
    obtain ⟨a, vs, e1, e2, e3, e4⟩ := rv.tupOf
    exact ⟨rfl, nl, a, vs, e1, e4, .inr ⟨rfl, SqT.of e2, fun E μ' H' hE s => SqT.of (s.keepN hE e2 e3)⟩⟩
  | tpl ys =>
    simp only [itSeq] at e; cases e
    obtain ⟨a, o, vs, e1, e2, _, e3, e4⟩ := rv.tplOf
    exact ⟨rfl, nl, a, vs, e1, e4, .inr ⟨rfl, SqT.fz e2, fun E μ' H' hE s => SqT.fz (s.keepN hE e2 e3)⟩⟩
  | lst ys =>
    simp only [itSeq] at e; cases e
    simp only [Rep] at rv
    obtain ⟨a, vs, e1, e2, e3, e4⟩ := rv
    exact ⟨rfl, nl, a, vs, e1, e4, .inl ⟨rfl, SqL.of e2, fun E μ' H' hE s => SqL.of (s.keepN hE e2 e3)⟩⟩
  | scr ns =>
    simp only [itSeq] at e; cases e
    simp only [Rep] at rv
    obtain ⟨a, e1, e2⟩ := rv
    exact ⟨rfl, nl, a, _, e1, Reps.ints ns, .inl ⟨rfl, e2.sq, fun E μ' H' hE s => (s.fl hE e2).sq⟩⟩
  | ref b =>
    simp only [itSeq] at e
    split at e
    · rename_i ys hb
      cases e
      obtain ⟨a, vs, e1, e2, e3, e4⟩ := r.boxAt hb rv
      have nk : a ∉ μ.lk := r.free e1 fun z e => by rw [hb] at e; cases e; rfl
      refine ⟨rfl, fun c z => by cases z; exact ⟨⟨a, e1, nk⟩, _, _, hb⟩, a, vs, e2, e4, .inl ⟨rfl, SqL.of e3, fun E μ' H' hE s => SqL.of (s.keep' a _ e3 (.inr ?_) fun z => (r.prh a (by have := hE a z; rwa [lockMu_pr] at this)).2 (List.mem_of_getElem? e1))⟩⟩
      simp only [lockMu, e1]
      exact List.mem_cons_self
    · rename_i ys hb
      cases e
      obtain ⟨a, vs, e1, e2, e3, e4⟩ := r.boxAt hb rv
      exact ⟨rfl, nl, a, vs, e2, e4, .inl ⟨rfl, SqL.of e3, fun E μ' H' hE s => SqL.of (s.keep' a _ e3 (.inr (r.lkf _ _ a hb rfl e1)) fun z => (r.prh a (hE a z)).2 (List.mem_of_getElem? e1))⟩⟩
    · cases e
  | _ => simp [itSeq] at e
theorem itSeq_calm {d : VI.D} {x : Ex} {h' : Bs} : itSeq d h ≠ .ex x h' := by
  intro e
  unfold itSeq at e
  repeat' split at e
  all_goals cases e
theorem lockMu_reps {l : Option Nat} {xs : List VI.D} {vs : List V} (q : Reps T μ H xs vs) : Reps T (lockMu μ l) H xs vs := Reps.ad lockMu_ad lockMu_pr _ _ q
theorem piv_seq {e : Expr} {s : SV} (hK : X.K = T.K) (he : PE X e (tV T W s)) : PI X tg e (tI' T W (siSeq s)) :=
  PI.imp (PI.or (pi_list he) (pi_tup he)) fun σ H Q ⟨μ, ρ, h, r, e, o⟩ => by
    unfold siSeq at o
    cases q : s ρ h with
    | no => rw [q] at o; exact o.elim
    | ex x h1 => rw [q] at o; exact .inl ⟨μ, ρ, h, r, e, by rw [q]; exact o⟩
    | ok d h1 =>
      rw [q] at o
      simp only [R.bind] at o
      cases q2 : itSeq d h1 with
      | no => rw [q2] at o; exact o.elim
      | ex x h2 => exact absurd q2 itSeq_calm
      | ok u h2 =>
        obtain ⟨xs, l⟩ := u
        rw [q2] at o
        cases ht : isTupD d with
        | true =>
          refine .inr ⟨μ, ρ, h, r, e, ?_⟩
          rw [q]
          intro μ1 H1 v s1 r1 rv
          obtain ⟨rfl, nl, a, vs, e1, e4, e5⟩ := seq_stays r1 rv q2
          rcases e5 with ⟨z, _⟩ | ⟨_, e5, e6⟩
          · rw [ht] at z; cases z
          · refine ⟨a, e1, ⟨vs, by rw [hK]; exact e5⟩, ?_⟩
            rw [hK]
            exact o μ1 H1 _ s1 r1 nl (wk_tup (lockMu_reps e4) e6)
        | false =>
          refine .inl ⟨μ, ρ, h, r, e, ?_⟩
          rw [q]
          intro μ1 H1 v s1 r1 rv
          obtain ⟨rfl, nl, a, vs, e1, e4, e5⟩ := seq_stays r1 rv q2
          rcases e5 with ⟨_, e5, e6⟩ | ⟨z, _⟩
          · refine ⟨a, e1, ⟨vs, by rw [hK]; exact e5⟩, ?_⟩
            rw [hK]
            exact o μ1 H1 _ s1 r1 nl (wk_list (lockMu_reps e4) e6)
          · rw [ht] at z; cases z
def rngItems (lo : Int) (n : Nat) : List VI.D := (List.range n).map fun (i : Nat) => .int (lo + (i : Int))
theorem wk_range {lo : Int} {n : Nat} {μ1 : Mu} : Wk T (Itr lo n) (rngItems lo n) μ1 H := by
  have wk := walk_range (lo := lo) (n := n)
  have hl : (rngItems lo n).length = n := by simp [rngItems]
  refine ⟨fun E i μ' H' hE hi s => wk.goes i H' (by rw [hl] at hi; exact hi) trivial, fun E μ' H' hE s => by rw [hl]; exact wk.stops H' trivial, fun E i μ' H' h x H'' hE hi s r y => ?_⟩
  rw [hl] at hi
  obtain ⟨e1, e2⟩ := wk.yields i H' x H'' hi trivial y
  subst e1
  exact ⟨.int (lo + i), by simp [rngItems, hi], Stp.refl, r, by rw [e2]; exact rep_int rfl⟩
def itRng1 (ds : List VI.D) (h : Bs) : R Iu := match ds with
  | [.int j] => if -(2 ^ 62) ≤ j ∧ j < 2 ^ 62 then .ok (rngItems 0 j.toNat, none) h else .no
  | _ => .no
def siArg (f : List VI.D → Bs → R Iu) (sa : SA) : SI := fun ρ h => (sa ρ h).bind f
theorem OutI.nolk {Q : It → Hp → Prop} {items : List VI.D} {J : It} (r : Rel T μ h H) (o : OutI T W σ μ H Q (.ok (items, none) h)) (wk : Wk T J items μ H) : Q J H := o μ H J Stp.refl r (fun b z => by cases z) wk
theorem piv_range1 {a : Expr} {p pos : Pos} {sa : SA} (hg : Gl X "range") (hm : X.mg "range" = none) (hs : PySem.W.isStarred a = false) (ha : PA X [a] (tA' T W sa)) : PI X tg (.Call (.Name "range" p) [a] [] pos) (tI' T W (siArg itRng1 sa)) :=
  PI.imp (pi_range1 hg hm ha (by rw [star_no hs]; rfl)) fun σ H Q ⟨μ, ρ, h, r, e, o⟩ => by
    refine ⟨μ, ρ, h, r, e, OutA.mono (OutI.bindA o) ?_⟩
    rintro v H1 ⟨μ1, ds, h1, s1, r1, rv, o1⟩
    unfold itRng1 at o1
    split at o1
    · split at o1
      · rename_i hb
        obtain ⟨w, rfl, rw'⟩ := rv.is1
        simp only [Rep] at rw'
        subst rw'
        exact ⟨_, rfl, hb.1, hb.2, o1.nolk r1 wk_range⟩
      · exact o1.elim
    · exact o1.elim
def loopS (g : SG) (body : SS) : List VI.D → Ev → Bs → F
  | [], ρ, h => .nx ρ h
  | d :: ds, ρ, h => match g d ρ h with
    | .ok ρ1 h1 => (match body ρ1 h1 with
      | .nx ρ2 h2 => loopS g body ds ρ2 h2
      | .ct ρ2 h2 => loopS g body ds ρ2 h2
      | .bk ρ2 h2 => .nx ρ2 h2
      | f => f)
    | _ => .no
def ssFor (it : SI) (g : SG) (body : SS) : SS := fun ρ h => (it ρ h).toF ρ fun u h1 => unlF u.2 (loopS g body u.1 ρ (lockO u.2 h1))
theorem OutS.ofI {D : Ends} {r : R Iu} {k : Iu → Bs → F} (e : RepE T μ H ρ σ) (o : OutS T W μ H D (r.toF ρ k)) (Q : It → Hp → Prop)
    (hk : ∀ u h1 μ1 H1 J, r = .ok u h1 → Stp μ H μ1 H1 → Rel T μ1 h1 H1 → RepE T μ1 H1 ρ σ → Lkb μ1 h1 u.2 → Wk T J u.1 (lockMu μ1 u.2) H1 → OutS T W μ1 H1 D (k u h1) → Q J H1) : OutI T W σ μ H Q r := by
  cases r with
  | ok u h => exact fun μ1 H1 J s r1 l w => hk u h μ1 H1 J rfl s r1 (e.step s) l w (OutS.step o s)
  | ex x h => exact fun μ1 H1 c d s r1 rx => o μ1 H1 σ c d s r1 (e.step s) rx
  | no => exact o
theorem loop_imp {own : List Nat} {g : SG} {body : SS} {D : Ends} {J : It} {items : List VI.D} {μL : Mu} {H1 : Hp} {h1 : Bs} (wk : Wk T J items μL H1) (r1 : Rel T μL h1 H1) (e1 : RepE T μL H1 ρ σ) (o : OutS T W μL H1 D (loopS g body items ρ h1)) :
    ∃ Wv : Nat → Nat → Sg → Hp → Prop, (∃ m, Wv 0 m σ H1) ∧ ∀ i m σ H, Wv i m σ H →
      (J.stop i H ∧ D.nx σ H) ∨ (J.go i H ∧ ∃ N : Sg → Hp → Prop, (∀ σ' H', N σ' H' → ∃ m', m' < m ∧ Wv (i + 1) m' σ' H') ∧ ∀ x H', J.yld i H x H' → tG' T own g x σ H' fun σ2 H2 => tS' T W body { D with nx := N, ct := N, bk := D.nx } σ2 H2) := by
  let P : Nat → Sg → Hp → Prop := fun i σ H => ∃ μ ρ h, Stp μL H1 μ H ∧ Rel T μ h H ∧ RepE T μ H ρ σ ∧ OutS T W μ H D (loopS g body (items.drop i) ρ h)
  refine ⟨fun i m σ H => m = items.length - i ∧ i ≤ items.length ∧ P i σ H, ⟨_, rfl, Nat.zero_le _, μL, ρ, h1, Stp.refl, r1, e1, by simpa using o⟩, ?_⟩
  rintro i m σ2 H2 ⟨rfl, hi, μ2, ρ2, h2, s2, r2, e2, o2⟩
  by_cases hlt : i < items.length
  · refine .inr ⟨wk.goes i μ2 H2 hlt s2, P (i + 1), fun σ' H' p => ⟨items.length - (i + 1), by omega, rfl, hlt, p⟩, fun x H' y => ?_⟩
    obtain ⟨d, hd, s3, r3, rv⟩ := wk.yields i μ2 H2 h2 x H' hlt s2 r2 y
    have ed : items.drop i = d :: items.drop (i + 1) := by
      rw [List.drop_eq_getElem_cons hlt]
      rw [List.getElem?_eq_getElem hlt] at hd
      cases hd; rfl
    rw [ed] at o2
    have o3 := OutS.step o2 s3
    refine ⟨μ2, ρ2, h2, d, r3, e2.step s3, rv, ?_⟩
    simp only [loopS] at o3
    cases q : g d ρ2 h2 with
    | no => rw [q] at o3; exact o3
    | ex z h3 => rw [q] at o3; exact o3
    | ok ρ3 h3 =>
      rw [q] at o3
      simp only at o3
      intro μ4 H4 σ4 s4 r4 e4 _
      refine ⟨μ4, ρ3, h3, r4, e4, ?_⟩
      have o4 := OutS.step o3 s4
      have st : Stp μL H1 μ4 H4 := (s2.trans s3).trans s4
      cases q2 : body ρ3 h3 with
      | nx ρ5 h5 => rw [q2] at o4; exact fun μ5 H5 σ5 s5 r5 e5 => ⟨μ5, ρ5, h5, st.trans s5, r5, e5, OutS.step o4 s5⟩
      | ct ρ5 h5 => rw [q2] at o4; exact fun μ5 H5 σ5 s5 r5 e5 => ⟨μ5, ρ5, h5, st.trans s5, r5, e5, OutS.step o4 s5⟩
      | bk ρ5 h5 => rw [q2] at o4; exact o4
      | rt d5 h5 => rw [q2] at o4; exact o4
      | ex x5 ρ5 h5 => rw [q2] at o4; exact o4
      | no => rw [q2] at o4; exact o4
  · have ei : i = items.length := by omega
    subst ei
    refine .inl ⟨wk.stops μ2 H2 s2, ?_⟩
    rw [List.drop_length] at o2
    exact o2 μ2 H2 σ2 Stp.refl r2 e2
theorem psv_for {own : List Nat} {iter : Expr} {body : List Stmt} {pos : Pos} {it : SI} {g : SG} {sb : SS} (hp : PassesOwn (model X.prog X.w) X.A X.env X.xe) (hc : X.calm = true) (hi : PI X tg iter (tI' T W it)) (hg : PG X tg (tG' T own g)) (hb : PSs X body (tS' T W sb))
    (hs : ∀ x, foldedSetIterable iter X.env x = pure x) : PS X (.For tg iter body [] pos) (tS' T W (ssFor it g sb)) :=
  PS.imp (ps_for hp hc hi hg hb hs) fun D σ H ⟨μ, ρ, h, r, e, o⟩ => by
    refine ⟨μ, ρ, h, r, e, OutS.ofI e o _ ?_⟩
    rintro u h1 μ1 H1 J _ s1 r1 e1 l wk o1
    exact loop_imp wk (r1.lock u.2 fun b z => (l b z).2) (e1.ad lockMu_ad lockMu_pr) (OutS.unl u.2 (l.low r1) o1)
def whileS (s : SV) (body : SS) : Nat → Ev → Bs → F
  | 0, _, _ => .no
  | n + 1, ρ, h => (sTru s ρ h).toF ρ fun b h1 => if b then (match body ρ h1 with
      | .nx ρ2 h2 => whileS s body n ρ2 h2
      | .ct ρ2 h2 => whileS s body n ρ2 h2
      | .bk ρ2 h2 => .nx ρ2 h2
      | f => f) else .nx ρ h1
theorem psv_while {c : Expr} {body : List Stmt} {pos : Pos} {sc : SV} {sb : SS} {n : Nat} (hp : PassesOwn (model X.prog X.w) X.A X.env X.xe) (hc : PT X c (tB' T W (sTru sc))) (hb : PSs X body (tS' T W sb)) : PS X (.While c body [] pos) (tS' T W (whileS sc sb n)) :=
  PS.imp (ps_while hp hc hb) fun D σ H ⟨μ, ρ, h, r, e, o⟩ => by
    refine ⟨fun m σ H => ∃ μ ρ h, Rel T μ h H ∧ RepE T μ H ρ σ ∧ OutS T W μ H D (whileS sc sb m ρ h), ⟨n, μ, ρ, h, r, e, o⟩, ?_⟩
    rintro m σ1 H1 ⟨μ1, ρ1, h1, r1, e1, o1⟩
    cases m with
    | zero => exact o1.elim
    | succ m =>
      refine ⟨μ1, ρ1, h1, r1, e1, OutB.mono (OutS.ofB e1 o1) ?_⟩
      rintro b H2 ⟨μ2, h2, s2, r2, e2, o2⟩
      cases b with
      | false => exact o2 μ2 H2 σ1 Stp.refl r2 e2
      | true =>
        refine ⟨fun σ H => ∃ μ ρ h, Rel T μ h H ∧ RepE T μ H ρ σ ∧ OutS T W μ H D (whileS sc sb m ρ h), fun σ' H' p => ⟨m, Nat.lt_succ_self _, p⟩, μ2, ρ1, h2, r2, e2, ?_⟩
        simp only [if_true] at o2
        cases q2 : sb ρ1 h2 with
        | nx ρ5 h5 => rw [q2] at o2; exact fun μ5 H5 σ5 s5 r5 e5 => ⟨μ5, ρ5, h5, r5, e5, OutS.step o2 s5⟩
        | ct ρ5 h5 => rw [q2] at o2; exact fun μ5 H5 σ5 s5 r5 e5 => ⟨μ5, ρ5, h5, r5, e5, OutS.step o2 s5⟩
        | bk ρ5 h5 => rw [q2] at o2; exact o2
        | rt d5 h5 => rw [q2] at o2; exact o2
        | ex x5 ρ5 h5 => rw [q2] at o2; exact o2
        | no => rw [q2] at o2; exact o2
end
end VI
end
section
namespace VI
open PySem PySem.Spec PyProof.Rows L2
section
variable {X : Cx} {T : Tb} {W : WX} {μ μ' : Mu} {H H' : Hp} {h : Bs} {σ : Sg} {ρ : Ev} {tg : Expr} {p : Addr} {o : HO}
mutual
theorem Rep.mv (hn : ∀ a, μ.no a → μ'.no a) (hp : ∀ (i : Nat) a, μ.ad[i]? = some a → μ'.ad[i]? = some a) : ∀ (d : D) (v : V), Rep T μ H d v → Rep T μ' H d v
  | .non, v, q => by simpa only [Rep] using q
  | .bl b, v, q => by simpa only [Rep] using q
  | .int b, v, q => by simpa only [Rep] using q
  | .str b, v, q => by simpa only [Rep] using q
  | .tup xs, v, q => by
    simp only [Rep] at q ⊢
    obtain ⟨a, vs, e1, e2, e3, e4⟩ := q
    exact ⟨a, vs, e1, e2, hn a e3, Reps.mv hn hp xs vs e4⟩
  | .tpl xs, v, q => by
    simp only [Rep] at q ⊢
    obtain ⟨a, o, vs, e1, e2, c, e3, e4⟩ := q
    exact ⟨a, o, vs, e1, e2, c, hn a e3, Reps.mv hn hp xs vs e4⟩
  | .lst xs, v, q => by
    simp only [Rep] at q ⊢
    obtain ⟨a, vs, e1, e2, e3, e4⟩ := q
    exact ⟨a, vs, e1, e2, hn a e3, Reps.mv hn hp xs vs e4⟩
  | .dct ks xs, v, q => by
    simp only [Rep] at q ⊢
    obtain ⟨a, o, vs, e1, e2, e3, e4, e5⟩ := q
    exact ⟨a, o, vs, e1, e2, hn a e3, e4, Reps.mv hn hp xs vs e5⟩
  | .obj c fs xs, v, q => by
    simp only [Rep] at q ⊢
    obtain ⟨a, C, dx, vs, e1, e2, e3, e4, e5, e6⟩ := q
    exact ⟨a, C, dx, vs, e1, e2, e3, hn a e4, e5, Reps.mv hn hp xs vs e6⟩
  | .exo c fs xs, v, q => by
    simp only [Rep] at q ⊢
    obtain ⟨a, C, o, us, vs, e1, e2, e3, eo, n, x, l, r⟩ := q
    exact ⟨a, C, o, us, vs, e1, e2, e3, eo, hn a n, x.imp fun dx u z m => ⟨z, hn dx m⟩, l, Reps.mv hn hp xs vs r⟩
  | .ref b, v, q => by
    simp only [Rep] at q ⊢
    obtain ⟨a, e1, e2⟩ := q
    exact ⟨a, hp _ _ e1, e2⟩
  | .scr ns, v, q => by
    simp only [Rep] at q ⊢
    obtain ⟨a, e1, e2⟩ := q
    refine ⟨a, e1, ?_⟩
    rcases e2 with ⟨z1, z2⟩ | z
    · exact .inl ⟨z1, hn a z2⟩
    · exact .inr z
theorem Reps.mv (hn : ∀ a, μ.no a → μ'.no a) (hp : ∀ (i : Nat) a, μ.ad[i]? = some a → μ'.ad[i]? = some a) : ∀ (d : List D) (v : List V), Reps T μ H d v → Reps T μ' H d v
  | [], v, q => by simpa only [Reps] using q
  | x :: xs, v, q => by
    simp only [Reps] at q ⊢
    obtain ⟨w, r, e1, q1, q2⟩ := q
    exact ⟨w, r, e1, Rep.mv hn hp x w q1, Reps.mv hn hp xs r q2⟩
end
theorem RepB.mv (hn : ∀ a, μ.no a → μ'.no a) (hp : ∀ (i : Nat) a, μ.ad[i]? = some a → μ'.ad[i]? = some a) {b : Bx} {a : Addr} (q : RepB T μ H b a) : RepB T μ' H b a := by
  cases b with
  | lst lk xs => obtain ⟨vs, e1, q⟩ := q; exact ⟨vs, e1, Reps.mv hn hp _ _ q⟩
  | dct lk ks xs => obtain ⟨vs, e1, e2, q⟩ := q; exact ⟨vs, e1, e2, Reps.mv hn hp _ _ q⟩
  | dfz ks xs => obtain ⟨o, vs, e1, e2, q⟩ := q; exact ⟨o, vs, e1, e2, Reps.mv hn hp _ _ q⟩
  | obj c fs xs => obtain ⟨C, dx, vs, e1, e2, e3, q⟩ := q; exact ⟨C, dx, vs, e1, e2, e3, Reps.mv hn hp _ _ q⟩
  | tbl t => obtain ⟨a1, ps, e1, e2, e3⟩ := q; exact ⟨a1, ps, e1, e2, fun pos cv q => by obtain ⟨c, f1, f2, f3⟩ := e3 pos cv q; exact ⟨c, f1, f2, hn c f3⟩⟩
theorem upd_no {a : Addr} (hm : p ∈ μ.pr) (n : μ.no a) : upd H p o a = H a := upd_ne fun z => n.2 (by rw [z]; exact hm)
mutual
theorem Rep.pr (hm : p ∈ μ.pr) : ∀ (d : D) (v : V), Rep T μ H d v → Rep T μ (upd H p o) d v
  | .non, v, q => by simpa only [Rep] using q
  | .bl b, v, q => by simpa only [Rep] using q
  | .int b, v, q => by simpa only [Rep] using q
  | .str b, v, q => by simpa only [Rep] using q
  | .tup xs, v, q => by
    simp only [Rep] at q ⊢
    obtain ⟨a, vs, e1, e2, e3, e4⟩ := q
    exact ⟨a, vs, e1, (upd_no hm e3).trans e2, e3, Reps.pr hm xs vs e4⟩
  | .tpl xs, v, q => by
    simp only [Rep] at q ⊢
    obtain ⟨a, o, vs, e1, e2, c, e3, e4⟩ := q
    exact ⟨a, o, vs, e1, (upd_no hm e3).trans e2, c, e3, Reps.pr hm xs vs e4⟩
  | .lst xs, v, q => by
    simp only [Rep] at q ⊢
    obtain ⟨a, vs, e1, e2, e3, e4⟩ := q
    exact ⟨a, vs, e1, (upd_no hm e3).trans e2, e3, Reps.pr hm xs vs e4⟩
  | .dct ks xs, v, q => by
    simp only [Rep] at q ⊢
    obtain ⟨a, o, vs, e1, e2, e3, e4, e5⟩ := q
    exact ⟨a, o, vs, e1, (upd_no hm e3).trans e2, e3, e4, Reps.pr hm xs vs e5⟩
  | .obj c fs xs, v, q => by
    simp only [Rep] at q ⊢
    obtain ⟨a, C, dx, vs, e1, e2, e3, e4, e5, e6⟩ := q
    exact ⟨a, C, dx, vs, e1, e2, (upd_no hm e4).trans e3, e4, e5, Reps.pr hm xs vs e6⟩
  | .exo c fs xs, v, q => by
    simp only [Rep] at q ⊢
    obtain ⟨a, C, ob, us, vs, e1, e2, e3, eo, n, x, l, r⟩ := q
    exact ⟨a, C, ob, us, vs, e1, e2, (upd_no hm n).trans e3, eo, n, x.imp fun dx u z m => ⟨(upd_no hm m).trans z, m⟩, l, Reps.pr hm xs vs r⟩
  | .ref b, v, q => by simpa only [Rep] using q
  | .scr ns, v, q => by
    simp only [Rep] at q ⊢
    obtain ⟨a, e1, e2⟩ := q
    refine ⟨a, e1, ?_⟩
    rcases e2 with ⟨z1, z2⟩ | z
    · refine .inl ⟨?_, z2⟩
      rcases z1 with z1 | ⟨u, z1⟩
      · exact .inl ((upd_no hm z2).trans z1)
      · exact .inr ⟨u, (upd_no hm z2).trans z1⟩
    · exact .inr z
theorem Reps.pr (hm : p ∈ μ.pr) : ∀ (d : List D) (v : List V), Reps T μ H d v → Reps T μ (upd H p o) d v
  | [], v, q => by simpa only [Reps] using q
  | x :: xs, v, q => by
    simp only [Reps] at q ⊢
    obtain ⟨w, r, e1, q1, q2⟩ := q
    exact ⟨w, r, e1, Rep.pr hm x w q1, Reps.pr hm xs r q2⟩
end
theorem Rel.pr {o : HO} (r : Rel T μ h H) (hm : p ∈ μ.pr) (nt : ∀ xs, o ≠ .tup xs := by first | (intro xs z; cases z; done) | exact kvO_tup) : Rel T μ h (upd H p o) := by
  have np : p ∉ μ.ad := (r.prh p hm).2
  refine ⟨r.fb, fun a ha => ?_, r.lks, r.lkf, r.len, r.nd, fun i b a e1 e2 => ?_, r.lo, r.ord, r.wf⟩
  · obtain ⟨⟨ys, e, nt'⟩, n⟩ := r.prh a ha
    refine ⟨?_, n⟩
    by_cases hap : a = p
    · subst hap; exact ⟨_, upd_same, nt⟩
    · exact ⟨ys, by rw [upd_ne hap]; exact e, nt'⟩
  · have q := r.at_ i b a e1 e2
    have hne : a ≠ p := fun z => np (by rw [← z]; exact List.mem_of_getElem? e2)
    cases b with
    | lst lk ys => obtain ⟨vs, e3, q⟩ := q; exact ⟨vs, by rw [upd_ne hne]; exact e3, Reps.pr hm _ _ q⟩
    | dct lk ks ys => obtain ⟨vs, e3, e4, q⟩ := q; exact ⟨vs, by rw [upd_ne hne]; exact e3, e4, Reps.pr hm _ _ q⟩
    | dfz ks ys => obtain ⟨o, vs, e3, e4, q⟩ := q; exact ⟨o, vs, by rw [upd_ne hne]; exact e3, e4, Reps.pr hm _ _ q⟩
    | obj c fs ys => obtain ⟨C, dx, vs, e3, e4, e5, q⟩ := q; exact ⟨C, dx, vs, e3, by rw [upd_ne hne]; exact e4, e5, Reps.pr hm _ _ q⟩
    | tbl t => obtain ⟨a1, ps, e3, e4, e5⟩ := q; exact ⟨a1, ps, by rw [upd_ne hne]; exact e3, e4, fun pos cv z => by obtain ⟨c, f1, f2, f3⟩ := e5 pos cv z; exact ⟨c, f1, (upd_no hm f3).trans f2, f3⟩⟩
def Mu.prot (μ : Mu) (p : Addr) : Mu := { μ with pr := p :: μ.pr }
theorem Stp.prot (hp : H p = none) : Stp μ H (μ.prot p) (upd H p o) :=
  ⟨rfl, fun _ _ e => e, rfl, fun _ z => List.mem_cons_of_mem _ z, fun a z => by
    rcases List.mem_cons.mp z with y | y
    · subst y; exact .inr (.inr hp)
    · exact .inl y, fun a u e _ => by rw [upd_ne (ne_of_none e hp)]; exact e, fun _ e => .inl e⟩
theorem Rel.prot {o : HO} (r : Rel T μ h H) (hp : H p = none) (nt : ∀ xs, o ≠ .tup xs := by first | (intro xs z; cases z; done) | exact kvO_tup) : Rel T (μ.prot p) h (upd H p o) := by
  refine ⟨r.fb, fun a ha => ?_, r.lks, r.lkf, r.len, r.nd, fun i b a e1 e2 => ?_, r.lo, r.ord, r.wf⟩
  · rcases List.mem_cons.mp ha with z | z
    · subst z; exact ⟨⟨_, upd_same, nt⟩, r.not' hp⟩
    · obtain ⟨⟨ys, e, nt'⟩, n⟩ := r.prh a z
      exact ⟨⟨ys, by rw [upd_ne (ne_of_none e hp)]; exact e, nt'⟩, n⟩
  · exact (r.at_ i b a e1 e2).step (Stp.prot hp) (upd_ne fun z => by subst z; exact r.not' hp (List.mem_of_getElem? e2))
def Mu.unprot (μ : Mu) (p : Addr) : Mu := { μ with pr := μ.pr.filter fun a => decide (a ≠ p) }
theorem unprot_no {a : Addr} (n : μ.no a) : (μ.unprot p).no a := ⟨n.1, fun z => n.2 (List.mem_filter.mp z).1⟩
theorem Rel.unprot (r : Rel T μ h H) : Rel T (μ.unprot p) h H :=
  ⟨r.fb, fun a ha => r.prh a (List.mem_filter.mp ha).1, r.lks, r.lkf, r.len, r.nd, fun i b a e1 e2 => (r.at_ i b a e1 e2).mv (fun _ n => unprot_no n) (fun _ _ e => e), r.lo, r.ord, r.wf⟩
theorem Stp.unprot {μ1 : Mu} {H1 : Hp} {h1 : Bs} (r : Rel T μ1 h1 H1) (hp : H1 p = none) (s : Stp μ1 H1 μ H) : Stp μ1 H1 (μ.unprot p) H :=
  ⟨s.fbe, s.pre, s.lks, fun a z => List.mem_filter.mpr ⟨s.prs a z, by
    obtain ⟨⟨xs, e, _⟩, _⟩ := r.prh a z
    simp only [decide_eq_true_eq]
    exact ne_of_none e hp⟩, fun a z => s.prn a (List.mem_filter.mp z).1, s.keep', s.new⟩
theorem Rel.adopt {xs : List D} {vs : List V} (r : Rel T μ h H) (hm : p ∈ μ.pr) (e : H p = some (.lst vs)) (q : Reps T μ H xs vs) : Rel T ((μ.unprot p).push p) { h with bs := h.bs ++ [.lst false xs] } H := by
  have np : p ∉ μ.ad := (r.prh p hm).2
  have hn : ∀ a, μ.no a → ((μ.unprot p).push p).no a := fun a n => ⟨fun z => by
    rcases List.mem_append.mp (show a ∈ μ.ad ++ [p] from z) with z | z
    · exact n.1 z
    · have : a = p := by simpa using z
      subst this; exact n.2 hm, fun z => n.2 (List.mem_filter.mp z).1⟩
  have hpre : ∀ (i : Nat) a, μ.ad[i]? = some a → ((μ.unprot p).push p).ad[i]? = some a := fun i a e => by
    show (μ.ad ++ [p])[i]? = some a
    rw [List.getElem?_append_left (List.getElem?_eq_some_iff.mp e).1]; exact e
  refine ⟨r.fb, fun a ha => ?_, fun a ha => ?_, fun b0 ys a e1 e1l e2' => ?_, by simp [Mu.push, Mu.unprot, r.len], ?_, fun i b' a e1 e2' => ?_, fun k hk' => by simpa using Nat.le_succ_of_le (r.lo k hk'), r.ord, fun k hk' i b' hi e' => ?_⟩
  · obtain ⟨h1, h2⟩ := List.mem_filter.mp (show a ∈ μ.pr.filter fun a => decide (a ≠ p) from ha)
    obtain ⟨hx, n⟩ := r.prh a h1
    refine ⟨hx, fun z => ?_⟩
    rcases List.mem_append.mp (show a ∈ μ.ad ++ [p] from z) with z | z
    · exact n z
    · have : a = p := by simpa using z
      simp [this] at h2
  · obtain ⟨b0, ys, e1, e2, e2l⟩ := r.lks a ha
    refine ⟨b0, ys, hpre _ _ e1, ?_, e2l⟩
    show (h.bs ++ [_])[b0]? = _
    rw [List.getElem?_append_left (List.getElem?_eq_some_iff.mp e2).1]
    exact e2
  · have e2 : (μ.ad ++ [p])[b0]? = some a := e2'
    have e1' : (h.bs ++ [Bx.lst false xs])[b0]? = some ys := e1
    by_cases hi : b0 < μ.ad.length
    · rw [List.getElem?_append_left hi] at e2
      rw [List.getElem?_append_left (by rw [← r.len]; exact hi)] at e1'
      exact r.lkf b0 ys a e1' e1l e2
    · rw [List.getElem?_append_right (by rw [← r.len]; omega)] at e1'
      have h0 : b0 - h.bs.length = 0 := by
        have := (List.getElem?_eq_some_iff.mp e1').1
        simp at this; omega
      rw [h0] at e1'
      simp at e1'
      rw [← e1'] at e1l
      cases e1l
  · show (μ.ad ++ [p]).Nodup
    rw [List.nodup_append]
    refine ⟨r.nd, by simp, fun x hx y hy => ?_⟩
    have : y = p := by simpa using hy
    subst this
    intro z; subst z
    exact np hx
  · have e2 : (μ.ad ++ [p])[i]? = some a := e2'
    by_cases hi : i < μ.ad.length
    · rw [List.getElem?_append_left hi] at e2
      have e1' : (h.bs ++ [Bx.lst false xs])[i]? = some b' := e1
      rw [List.getElem?_append_left (by rw [← r.len]; exact hi)] at e1'
      exact (r.at_ i b' a e1' e2).mv hn hpre
    · rw [List.getElem?_append_right (by omega)] at e2
      have e1' : (h.bs ++ [Bx.lst false xs])[i]? = some b' := e1
      rw [List.getElem?_append_right (by rw [← r.len]; omega), ← r.len] at e1'
      have h0 : i - μ.ad.length = 0 := by
        have := (List.getElem?_eq_some_iff.mp e2).1
        simp at this; omega
      rw [h0] at e1' e2
      simp at e1' e2
      subst e1'; subst e2
      exact ⟨vs, e, Reps.mv hn hpre _ _ q⟩
  · have hl : i < h.bs.length := Nat.lt_of_lt_of_le hi (r.lo k hk')
    have e'' : (h.bs ++ [Bx.lst false xs])[i]? = some b' := e'
    rw [List.getElem?_append_left hl] at e''
    exact r.wf k hk' i b' hi e''
theorem Stp.adopt {μ1 : Mu} {H1 : Hp} {h1 : Bs} (r : Rel T μ1 h1 H1) (hp : H1 p = none) (s : Stp μ1 H1 μ H) : Stp μ1 H1 ((μ.unprot p).push p) H := by
  have s' := Stp.unprot r hp s
  refine ⟨s'.fbe, fun i a e => ?_, s'.lks, s'.prs, s'.prn, s'.keep', fun a z => ?_⟩
  · show (μ.ad ++ [p])[i]? = some a
    have := s.pre i a e
    rw [List.getElem?_append_left (List.getElem?_eq_some_iff.mp this).1]; exact this
  · rcases List.mem_append.mp (show a ∈ μ.ad ++ [p] from z) with z | z
    · exact s.new a z
    · have : a = p := by simpa using z
      subst this; exact .inr hp
end
end VI
end
section
namespace VI
open PySem PySem.Spec PyProof.Rows L2
abbrev SB := Ev → Bs → R Bool
def lcS (g : SG) (tt : SB) (el : SV) (ρ : Ev) : List VI.D → Bs → R (List VI.D)
  | [], h => .ok [] h
  | d :: ds, h => match g d ρ h with
    | .ok ρ1 h1 => (match tt ρ1 h1 with
      | .ok true h2 => (match el ρ1 h2 with
        | .ok y h3 => (match lcS g tt el ρ ds h3 with
          | .ok ys h4 => .ok (y :: ys) h4
          | _ => .no)
        | _ => .no)
      | .ok false h2 => lcS g tt el ρ ds h2
      | _ => .no)
    | _ => .no
def wipeE (ρ : Ev) : List Nat → Ev
  | [] => ρ
  | v :: vs => (wipeE ρ vs).set v none
def sLc (bx : Bool) (own : List Nat) (it : SI) (g : SG) (tt : SB) (el : SV) : SV := fun ρ h =>
  (it ρ h).bind fun u h1 => (unlR u.2 (lcS g tt el (wipeE ρ own) u.1 (lockO u.2 h1))).bind fun ys h2 => newL bx ys h2
section
variable {X : Cx} {T : Tb} {W : WX} {μ μ' : Mu} {H H' : Hp} {h : Bs} {σ : Sg} {ρ : Ev} {tg : Expr} {p : Addr} {o : HO}
theorem RepE.none (e : RepE T μ H ρ σ) (i : Nat) : RepE T μ H (ρ.set i none) (σ.set i none) := by
  refine ⟨by simp [e.1], fun j d q => ?_⟩
  by_cases hj : i = j
  · subst hj
    have hl : i < ρ.length := by
      have := (List.getElem?_eq_some_iff.mp q).1
      simpa using this
    rw [List.getElem?_set_self hl] at q
    cases q
  · rw [List.getElem?_set_ne hj] at q ⊢
    exact e.2 j d q
theorem RepE.wipe (e : RepE T μ H ρ σ) : ∀ own : List Nat, RepE T μ H (wipeE ρ own) (L2.wipe σ own)
  | [] => e
  | v :: vs => (RepE.wipe e vs).none v
theorem RepE.pr (hm : p ∈ μ.pr) (e : RepE T μ H ρ σ) : RepE T μ (upd H p o) ρ σ := ⟨e.1, fun i d q => by
  obtain ⟨v, e1, r⟩ := e.2 i d q
  exact ⟨v, e1, Rep.pr hm d v r⟩⟩
theorem Stp.over (s : Stp μ H μ' H') (hp : H p = none) : Stp μ H μ' (upd H' p o) :=
  ⟨s.fbe, s.pre, s.lks, s.prs, s.prn, fun a u e n => by rw [upd_ne (ne_of_none e hp)]; exact s.keep' a u e n, s.new⟩
theorem newL_prot {bx : Bool} {ys : List VI.D} {acc : List V} {μ1 : Mu} {H1 : Hp} {h1 : Bs} {Q : VK} (o : OutV T W σ μ1 H1 Q (newL bx ys h)) (r1 : Rel T μ1 h1 H1) (hp : H1 p = none) (s : Stp μ1 H1 μ H) (r : Rel T μ h H) (hm : p ∈ μ.pr)
    (e : H p = some (.lst acc)) (q : Reps T μ H ys acc) : Q (.ref p) H := by
  unfold newL at o
  split at o
  · cases bx with
    | false =>
      refine o _ H _ (Stp.unprot r1 hp s) r.unprot ?_
      simp only [Rep]
      exact ⟨p, acc, rfl, e, ⟨(r.prh p hm).2, fun z => by simpa using (List.mem_filter.mp z).2⟩, Reps.mv (fun _ n => unprot_no n) (fun _ _ e => e) _ _ q⟩
    | true =>
      refine o _ H _ (Stp.adopt r1 hp s) (r.adopt hm e q) ?_
      simp only [Rep]
      refine ⟨p, ?_, rfl⟩
      show (μ.ad ++ [p])[h.bs.length]? = some p
      rw [← r.len]; simp
  · exact o.elim
theorem newL_len {bx : Bool} {ys : List VI.D} {μ1 : Mu} {H1 : Hp} {Q : VK} (o : OutV T W σ μ1 H1 Q (newL bx ys h)) : ys.length ≤ sizeLine := by
  unfold newL at o
  split at o
  · assumption
  · exact o.elim
theorem lc_imp {bx : Bool} {own : List Nat} {it : SI} {g : SG} {tt : SB} {el : SV} : ∀ σ H Q, tV T W (sLc bx own it g tt el) σ H Q → tLc (tI' T W it) (tG' T own g) (tB' T noW tt) (tV T noW el) own σ H Q := fun σ H Q ⟨μ, ρ, h, r, e, o⟩ => by
  refine ⟨μ, ρ, h, r, e, ?_⟩
  unfold sLc at o
  cases q : it ρ h with
  | no => rw [q] at o; exact o
  | ex x h1 => rw [q] at o; exact o
  | ok u h1 =>
    rw [q] at o
    simp only [R.bind] at o
    intro μ1 H1 J s1 r1 l wk
    have o1 := OutV.step o s1
    obtain ⟨items, lk⟩ := u
    simp only at o1 l wk
    cases q2 : lcS g tt el (wipeE ρ own) items (lockO lk h1) with
    | no => rw [q2] at o1; exact o1.elim
    | ex x h2 =>
      exfalso
      have key : ∀ (ds : List VI.D) (h : Bs) (x : Ex) (h' : Bs), lcS g tt el (wipeE ρ own) ds h ≠ .ex x h' := by
        intro ds
        induction ds with
        | nil => intro h x h' z; simp [lcS] at z
        | cons d ds ih =>
          intro h x h' z
          simp only [lcS] at z
          repeat' split at z
          all_goals first | (cases z; done) | exact ih _ _ _ z
      exact key _ _ _ _ q2
    | ok ys h2 =>
      rw [q2] at o1
      simp only [unlR] at o1
      have o2 : OutV T W σ μ1 H1 Q (newL bx ys (unlO lk h2)) := o1
      have hlen := newL_len o2
      intro D hD
      have rL : Rel T (lockMu μ1 lk) (lockO lk h1) H1 := r1.lock lk fun b z => (l b z).2
      have eL : RepE T (lockMu μ1 lk) H1 ρ σ := (e.step s1).ad lockMu_ad lockMu_pr
      let P : Nat → Hp → Prop := fun i H => ∃ μ h acc accD, Stp (lockMu μ1 lk) H1 μ H ∧ Rel T μ h H ∧ D ∈ μ.pr ∧ H D = some (.lst acc) ∧ Reps T μ H accD acc ∧ RepE T μ H ρ σ ∧
        ∃ ys', lcS g tt el (wipeE ρ own) (items.drop i) h = .ok ys' h2 ∧ accD ++ ys' = ys
      have h0 : P 0 (upd H1 D (.lst [])) := ⟨(lockMu μ1 lk).prot D, lockO lk h1, [], [], Stp.prot hD, rL.prot hD, List.mem_cons_self, upd_same, .nil, eL.step (Stp.prot hD), ys, by simpa using q2, rfl⟩
      refine ⟨fun i m H => m = items.length - i ∧ i ≤ items.length ∧ P i H, ⟨_, rfl, Nat.zero_le _, h0⟩, ?_⟩
      rintro i m H2 ⟨rfl, hi, μ2, hh, acc, accD, s2, r2, hm2, hD2, q2r, e2, ys', c2, ey⟩
      by_cases hlt : i < items.length
      · refine .inr ⟨wk.goes i μ2 H2 hlt s2, P (i + 1), fun H' p => ⟨items.length - (i + 1), by omega, rfl, hlt, p⟩, fun x H3 y => ?_⟩
        obtain ⟨d, hd, s3, r3, rv⟩ := wk.yields i μ2 H2 hh x H3 hlt s2 r2 y
        have ed : items.drop i = d :: items.drop (i + 1) := by
          rw [List.drop_eq_getElem_cons hlt]
          rw [List.getElem?_eq_getElem hlt] at hd
          cases hd; rfl
        rw [ed] at c2
        simp only [lcS] at c2
        have e3 : RepE T μ2 H3 ρ σ := e2.step s3
        refine ⟨μ2, wipeE ρ own, hh, d, r3, e3.wipe own, rv, ?_⟩
        cases q3 : g d (wipeE ρ own) hh with
        | no => rw [q3] at c2; cases c2
        | ex x h3 => rw [q3] at c2; cases c2
        | ok ρ4 h4 =>
          rw [q3] at c2
          simp only at c2
          intro μ4 H4 σ4 s4 r4 e4 w4
          have wid : ∀ (own : List Nat) (σ : Sg), L2.wipe (L2.wipe σ own) own = L2.wipe σ own := by
            intro own σ
            apply List.ext_getElem?
            intro j
            by_cases hj : j ∈ own
            · have key : ∀ (os : List Nat) (τ : Sg), j ∈ os → (L2.wipe τ os)[j]? = (if j < τ.length then some none else none) := by
                intro os
                induction os with
                | nil => intro τ z; cases z
                | cons o os ih =>
                  intro τ z
                  unfold L2.wipe
                  by_cases ho : o = j
                  · subst ho
                    rw [List.getElem?_set]
                    simp [wipe_length]
                  · rw [List.getElem?_set_ne ho]
                    rcases List.mem_cons.mp z with z | z
                    · exact absurd z.symm ho
                    · exact ih τ z
              rw [key own _ hj, key own _ hj, wipe_length]
            · rw [wipe_out hj]
          refine ⟨by rw [w4, wid], ?_⟩
          refine ⟨μ4, ρ4, h4, r4, e4, ?_⟩
          have hm4 : D ∈ μ4.pr := s4.prs D (s3.prs D hm2)
          have hD3 : H3 D = some (.lst acc) := s3.keep D _ hD2 (r2.prh D hm2).2
          have hD4 : H4 D = some (.lst acc) := s4.keep D _ hD3 (r3.prh D hm2).2
          have q4r : Reps T μ4 H4 accD acc := Reps.step s4 _ _ (Reps.step s3 _ _ q2r)
          have s24 : Stp (lockMu μ1 lk) H1 μ4 H4 := (s2.trans s3).trans s4
          have e24 : RepE T μ4 H4 ρ σ := e3.step s4
          cases q4 : tt ρ4 h4 with
          | no => rw [q4] at c2; cases c2
          | ex x h5 => rw [q4] at c2; cases c2
          | ok b h5 =>
            rw [q4] at c2
            cases b with
            | false =>
              simp only at c2
              intro μ5 H5 s5 r5
              simp only [Bool.false_eq_true, if_false]
              exact ⟨μ5, h5, acc, accD, s24.trans s5, r5, s5.prs D hm4, s5.keep D _ hD4 (r4.prh D hm4).2, Reps.step s5 _ _ q4r, e24.step s5, ys', c2, ey⟩
            | true =>
              simp only at c2
              intro μ5 H5 s5 r5
              simp only [if_true]
              refine ⟨μ5, ρ4, h5, r5, e4.step s5, ?_⟩
              have hm5 : D ∈ μ5.pr := s5.prs D hm4
              have hD5 : H5 D = some (.lst acc) := s5.keep D _ hD4 (r4.prh D hm4).2
              cases q5 : el ρ4 h5 with
              | no => rw [q5] at c2; cases c2
              | ex x h6 => rw [q5] at c2; cases c2
              | ok z h6 =>
                rw [q5] at c2
                simp only at c2
                cases q6 : lcS g tt el (wipeE ρ own) (items.drop (i + 1)) h6 with
                | no => rw [q6] at c2; cases c2
                | ex x h7 => rw [q6] at c2; cases c2
                | ok zs h7 =>
                  rw [q6] at c2
                  cases c2
                  intro μ6 H6 v6 s6 r6 rv6
                  have hm6 : D ∈ μ6.pr := s6.prs D hm5
                  have hD6 : H6 D = some (.lst acc) := s6.keep D _ hD5 (r5.prh D hm5).2
                  have q6r : Reps T μ6 H6 accD acc := Reps.step s6 _ _ (Reps.step s5 _ _ q4r)
                  have hl : acc.length < sizeLine := by
                    have h1 := q6r.length
                    have h2 := congrArg List.length ey
                    rw [List.length_append, List.length_cons] at h2
                    omega
                  exact ⟨acc, hD6, hl, μ6, h6, acc ++ [v6], accD ++ [z], ((s24.trans s5).trans s6).over hD, r6.pr hm6, hm6, upd_same, Reps.pr hm6 _ _ (q6r.append (.one rv6)), ((e24.step s5).step s6).pr hm6, zs, q6, by rw [List.append_assoc]; exact ey⟩
      · have ei : i = items.length := by omega
        subst ei
        refine .inl ⟨wk.stops μ2 H2 s2, ?_⟩
        rw [List.drop_length] at c2
        simp only [lcS] at c2
        cases c2
        rw [List.append_nil] at ey
        subst ey
        obtain ⟨ru, su⟩ := Rel.unlock lk (l.low r1) s2 r2
        exact newL_prot o2 r1 hD su ru hm2 hD2 (Reps.ad (μ := μ2) (μ' := { μ2 with lk := μ1.lk }) rfl rfl _ _ q2r)
end
end VI
end
section
namespace VI
open PySem PySem.Spec PyProof.Rows L2
section
variable {X : Cx} {T : Tb} {W : WX} {μ μ' : Mu} {H H' : Hp} {h : Bs} {σ : Sg} {ρ : Ev} {tg : Expr} {p : Addr} {o : HO}
theorem ptv_nil : PTs X [] (tB' T W fun _ h => .ok true h) := ⟨fun pins s σ H Q I w => pts_nil.run pins s σ H Q I (by obtain ⟨μ, ρ, h, r, e, o⟩ := w; exact o μ H Stp.refl r)⟩
theorem ptv_one {c : Expr} {s : SB} (h : PT X c (tB' T W s)) : PTs X [c] (tB' T W s) := pts_one h
variable {elt iter : Expr} {ifs : List Expr} {scope : Scope} {own : List (Str × Nat)} {pos : Pos} {it : SI} {g : SG} {tt : SB} {el : SV}
theorem pv_lc {bx : Bool} (hc : X.calm = true) (hN : X.N.Nodup) (hi : PI X tg iter (tI' T W it)) (ok : BlkOk X.N X.env.scope scope own)
    (hg : ∀ (s : Shared) (H : Hp) (C : Addr) (cl : List (Str × Addr)) (fp : List Addr), PG (X.blk s H scope (compEnvC scope cl C X.env) fp) tg (tG' T (own.map (·.2)) g))
    (ht : ∀ (s : Shared) (H : Hp) (C : Addr) (cl : List (Str × Addr)) (fp : List Addr), PTs (X.blk s H scope (compEnvC scope cl C X.env) fp) ifs (tB' T noW tt))
    (he : ∀ (s : Shared) (H : Hp) (C : Addr) (cl : List (Str × Addr)) (fp : List Addr), PE (X.blk s H scope (compEnvC scope cl C X.env) fp) elt (tV T noW el)) (hs : ∀ x, foldedSetIterable iter X.env x = pure x) :
    PE X (.ListComp elt [⟨tg, iter, ifs, 0⟩] scope pos) (tV T W (sLc bx (own.map (·.2)) it g tt el)) := PE.imp (pe_lc hc hN hi ok hg ht he hs) lc_imp
theorem psv_setLc {bx : Bool} {i : Nat} {y : Str} {py spos : Pos} (hc : X.calm = true) (hN : X.N.Nodup) (hy : X.N[i]? = some y) (hyl : X.env.scope.names.lookup y = some .local)
    (hsw : swapsWith (.ListComp elt [⟨tg, iter, ifs, 0⟩] scope pos) (some (.Name y py)) spos.line X.env = pure true) (hi : PI X tg iter (tI' T W it)) (ok : BlkOk X.N X.env.scope scope own)
    (hg : ∀ (s : Shared) (H : Hp) (C : Addr) (cl : List (Str × Addr)) (fp : List Addr), PG (X.blk s H scope (compEnvC scope cl C X.env) fp) tg (tG' T (own.map (·.2)) g))
    (ht : ∀ (s : Shared) (H : Hp) (C : Addr) (cl : List (Str × Addr)) (fp : List Addr), PTs (X.blk s H scope (compEnvC scope cl C X.env) fp) ifs (tB' T noW tt))
    (he : ∀ (s : Shared) (H : Hp) (C : Addr) (cl : List (Str × Addr)) (fp : List Addr), PE (X.blk s H scope (compEnvC scope cl C X.env) fp) elt (tV T noW el)) (hs : ∀ x, foldedSetIterable iter X.env x = pure x) :
    PS X (.Assign [.Name y py] (.ListComp elt [⟨tg, iter, ifs, 0⟩] scope pos) spos) (tS' T W (ssAsg (sLc bx (own.map (·.2)) it g tt el) (sgName i))) :=
  PS.imp (ps_setLc hc hN hy hyl hsw hi ok hg ht he hs) fun D σ H w => by
    have w' := asgN_imp D σ H w
    exact lc_imp σ H _ w'
def spF (T : Tb) (f : List D → Bs → R D) : Sp := fun vs H Q E => ∃ μ h ds, Rel T μ h H ∧ Reps T μ H ds vs ∧ OutV T (fun c d _ H => E c d H) [] μ H Q (f ds h)
variable {k : Nat} {f : Addr} {fd : FuncData} {ps : List Str} {x : Str} {q : Pos} {e : Expr} {es : List Expr} {cf : List D → Bs → R D} {sa : SA}
theorem OutV.sig {Q : VK} {r : R D} {σ' : Sg} (o : OutV T W σ μ H Q r) : OutV T (fun c d _ H => W c d σ H) σ' μ H Q r := by
  cases r with
  | ok d h => exact o
  | ex x h => exact o
  | no => exact o
theorem fn_imp : ∀ σ H Q, tV T W (sCall cf sa) σ H Q → tCallSD (spF T cf) [] (WE W) (tA' T W sa) σ H Q := fun σ H Q ⟨μ, ρ, h, r, e, o⟩ => by
  refine ⟨μ, ρ, h, r, e, OutA.mono (OutV.bindA o) ?_⟩
  rintro v H1 ⟨μ1, d, h1, s1, r1, rv, o1⟩
  exact ⟨μ1, h1, d, r1, by simpa using rv, o1.sig⟩
theorem pv_call (F : FnOk X.prog X.w X.K X.mg X.base (CX X.prog X.w) k f fd ps (spF T cf)) (hr : Room k X.A) (hg : Gl X x) (hm : X.mg x = some (.ref f)) (hk : PySem.W.keepIn X.K (.ref f) = true) (hb : Binds X.K fd ps []) (tk : Takes X W)
    (hdb : (x == ("__debug__" : Str)) = false) (hs : noStars (e :: es) = true) (ha : PA X (e :: es) (tA' T W sa)) : PE X (.Call (.Name x q) (e :: es) [] pos) (tV T W (sCall cf sa)) := by
  simp only [noStars, List.all_cons, Bool.and_eq_true, Bool.not_eq_true'] at hs
  exact PE.imp (pe_callSD F hr hg hm hk hb .nil (fun σ => passAt tk σ) ha hdb (star_no hs.1) (back_no (show noStars es = true from hs.2))) fn_imp
end
end VI
end
section
namespace VI
open PySem PySem.Spec PyProof.Rows L2
def noSuper : Expr → Bool
  | .Call (.Name id _) [] [] _ => id != ("super" : Str)
  | _ => true
theorem abase {o : Expr} {attr : Str} {env : Env} {whole : Sem Value} (h : noSuper o = true) : attributeBase o attr env whole = whole := by
  unfold noSuper at h
  split at h
  · exact abase_call h
  · rename_i hn
    unfold attributeBase
    split
    · exact absurd rfl (hn _ _ _)
    · rfl
theorem form_ok {n : Nat} {pos : Pos} {env : Env} {es : List Expr} (hs : noStars es = true) (hn : n < 30) : methodCallForm n (backTo pos (starEach es env)) (backToKw pos (keywordEach [] env)) = true := by
  unfold methodCallForm
  have e1 : (backTo pos (starEach es env)).all (fun x => !x.1) = true := by
    have := back_no (pos := pos) (env := env) hs
    rw [List.all_eq_true]
    intro z hz
    rw [List.any_eq_false] at this
    simpa using this z hz
  have e2 : (backToKw pos (keywordEach [] env)) = [] := rfl
  rw [e2, e1]
  simp [hn]
section
variable {X : Cx} {T : Tb} {W : WX} {μ μ' : Mu} {H H' : Hp} {h : Bs} {σ : Sg} {ρ : Ev}
def fldOf (f : Nat) : List Nat → List D → Option D
  | g :: gs, x :: xs => if g = f then some x else fldOf f gs xs
  | _, _ => none
def insOf (h : Bs) : D → Option (Nat × List Nat × List D)
  | .obj c fs vs => some (c, fs, vs)
  | .ref b => (match h.bs[b]? with | some (.obj c fs vs) => some (c, fs, vs) | _ => none)
  | _ => none
theorem Rel.insOf (r : Rel T μ h H) {d : D} {v : V} {c : Nat} {fs : List Nat} {xs : List D} (q : Rep T μ H d v) (e : insOf h d = some (c, fs, xs)) :
    ∃ a C dx vs, v = .ref a ∧ T.cls c = some C ∧ H a = some (.ins C dx ((fs.map T.att).zip vs)) ∧ fs.length = vs.length ∧ Reps T μ H xs vs := by
  cases d with
  | obj c' fs' xs' =>
    simp only [VI.insOf] at e; cases e
    simp only [Rep] at q
    obtain ⟨a, C, dx, vs, e1, e2, e3, _, e5, e6⟩ := q
    exact ⟨a, C, dx, vs, e1, e2, e3, e5, e6⟩
  | ref b =>
    simp only [VI.insOf] at e
    split at e
    · rename_i hb
      cases e
      simp only [Rep] at q
      obtain ⟨a, e1, e2⟩ := q
      obtain ⟨C, dx, vs, e3, e4, e5, e6⟩ := r.at_ _ _ a hb e1
      exact ⟨a, C, dx, vs, e2, e3, e4, e5, e6⟩
    · cases e
  | _ => simp [VI.insOf] at e
def fldD (T : Tb) (f : Nat) (d : D) (h : Bs) : R D := match insOf h d with
  | some (c, fs, xs) => if T.fok c f then (match fldOf f fs xs with
    | some x => .ok x h
    | none => .no) else .no
  | none => .no
end
end VI
end
section
namespace VI
open PySem PySem.Spec PyProof.Rows L2
section
variable {X : Cx} {T : Tb} {W : WX} {μ μ' : Mu} {H H' : Hp} {h : Bs} {σ : Sg} {ρ : Ev}
mutual
def frzD (g : Nat → Option D) : D → Option D
  | .tup xs => (match frzDs g xs with | some ys => some (.tup ys) | none => none)
  | .tpl xs => (match frzDs g xs with | some ys => some (.tpl ys) | none => none)
  | .lst xs => (match frzDs g xs with | some ys => some (.lst ys) | none => none)
  | .dct ks vs => (match frzDs g vs with | some ys => some (.dct ks ys) | none => none)
  | .obj c fs vs => (match frzDs g vs with | some ys => some (.obj c fs ys) | none => none)
  | .exo c fs vs => (match frzDs g vs with | some ys => some (.exo c fs ys) | none => none)
  | .ref b => g b
  | .non => some .non
  | .bl b => some (.bl b)
  | .int i => some (.int i)
  | .str x => some (.str x)
  | .scr ns => some (.scr ns)
def frzDs (g : Nat → Option D) : List D → Option (List D)
  | [] => some []
  | x :: xs => (match frzD g x with
    | some y => (match frzDs g xs with | some ys => some (y :: ys) | none => none)
    | none => none)
end
def frzR (fb : Nat) (bs : List Bx) : Nat → Nat → Option D
  | 0, b => if b < fb then some (.ref b) else none
  | n + 1, b => if b < fb then some (.ref b) else match bs[b]? with
    | some (.lst _ xs) => (match frzDs (frzR fb bs n) xs with | some ys => some (.lst ys) | none => none)
    | some (.obj c fs xs) => (match frzDs (frzR fb bs n) xs with | some ys => some (.obj c fs ys) | none => none)
    | some (.dfz ks xs) => (match frzDs (frzR fb bs n) xs with | some ys => some (.dct ks ys) | none => none)
    | _ => none
def Mu.cut (μ : Mu) (n : Nat) : Mu := { μ with ad := μ.ad.take n, fb := μ.fb.tail }
theorem cut_no {n : Nat} {a : Addr} (n' : μ.no a) : (μ.cut n).no a := ⟨fun z => n'.1 (List.mem_of_mem_take z), n'.2⟩
mutual
theorem frzD_ok {n : Nat} {g : Nat → Option D} (hg : ∀ b d v, g b = some d → Rep T μ H (.ref b) v → Rep T (μ.cut n) H d v) : ∀ (d d' : D) (v : V), frzD g d = some d' → Rep T μ H d v → Rep T (μ.cut n) H d' v
  | .non, d', v, e, q => by simp only [frzD] at e; cases e; simpa only [Rep] using q
  | .bl b, d', v, e, q => by simp only [frzD] at e; cases e; simpa only [Rep] using q
  | .int b, d', v, e, q => by simp only [frzD] at e; cases e; simpa only [Rep] using q
  | .str b, d', v, e, q => by simp only [frzD] at e; cases e; simpa only [Rep] using q
  | .scr b, d', v, e, q => by
    simp only [frzD] at e; cases e
    simp only [Rep] at q ⊢
    obtain ⟨a, e1, e2⟩ := q
    refine ⟨a, e1, ?_⟩
    rcases e2 with ⟨z1, z2⟩ | z
    · exact .inl ⟨z1, cut_no z2⟩
    · exact .inr z
  | .ref b, d', v, e, q => by simp only [frzD] at e; exact hg b d' v e q
  | .dct ks xs, d', v, e, q => by
    simp only [frzD] at e
    cases z : frzDs g xs with
    | none => rw [z] at e; cases e
    | some ys =>
      rw [z] at e; cases e
      simp only [Rep] at q ⊢
      obtain ⟨a, o, vs, e1, e2, e3, e4, e5⟩ := q
      exact ⟨a, o, vs, e1, e2, cut_no e3, e4, frzDs_ok hg xs ys vs z e5⟩
  | .tup xs, d', v, e, q => by
    simp only [frzD] at e
    cases z : frzDs g xs with
    | none => rw [z] at e; cases e
    | some ys =>
      rw [z] at e; cases e
      simp only [Rep] at q ⊢
      obtain ⟨a, vs, e1, e2, e3, e4⟩ := q
      exact ⟨a, vs, e1, e2, cut_no e3, frzDs_ok hg xs ys vs z e4⟩
  | .tpl xs, d', v, e, q => by
    simp only [frzD] at e
    cases z : frzDs g xs with
    | none => rw [z] at e; cases e
    | some ys =>
      rw [z] at e; cases e
      simp only [Rep] at q ⊢
      obtain ⟨a, o, vs, e1, e2, c, e3, e4⟩ := q
      exact ⟨a, o, vs, e1, e2, c, cut_no e3, frzDs_ok hg xs ys vs z e4⟩
  | .lst xs, d', v, e, q => by
    simp only [frzD] at e
    cases z : frzDs g xs with
    | none => rw [z] at e; cases e
    | some ys =>
      rw [z] at e; cases e
      simp only [Rep] at q ⊢
      obtain ⟨a, vs, e1, e2, e3, e4⟩ := q
      exact ⟨a, vs, e1, e2, cut_no e3, frzDs_ok hg xs ys vs z e4⟩
  | .obj c fs xs, d', v, e, q => by
    simp only [frzD] at e
    cases z : frzDs g xs with
    | none => rw [z] at e; cases e
    | some ys =>
      rw [z] at e; cases e
      simp only [Rep] at q ⊢
      obtain ⟨a, C, dx, vs, e1, e2, e3, e4, e5, e6⟩ := q
      exact ⟨a, C, dx, vs, e1, e2, e3, cut_no e4, e5, frzDs_ok hg xs ys vs z e6⟩
  | .exo c fs xs, d', v, e, q => by
    simp only [frzD] at e
    cases z : frzDs g xs with
    | none => rw [z] at e; cases e
    | some ys =>
      rw [z] at e; cases e
      simp only [Rep] at q ⊢
      obtain ⟨a, C, o, us, vs, e1, e2, e3, eo, n, x, l, r⟩ := q
      exact ⟨a, C, o, us, vs, e1, e2, e3, eo, cut_no n, x.imp fun dx u z m => ⟨z, cut_no m⟩, l, frzDs_ok hg xs ys vs z r⟩
theorem frzDs_ok {n : Nat} {g : Nat → Option D} (hg : ∀ b d v, g b = some d → Rep T μ H (.ref b) v → Rep T (μ.cut n) H d v) : ∀ (d d' : List D) (v : List V), frzDs g d = some d' → Reps T μ H d v → Reps T (μ.cut n) H d' v
  | [], d', v, e, q => by simp only [frzDs] at e; cases e; simpa only [Reps] using q
  | x :: xs, d', v, e, q => by
    simp only [frzDs] at e
    cases z : frzD g x with
    | none => rw [z] at e; cases e
    | some y =>
      rw [z] at e
      cases z2 : frzDs g xs with
      | none => rw [z2] at e; cases e
      | some ys =>
        rw [z2] at e; cases e
        simp only [Reps] at q ⊢
        obtain ⟨w, r, e1, q1, q2⟩ := q
        exact ⟨w, r, e1, frzD_ok hg x y w z q1, frzDs_ok hg xs ys r z2 q2⟩
end
theorem frzR_ok (r : Rel T μ h H) {fb : Nat} : ∀ (n b : Nat) (d : D) (v : V), frzR fb h.bs n b = some d → Rep T μ H (.ref b) v → Rep T (μ.cut fb) H d v := by
  have low : ∀ (b : Nat) (v : V), b < fb → Rep T μ H (.ref b) v → Rep T (μ.cut fb) H (.ref b) v := fun b v hb q => by
    simp only [Rep] at q ⊢
    obtain ⟨a, e1, e2⟩ := q
    exact ⟨a, by show (μ.ad.take fb)[b]? = some a; rw [List.getElem?_take_of_lt hb]; exact e1, e2⟩
  have out : ∀ (b : Nat) (a : Addr), ¬ b < fb → μ.ad[b]? = some a → (μ.cut fb).no a := fun b a hb e => by
    refine ⟨fun z => ?_, fun z => (r.prh a z).2 (List.mem_of_getElem? e)⟩
    obtain ⟨j, hj⟩ := List.getElem?_of_mem (show a ∈ μ.ad.take fb from z)
    have hj' : j < fb := by
      have := (List.getElem?_eq_some_iff.mp hj).1
      rw [List.length_take] at this
      omega
    rw [List.getElem?_take_of_lt hj'] at hj
    obtain ⟨p1, q1⟩ := List.getElem?_eq_some_iff.mp e
    obtain ⟨p2, q2⟩ := List.getElem?_eq_some_iff.mp hj
    have := (List.getElem_inj (h₀ := p1) (h₁ := p2) r.nd).mp (q1.trans q2.symm)
    omega
  intro n
  induction n with
  | zero =>
    intro b d v e q
    simp only [frzR] at e
    split at e
    · rename_i hb; cases e; exact low b v hb q
    · cases e
  | succ n ih =>
    intro b d v e q
    simp only [frzR] at e
    split at e
    · rename_i hb; cases e; exact low b v hb q
    · rename_i hb
      have q' := q
      simp only [Rep] at q'
      obtain ⟨a, e1, e2⟩ := q'
      split at e
      · rename_i lk xs hx
        cases z : frzDs (frzR fb h.bs n) xs with
        | none => rw [z] at e; cases e
        | some ys =>
          rw [z] at e; cases e
          obtain ⟨vs, e3, e4⟩ := r.at_ _ _ a hx e1
          simp only [Rep]
          exact ⟨a, vs, e2, e3, out b a hb e1, frzDs_ok ih xs ys vs z e4⟩
      · rename_i c fs xs hx
        cases z : frzDs (frzR fb h.bs n) xs with
        | none => rw [z] at e; cases e
        | some ys =>
          rw [z] at e; cases e
          obtain ⟨C, dx, vs, e3, e4, e5, e6⟩ := r.at_ _ _ a hx e1
          simp only [Rep]
          exact ⟨a, C, dx, vs, e2, e3, e4, out b a hb e1, e5, frzDs_ok ih xs ys vs z e6⟩
      · rename_i ks xs hx
        cases z : frzDs (frzR fb h.bs n) xs with
        | none => rw [z] at e; cases e
        | some ys =>
          rw [z] at e; cases e
          obtain ⟨o, vs, e3, e4, e5⟩ := r.at_ _ _ a hx e1
          simp only [Rep]
          exact ⟨a, o, vs, e2, e3, out b a hb e1, e4, frzDs_ok ih xs ys vs z e5⟩
      · cases e
mutual
theorem Rep.cut {n : Nat} : ∀ (d : D) (v : V), bel n d → Rep T μ H d v → Rep T (μ.cut n) H d v
  | .non, v, _, q => by simpa only [Rep] using q
  | .bl b, v, _, q => by simpa only [Rep] using q
  | .int b, v, _, q => by simpa only [Rep] using q
  | .str b, v, _, q => by simpa only [Rep] using q
  | .scr b, v, _, q => by
    simp only [Rep] at q ⊢
    obtain ⟨a, e1, e2⟩ := q
    refine ⟨a, e1, ?_⟩
    rcases e2 with ⟨z1, z2⟩ | z
    · exact .inl ⟨z1, cut_no z2⟩
    · exact .inr z
  | .ref b, v, hb, q => by
    simp only [bel] at hb
    simp only [Rep] at q ⊢
    obtain ⟨a, e1, e2⟩ := q
    exact ⟨a, by show (μ.ad.take n)[b]? = some a; rw [List.getElem?_take_of_lt hb]; exact e1, e2⟩
  | .dct ks xs, v, hb, q => by
    simp only [bel] at hb
    simp only [Rep] at q ⊢
    obtain ⟨a, o, vs, e1, e2, e3, e4, e5⟩ := q
    exact ⟨a, o, vs, e1, e2, cut_no e3, e4, Reps.cutR xs vs hb e5⟩
  | .tup xs, v, hb, q => by
    simp only [bel] at hb
    simp only [Rep] at q ⊢
    obtain ⟨a, vs, e1, e2, e3, e4⟩ := q
    exact ⟨a, vs, e1, e2, cut_no e3, Reps.cutR xs vs hb e4⟩
  | .tpl xs, v, hb, q => by
    simp only [bel] at hb
    simp only [Rep] at q ⊢
    obtain ⟨a, o, vs, e1, e2, c, e3, e4⟩ := q
    exact ⟨a, o, vs, e1, e2, c, cut_no e3, Reps.cutR xs vs hb e4⟩
  | .lst xs, v, hb, q => by
    simp only [bel] at hb
    simp only [Rep] at q ⊢
    obtain ⟨a, vs, e1, e2, e3, e4⟩ := q
    exact ⟨a, vs, e1, e2, cut_no e3, Reps.cutR xs vs hb e4⟩
  | .obj c fs xs, v, hb, q => by
    simp only [bel] at hb
    simp only [Rep] at q ⊢
    obtain ⟨a, C, dx, vs, e1, e2, e3, e4, e5, e6⟩ := q
    exact ⟨a, C, dx, vs, e1, e2, e3, cut_no e4, e5, Reps.cutR xs vs hb e6⟩
  | .exo c fs xs, v, hb, q => by
    simp only [bel] at hb
    simp only [Rep] at q ⊢
    obtain ⟨a, C, o, us, vs, e1, e2, e3, eo, n, x, l, r⟩ := q
    exact ⟨a, C, o, us, vs, e1, e2, e3, eo, cut_no n, x.imp fun dx u z m => ⟨z, cut_no m⟩, l, Reps.cutR xs vs hb r⟩
theorem Reps.cutR {n : Nat} : ∀ (d : List D) (v : List V), bels n d → Reps T μ H d v → Reps T (μ.cut n) H d v
  | [], v, _, q => by simpa only [Reps] using q
  | x :: xs, v, hb, q => by
    simp only [bels] at hb
    simp only [Reps] at q ⊢
    obtain ⟨w, r, e1, q1, q2⟩ := q
    exact ⟨w, r, e1, Rep.cut x w hb.1 q1, Reps.cutR xs r hb.2 q2⟩
end
def inB (h : Bs) : Bs := { h with fbs := h.bs.length :: h.fbs }
def Mu.enter (μ : Mu) (n : Nat) : Mu := { μ with fb := n :: μ.fb }
theorem Rel.enter (r : Rel T μ h H) : Rel T (μ.enter h.bs.length) (inB h) H := by
  have hmv : ∀ {b : Bx} {a : Addr}, RepB T μ H b a → RepB T (μ.enter h.bs.length) H b a := fun q => RepB.mv (μ := μ) (μ' := μ.enter h.bs.length) (fun _ n => n) (fun _ _ e => e) q
  refine ⟨congrArg (List.cons _) r.fb, r.prh, r.lks, r.lkf, r.len, r.nd, fun i b a e1 e2 => hmv (r.at_ i b a e1 e2), fun k hk => ?_, List.pairwise_cons.mpr ⟨fun k hk => r.lo k hk, r.ord⟩, fun k hk i b hi e => ?_⟩
  · rcases List.mem_cons.mp hk with z | z
    · rw [z]; exact Nat.le_refl _
    · exact r.lo k z
  · rcases List.mem_cons.mp hk with z | z
    · have hl : i < μ.ad.length := by rw [r.len]; rw [z] at hi; exact hi
      have q := r.at_ i b _ e (List.getElem?_eq_getElem hl)
      rw [z, ← r.len]
      cases b with
      | lst lk xs => obtain ⟨vs, _, q⟩ := q; exact Rel.bels' q
      | dct lk ks xs => obtain ⟨vs, _, _, q⟩ := q; exact Rel.bels' q
      | dfz ks xs => obtain ⟨o, vs, _, _, q⟩ := q; exact Rel.bels' q
      | obj c fs xs => obtain ⟨C, dx, vs, _, _, _, q⟩ := q; exact Rel.bels' q
      | tbl t => exact True.intro
    · exact r.wf k z i b hi e
def outB (h0 h : Bs) : Bs := { fbs := h0.fbs, bs := h.bs.take h0.bs.length }
theorem Rel.leave {h0 : Bs} {μ0 : Mu} {H0 : Hp} (r0 : Rel T μ0 h0 H0) (s : Stp (μ0.enter h0.bs.length) H0 μ H) (r : Rel T μ h H) : Rel T (μ.cut h0.bs.length) (outB h0 h) H ∧ Stp μ0 H0 (μ.cut h0.bs.length) H := by
  have hf : h.fbs = h0.bs.length :: h0.fbs := by rw [r.fb, s.fbe, r0.fb]; rfl
  have hfb : μ.fb = h0.bs.length :: μ0.fb := s.fbe
  have hn : h0.bs.length ≤ h.bs.length := r.lo _ (by rw [hf]; exact List.mem_cons_self)
  have ho := r.ord
  rw [hf] at ho
  have ho1 := (List.pairwise_cons.mp ho).1
  refine ⟨⟨by show h0.fbs = μ.fb.tail; rw [hfb]; exact r0.fb, fun a ha => ⟨(r.prh a ha).1, fun z => (r.prh a ha).2 (List.mem_of_mem_take z)⟩, fun a ha => ?_, fun b xs a e1 e1l e2 => ?_, ?_, r.nd.sublist (List.take_sublist _ _), fun i b a e1 e2 => ?_, fun k hk => ?_, (List.pairwise_cons.mp ho).2, fun k hk i b hi e => ?_⟩, ⟨by show μ.fb.tail = μ0.fb; rw [hfb]; rfl, fun i a e => ?_, s.lks, s.prs, s.prn, s.keep', fun p hp => s.new p (List.mem_of_mem_take hp)⟩⟩
  · obtain ⟨b, xs, e1, e2, e2l⟩ := r.lks a ha
    have ha0 : a ∈ μ0.lk := by
      have := s.lks
      show a ∈ (μ0.enter h0.bs.length).lk
      rw [← this]; exact ha
    obtain ⟨b0, xs0, f1, f2, _⟩ := r0.lks a ha0
    have hb0 : b0 < h0.bs.length := (List.getElem?_eq_some_iff.mp f2).1
    have g1 := s.pre b0 a f1
    have hbb : b = b0 := by
      obtain ⟨p1, q1⟩ := List.getElem?_eq_some_iff.mp e1
      obtain ⟨p2, q2⟩ := List.getElem?_eq_some_iff.mp g1
      exact (List.getElem_inj (h₀ := p1) (h₁ := p2) r.nd).mp (q1.trans q2.symm)
    subst hbb
    exact ⟨b, xs, by show (μ.ad.take _)[b]? = _; rw [List.getElem?_take_of_lt hb0]; exact e1, by show (h.bs.take _)[b]? = _; rw [List.getElem?_take_of_lt hb0]; exact e2, e2l⟩
  · have hb : b < h0.bs.length := by
      have := (List.getElem?_eq_some_iff.mp (show (h.bs.take h0.bs.length)[b]? = _ from e1)).1
      rw [List.length_take] at this; omega
    have e1' : (h.bs.take h0.bs.length)[b]? = _ := e1
    have e2' : (μ.ad.take h0.bs.length)[b]? = _ := e2
    rw [List.getElem?_take_of_lt hb] at e1' e2'
    exact r.lkf b xs a e1' e1l e2'
  · show (μ.ad.take _).length = (h.bs.take _).length
    rw [List.length_take, List.length_take, r.len]
  · have hi : i < h0.bs.length := by
      have := (List.getElem?_eq_some_iff.mp (show (h.bs.take h0.bs.length)[i]? = _ from e1)).1
      rw [List.length_take] at this; omega
    have e1' : (h.bs.take h0.bs.length)[i]? = _ := e1
    have e2' : (μ.ad.take h0.bs.length)[i]? = _ := e2
    rw [List.getElem?_take_of_lt hi] at e1' e2'
    have q := r.at_ i b a e1' e2'
    have w := r.wf h0.bs.length (by rw [hf]; exact List.mem_cons_self) i b hi e1'
    cases b with
    | lst lk xs => obtain ⟨vs, e3, q⟩ := q; exact ⟨vs, e3, Reps.cutR _ _ w q⟩
    | dct lk ks xs => obtain ⟨vs, e3, e4, q⟩ := q; exact ⟨vs, e3, e4, Reps.cutR _ _ w q⟩
    | dfz ks xs => obtain ⟨o, vs, e3, e4, q⟩ := q; exact ⟨o, vs, e3, e4, Reps.cutR _ _ w q⟩
    | obj c fs xs => obtain ⟨C, dx, vs, e3, e4, e5, q⟩ := q; exact ⟨C, dx, vs, e3, e4, e5, Reps.cutR _ _ w q⟩
    | tbl t => obtain ⟨a1, ps, e3, e4, e5⟩ := q; exact ⟨a1, ps, e3, e4, fun pos cv z => by obtain ⟨c, f1, f2, f3⟩ := e5 pos cv z; exact ⟨c, f1, f2, cut_no f3⟩⟩
  · have := ho1 k hk
    show k ≤ (h.bs.take _).length
    rw [List.length_take]
    omega
  · have hk' := ho1 k hk
    have hi' : i < h0.bs.length := by omega
    have e' : (h.bs.take h0.bs.length)[i]? = _ := e
    rw [List.getElem?_take_of_lt hi'] at e'
    exact r.wf k (by rw [hf]; exact List.mem_cons_of_mem _ hk) i b hi e'
  · have hl : i < h0.bs.length := by rw [← r0.len]; exact (List.getElem?_eq_some_iff.mp e).1
    show (μ.ad.take _)[i]? = _
    rw [List.getElem?_take_of_lt hl]
    exact s.pre i a e
end
end VI
end
section
namespace VI
open PySem PySem.Spec PyProof.Rows L2
def finF (h : Bs) : F → R D
  | .rt d h' => (match frzD (frzR h.bs.length h'.bs 4) d with | some d' => .ok d' (outB h h') | none => .no)
  | .nx _ h' => .ok .non (outB h h')
  | .ex x _ h' => if noRs x.vs then .ex x (outB h h') else .no
  | _ => .no
def slots (ns : Nat) (ds : List D) : Ev := ds.map some ++ List.replicate (ns - ds.length) none
def runFn (np ns : Nat) (body : SS) (ds : List D) (h : Bs) : R D := if ds.length = np then finF h (body (slots ns ds) (inB h)) else .no
section
variable {T : Tb} {W : WX} {μ μ' : Mu} {H H' : Hp} {h : Bs} {σ : Sg} {ρ : Ev}
theorem RepE.start {N : List Str} {ds : List D} {vs : List V} (q : Reps T μ H ds vs) : RepE T μ H (slots N.length ds) (L2.start N vs) := by
  refine ⟨by simp [slots, L2.start, q.length], fun i d e => ?_⟩
  unfold slots at e
  unfold L2.start
  by_cases hi : i < ds.length
  · rw [List.getElem?_append_left (by simpa using hi), List.getElem?_map] at e
    cases z : ds[i]? with
    | none => rw [z] at e; cases e
    | some x =>
      rw [z] at e
      simp at e
      subst e
      obtain ⟨v, e1, r⟩ := q.get z
      refine ⟨v, ?_, r⟩
      rw [List.getElem?_append_left (by rw [List.length_map, ← q.length]; exact hi), List.getElem?_map, e1]
      rfl
  · rw [List.getElem?_append_right (by simpa using hi), List.getElem?_replicate] at e
    split at e <;> cases e
theorem RepX.cut {n : Nat} {x : Ex} {cls : Value} {d : Option Addr} (q : RepX T μ H x cls d) (hn : noRs x.vs = true) : RepX T (μ.cut n) H x cls d := by
  obtain ⟨C, e1, e2, q⟩ := q
  refine ⟨C, e1, e2, ?_⟩
  rcases q with q | ⟨dx, vs, e3, e4, e5, e6, q⟩
  · exact .inl q
  · exact .inr ⟨dx, vs, e3, e4, cut_no e5, e6, Reps.cutR _ _ (noRs.bels _ hn) q⟩
theorem fin_ok {Q : VK} {E : XK} {f : F} (r : Rel T μ h H) (o : OutV T (fun c d _ H => E c d H) [] μ H Q (finF h f)) : OutS T (fun c d _ H => E c d H) (μ.enter h.bs.length) H { nx := fun _ H' => Q .non H', rt := Q } f := by
  cases f with
  | rt d h1 =>
    intro μ1 H1 v s r1 rv
    simp only [finF] at o
    cases z : frzD (frzR h.bs.length h1.bs 4) d with
    | none => rw [z] at o; exact o.elim
    | some d' =>
      rw [z] at o
      obtain ⟨r2, s2⟩ := Rel.leave r s r1
      exact o _ H1 v s2 r2 (frzD_ok (fun b d v => frzR_ok r1 4 b d v) d d' v z rv)
  | nx ρ1 h1 =>
    intro μ1 H1 σ1 s r1 e1
    obtain ⟨r2, s2⟩ := Rel.leave r s r1
    exact o _ H1 .non s2 r2 rep_nil
  | ex x ρ1 h1 =>
    intro μ1 H1 σ1 cls d s r1 e1 q
    simp only [finF] at o
    split at o
    · rename_i hn
      obtain ⟨r2, s2⟩ := Rel.leave r s r1
      exact o _ H1 cls d s2 r2 (q.cut hn)
    · exact o.elim
  | bk ρ1 h1 => exact o.elim
  | ct ρ1 h1 => exact o.elim
  | no => exact o
theorem fn_sound {P : Program} {w : World} {mg : Str → Option Value} {base : Heap} {x qual : Str} {params : Arguments} {body : List Stmt} {scope : Scope} {dvs : List V} {kws : List (Str × V)} {f : Addr} {fd : FuncData} {N ps : List Str} {k : Nat} {ss : SS}
    (F : FunD T.K x qual params body scope dvs kws f fd) (S : FnScope N ps scope)
    (hb : ∀ (cdv : Value) (A : Around) (outer : List Env) (s : Shared) (H : Hp) (E : XK), Room k (A.deeper (envOfC qual scope s.heap.objs.size f cdv)) →
      PSs (cxOf (CX P w) P w T.K mg base N qual scope f cdv A outer s H E) body (tS' T (fun c d _ H => E c d H) ss)) :
    FnOk P w T.K mg base (CX P w) (k + 1) f fd ps (spF T (runFn ps.length N.length ss)) := by
  refine F.ok S (fun vs H Q E h => ?_) (fun cdv A outer s H vs Q E hr h => ?_)
  · obtain ⟨μ, hh, ds, r, q, o⟩ := h
    unfold runFn at o
    split at o
    · rename_i hl
      rw [← q.length]; exact hl
    · exact o.elim
  · refine ⟨_, hb cdv A outer s H E hr, ?_⟩
    obtain ⟨μ, hh, ds, r, q, o⟩ := h
    unfold runFn at o
    split at o
    · exact ⟨μ.enter hh.bs.length, _, inB hh, r.enter, RepE.start (Reps.mv (μ := μ) (μ' := μ.enter hh.bs.length) (fun _ n => n) (fun _ _ e => e) _ _ q), fin_ok r o⟩
    · exact o.elim
end
end VI
end
section
namespace VI
open PySem PySem.Spec PyProof.Rows L2
section
variable {X : Cx} {CX : CXT} {k : Nat} {f C : Addr} {fd : FuncData} {ps : List Str} {sp : Sp} {dvs : List V} {ds : List Value} {E : Sg → XK} {x : Str} {p pos : Pos} {e : Expr} {es : List Expr} {t : TA}
end
section
variable {X : Cx} {T : Tb} {W : WX} {μ μ' : Mu} {H H' : Hp} {h : Bs} {σ : Sg} {ρ : Ev}
end
end VI
end
section
namespace VI
open PySem PySem.Spec PyProof.Rows L2
section
variable {X : Cx} {T : Tb} {W : WX} {μ μ' : Mu} {H H' : Hp} {h : Bs} {σ : Sg} {ρ : Ev}
def blsD : List D → Option (List Bool)
  | [] => some []
  | .bl i :: xs => (match blsD xs with | some ns => some (i :: ns) | none => none)
  | _ :: _ => none
theorem blsD_eq : ∀ {xs : List D} {ns : List Bool}, blsD xs = some ns → xs = ns.map .bl
  | [], ns, e => by simp [blsD] at e; subst e; rfl
  | .bl i :: xs, ns, e => by
    simp only [blsD] at e
    cases q : blsD xs with
    | none => rw [q] at e; cases e
    | some ms => rw [q] at e; cases e; rw [blsD_eq q]; rfl
  | .non :: _, _, e | .int _ :: _, _, e | .str _ :: _, _, e | .tup _ :: _, _, e | .tpl _ :: _, _, e | .lst _ :: _, _, e | .dct _ _ :: _, _, e | .obj _ _ _ :: _, _, e | .exo _ _ _ :: _, _, e | .ref _ :: _, _, e | .scr _ :: _, _, e => by simp [blsD] at e
theorem blsD_map : ∀ ns : List Bool, blsD (ns.map .bl) = some ns
  | [] => rfl
  | n :: ns => by simp [blsD, blsD_map ns]
def anyD (f : List Bool → Bool) (ds : List D) (h : Bs) : R D := match ds with
  | [d] => (match lstOf h d with
    | some xs => (match blsD xs with
      | some bs => .ok (.bl (f bs)) h
      | none => .no)
    | none => .no)
  | _ => .no
theorem anyD_calm {f : List Bool → Bool} {ds : List D} : Calm (anyD f ds h) := by
  intro x h' z; unfold anyD at z
  repeat' split at z
  all_goals cases z
theorem any_pre {f : List Bool → Bool} (hK : X.K = T.K) : ∀ xs H Q, rDn T (anyD f) xs H Q → ∃ (a : Addr) (bs : List Bool), xs = [V.ref a] ∧ SqL X.K H a (bs.map V.bl) ∧ Q (.bl (f bs)) H := fun xs H Q ⟨μ, h, ds, r, rd, o⟩ => by
  unfold anyD at o
  split at o
  · obtain ⟨v, rfl, rv⟩ := rd.is1
    split at o
    · rename_i ys hy
      split at o
      · rename_i bs hb
        obtain ⟨a, vs, rfl, e2, e3⟩ := r.lstOf rv hy
        rw [blsD_eq hb] at e3
        rw [e3.bls] at e2
        exact ⟨a, bs, rfl, by rw [hK]; exact e2, o μ H _ Stp.refl r (rep_bl rfl)⟩
      · exact o.elim
    · exact o.elim
  · exact o.elim
theorem cv_any (hK : X.K = T.K) (hc : X.calm = true) : CallR X (.builtin "any") (rDn T (anyD fun bs => bs.any id)) := CallR.imp (cr_any hc) (any_pre hK)
theorem cv_all (hK : X.K = T.K) (hc : X.calm = true) : CallR X (.builtin "all") (rDn T (anyD fun bs => bs.all id)) := CallR.imp (cr_all hc) (any_pre hK)
def listD (bx : Bool) (ds : List D) (h : Bs) : R D := match ds with
  | [d] => (match seqOf h d with
    | some xs => newL bx xs h
    | none => .no)
  | _ => .no
def tupleD (ds : List D) (h : Bs) : R D := match ds with
  | [.tup xs] => .ok (.tup xs) h
  | [.tpl xs] => .ok (.tpl xs) h
  | [d] => (match lstOf h d with
    | some xs => newT xs h
    | none => .no)
  | _ => .no
theorem tupleD_calm {ds : List D} : Calm (tupleD ds h) := by
  unfold tupleD
  split
  · intro x h' z; cases z
  · intro x h' z; cases z
  · split
    · exact newT_calm
    · intro x h' z; cases z
  · intro x h' z; cases z
theorem cv_tuple (hK : X.K = T.K) : CallR X (.type "tuple") (rDn T tupleD) := CallR.imp call_tuple_of fun xs H Q ⟨μ, h, ds, r, rd, o⟩ => by
  unfold tupleD at o
  split at o
  · obtain ⟨v, rfl, rv⟩ := rd.is1
    obtain ⟨a, vs, rfl, e2, e3, e4⟩ := rv.tupOf
    exact ⟨a, vs, rfl, .inr ⟨SqT.of e2, o μ H _ Stp.refl r rv⟩⟩
  · obtain ⟨v, rfl, rv⟩ := rd.is1
    obtain ⟨a, ob, vs, rfl, e2, _, e3, e4⟩ := rv.tplOf
    exact ⟨a, vs, rfl, .inr ⟨SqT.fz e2, o μ H _ Stp.refl r rv⟩⟩
  · obtain ⟨v, rfl, rv⟩ := rd.is1
    split at o
    · rename_i ys hy
      obtain ⟨a, vs, rfl, e2, e3⟩ := r.lstOf rv hy
      exact ⟨a, vs, rfl, .inl ⟨by rw [hK]; exact e2, (newT_ok r e3 o).2⟩⟩
    · exact o.elim
  · exact o.elim
def insI (n : Int) : List Int → List Int
  | [] => [n]
  | m :: ms => if n ≤ m then n :: m :: ms else m :: insI n ms
def sortI : List Int → List Int
  | [] => []
  | n :: ns => insI n (sortI ns)
theorem insI_perm (n : Int) : ∀ ms, (insI n ms).Perm (n :: ms)
  | [] => .refl _
  | m :: ms => by
    simp only [insI]
    split
    · exact .refl _
    · exact ((insI_perm n ms).cons m).trans (.swap _ _ _)
theorem sortI_perm : ∀ ns, (sortI ns).Perm ns
  | [] => .refl _
  | n :: ns => (insI_perm n (sortI ns)).trans ((sortI_perm ns).cons n)
theorem insI_sorted (n : Int) : ∀ ms : List Int, ms.Pairwise (· ≤ ·) → (insI n ms).Pairwise (· ≤ ·)
  | [], _ => by simp [insI]
  | m :: ms, h => by
    simp only [insI]
    have h' := List.pairwise_cons.mp h
    split
    · rename_i hnm
      refine List.pairwise_cons.mpr ⟨fun a ha => ?_, h⟩
      rcases List.mem_cons.mp ha with z | z
      · rw [z]; exact hnm
      · exact Int.le_trans hnm (h'.1 a z)
    · rename_i hnm
      refine List.pairwise_cons.mpr ⟨fun a ha => ?_, insI_sorted n ms h'.2⟩
      rcases List.mem_cons.mp ((insI_perm n ms).mem_iff.mp ha) with z | z
      · rw [z]; omega
      · exact h'.1 a z
theorem sortI_sorted : ∀ ns, (sortI ns).Pairwise (· ≤ ·)
  | [] => .nil
  | n :: ns => insI_sorted n _ (sortI_sorted ns)
def sortedD (bx : Bool) (ds : List D) (h : Bs) : R D := match ds with
  | [d] => (match lstOf h d with
    | some xs => (match intsD xs with
      | some ns => newL bx ((sortI ns).map .int) h
      | none => .no)
    | none => .no)
  | _ => .no
def rMt (T : Tb) (f : D → List D → Bs → R D) : V → List V → Hp → VK → Prop := fun x xs H Q => ∃ μ h d ds, Rel T μ h H ∧ Rep T μ H d x ∧ Reps T μ H ds xs ∧ OutV T noW [] μ H Q (f d ds h)
theorem MtR.imp {id : String} {r r' : V → List V → Hp → VK → Prop} (h : MtR X id r) (i : ∀ x xs H Q, r' x xs H Q → r x xs H Q) : MtR X id r' := fun pins s σ H x xs v us Q I rx rxs w => h pins s σ H x xs v us Q I rx rxs (i x xs H Q w)
def appD (d : D) (ds : List D) (h : Bs) : R D := match d, ds with
  | .ref b, [v] => (match h.bs[b]? with
    | some (.lst false xs) => if decide (xs.length < sizeLine) && okW h b v then .ok .non (putL b (xs ++ [v]) h) else .no
    | _ => .no)
  | _, _ => .no
theorem appD_calm {d : D} {ds : List D} : Calm (appD d ds h) := by
  intro x h' z; unfold appD at z
  repeat' split at z
  all_goals cases z
theorem mv_append : MtR X "list.append" (rMt T appD) := MtR.imp mt_append fun x xs H Q ⟨μ, h, d, ds, r, rd, rds, o⟩ => by
  unfold appD at o
  split at o
  · rename_i b v
    obtain ⟨w, rfl, rw'⟩ := rds.is1
    split at o
    · rename_i ys hb
      split at o
      · rename_i hc
        simp only [Bool.and_eq_true, decide_eq_true_eq] at hc
        obtain ⟨a, vs, e1, e2, e3, q⟩ := r.boxAt hb rd
        obtain ⟨r', st⟩ := r.putL hb e1 (q.append (.one rw')) (fun k hk hb' hx => bels_append hx (by simp only [bels]; exact ⟨okW_bel r hc.2 k hk hb', trivial⟩))
        exact ⟨a, vs, w, e2, rfl, e3, by rw [← q.length]; exact hc.1, o μ _ .non st r' rep_nil⟩
      · exact o.elim
    · exact o.elim
  · exact o.elim
def popD (d : D) (ds : List D) (h : Bs) : R D := match d, ds with
  | .ref b, [] => (match h.bs[b]? with
    | some (.lst false xs) => (match xs[xs.length - 1]? with
      | some y => .ok y (putL b xs.dropLast h)
      | none => .no)
    | _ => .no)
  | .ref b, [.int i] => (match h.bs[b]? with
    | some (.lst false xs) => if -(2 ^ 63) ≤ i ∧ i < 2 ^ 63 then (match seqIndex? i xs.length with
      | some k => (match xs[k]? with
        | some y => .ok y (putL b (xs.eraseIdx k) h)
        | none => .no)
      | none => .no) else .no
    | _ => .no)
  | _, _ => .no
theorem Reps.eraseIdx : ∀ {xs : List D} {vs : List V} (i : Nat), Reps T μ H xs vs → Reps T μ H (xs.eraseIdx i) (vs.eraseIdx i)
  | [], vs, i, q => by simp only [Reps] at q; subst q; simp [Reps]
  | x :: xs, vs, 0, q => by
    simp only [Reps] at q
    obtain ⟨v, r, rfl, q1, q2⟩ := q
    exact q2
  | x :: xs, vs, i + 1, q => by
    simp only [Reps] at q
    obtain ⟨v, r, rfl, q1, q2⟩ := q
    exact .cons q1 (Reps.eraseIdx i q2)
theorem Reps.dropLast {xs : List D} {vs : List V} (q : Reps T μ H xs vs) : Reps T μ H xs.dropLast vs.dropLast := by
  rw [List.dropLast_eq_take, List.dropLast_eq_take, ← q.length]
  exact q.take _
end
end VI
end
section
namespace VI
open PySem PySem.Spec PyProof.Rows L2
section
variable {X : Cx} {T : Tb} {W : WX} {μ μ' : Mu} {H H' : Hp} {h : Bs} {σ : Sg} {ρ : Ev}
def sBm (f : D → List D → Bs → R D) (so : SV) (sa : SA) : SV := fun ρ h => (so ρ h).bind fun d h1 => if (lstOf h1 d).isSome then (sa ρ h1).bind fun ds h2 => f d ds h2 else .no
theorem tyL (hK : X.K = T.K) (r : Rel T μ h H) {d : D} {v : V} (q : Rep T μ H d v) (e : (lstOf h d).isSome = true) : tyV X.K "list" v H := by
  obtain ⟨xs, e⟩ := Option.isSome_iff_exists.mp e
  obtain ⟨a, vs, rfl, e2, _⟩ := r.lstOf q e
  exact .inl ⟨rfl, vs, by rw [hK]; exact e2⟩
variable {name : Str} {id : String} {f : D → List D → Bs → R D} {ob e : Expr} {es : List Expr} {apos cpos : Pos} {so : SV} {sa : SA}
theorem pv_bm (cf : ∀ d ds h, Calm (f d ds h)) (hK : X.K = T.K) (pa : PlainAttrs "list") (slot : Slot "list" name id) (hty : typeOf (.builtin id) = pure (.type "method_descriptor")) (hm : MtR X id (rMt T f))
    (hb : noSuper ob = true) (hs : noStars (e :: es) = true) (hn : (e :: es).length < 30) (hl : (apos.endLine == cpos.line) = true) (ho : PE X ob (tV T W so)) (ha : PA X (e :: es) (tA' T W sa)) :
    PE X (.Call (.Attribute ob name apos) (e :: es) [] cpos) (tV T W (sBm f so sa)) := by
  have hs' := hs
  simp only [noStars, List.all_cons, Bool.and_eq_true, Bool.not_eq_true'] at hs'
  refine PE.imp (pe_bm pa slot hty hm ho ha (abase hb) ?_ hl (star_no hs'.1) (back_no (show noStars es = true from hs'.2))) fun σ H Q ⟨μ, ρ, h, r, e, o⟩ => ?_
  · have := form_ok (pos := cpos) (env := X.env) (n := (e :: es).length) hs hn
    unfold methodCallForm at this
    have e0 : backToKw cpos (keywordEach [] X.env) = [] := rfl
    rw [e0] at this ⊢
    simpa using this
  · refine ⟨μ, ρ, h, r, e, OutV.mono (OutV.bind o) ?_⟩
    rintro v H1 ⟨μ1, d, h1, s1, r1, rv, o1⟩
    split at o1
    · rename_i hd
      refine ⟨tyL hK r1 rv hd, μ1, ρ, h1, r1, e.step s1, OutA.mono (OutV.bindA o1) ?_⟩
      rintro vs H2 ⟨μ2, ds, h2, s2, r2, rds, o2⟩
      exact ⟨μ2, h2, d, ds, r2, Rep.step s2 _ _ rv, rds, o2.calm (cf _ _ _)⟩
    · exact o1.elim
def ssAug (i : Nat) (f : D → D → Bs → R D) (s : SV) : SS := fun ρ h => match ρ[i]? with
  | some (some x) => (s ρ h).toF ρ fun y h1 => (f x y h1).toF ρ fun z h2 => .nx (ρ.set i (some z)) h2
  | _ => .no
theorem psv_aug {i : Nat} {x : Str} {op : Operator} {pos pos' : Pos} {g : D → D → Bs → R D} {s : SV} (cf : ∀ d e h, Calm (g d e h)) (ho : OpR X (inplaceOp op) (rD2 T g)) (hN : X.N.Nodup) (hi : X.N[i]? = some x) (hx : Loc X.env.scope x)
    (hf : X.fn x = true ∨ X.env.scope.names.lookup x = some .local) (he : PE X e (tV T W s)) : PS X (.AugAssign (.Name x pos') op e pos) (tS' T W (ssAug i g s)) :=
  PS.imp (ps_aug hN hi hx he (fun pins s σ H x y v u Q I r1 r2 w => ho pins s σ H x y v u Q I r1 r2 w) hf) fun D σ H ⟨μ, ρ, h, r, e, o⟩ => by
    unfold ssAug at o
    cases q : ρ[i]? with
    | none => rw [q] at o; exact o.elim
    | some z =>
      cases z with
      | none => rw [q] at o; exact o.elim
      | some d =>
        rw [q] at o
        simp only at o
        obtain ⟨v, e1, rv⟩ := e.2 i d q
        refine ⟨v, e1, μ, ρ, h, r, e, OutV.mono (OutS.ofV e o) ?_⟩
        rintro w H1 ⟨μ1, d1, h1, s1, r1, e1, rv1, o1⟩
        refine ⟨μ1, h1, d, d1, r1, Rep.step s1 _ _ rv, rv1, ?_⟩
        cases q2 : g d d1 h1 with
        | no => rw [q2] at o1; exact o1
        | ex x h3 => exact absurd q2 (cf d d1 h1 x h3)
        | ok z h3 => rw [q2] at o1; exact fun μ3 H3 v3 s3 r3 rv3 => o1 μ3 H3 _ s3 r3 ((e1.step s3).set rv3)
def intD2 (C : Int → Int → Bool) (g : Int → Int → Int) (d e : D) (h : Bs) : R D := match d, e with
  | .int i, .int j => if C i j then .ok (.int (g i j)) h else .no
  | _, _ => .no
theorem intD2_calm {C : Int → Int → Bool} {g : Int → Int → Int} {d e : D} : Calm (intD2 C g d e h) := by
  intro x h' z; unfold intD2 at z
  repeat' split at z
  all_goals cases z
theorem ov_int0 {g : Int → Int → Int} {F : Value → Value → Sem Value} (hop : OpR X F (rI0 fun i j => .int (g i j))) : OpR X F (rD2 T (intD2 (fun _ _ => true) g)) :=
  OpR.imp hop fun x y H Q ⟨μ, h, d, e, r, rd, re, o⟩ => by
    unfold intD2 at o
    split at o
    · split at o
      · simp only [Rep] at rd re
        exact ⟨_, _, rd, re, o μ H _ Stp.refl r (rep_int rfl)⟩
      · exact o.elim
    · exact o.elim
def getD (d e : D) (h : Bs) : R D := match e with
  | .int i => (match lstOf h d with
    | some xs => (match atI xs i with
      | some x => .ok x h
      | none => .no)
    | none => .no)
  | _ => .no
theorem psv_par {i j : Nat} {x y : Str} {a b : Expr} {px py pt pos : Pos} {kt k2 pt2} {sA : SA} (hc : X.calm = true) (hN : X.N.Nodup) (hi : X.N[i]? = some x) (hj : X.N[j]? = some y) (hij : i ≠ j)
    (hx : X.env.scope.names.lookup x = some .local) (hy : X.env.scope.names.lookup y = some .local) (ha : PA X [a, b] (tA' T W sA))
    (hw : swappedStores [.Tuple [.Name x px, .Name y py] kt pt] (.Tuple [a, b] k2 pt2) X.env = pure (some [x, y])) :
    PS X (.Assign [.Tuple [.Name x px, .Name y py] kt pt] (.Tuple [a, b] k2 pt2) pos) (tS' T W (ssAsg (sTup sA) (sgTup 2 (sgCons (sgName i) (sgCons (sgName j) sgNil))))) :=
  PS.imp (ps_par hc hN hi hj hij hx hy ha hw rfl) fun D σ H ⟨μ, ρ, h, r, e, o⟩ => by
    refine ⟨μ, ρ, h, r, e, ?_⟩
    unfold ssAsg sTup at o
    cases q : sA ρ h with
    | no => rw [q] at o; exact o
    | ex x h1 => rw [q] at o; exact fun μ1 H1 c d s r1 rx => o μ1 H1 σ c d s r1 (e.step s) rx
    | ok ds h1 =>
      rw [q] at o
      simp only [R.bind, newT] at o
      split at o
      · simp only [R.toF, sgTup] at o
        split at o
        · rename_i hl
          match ds, hl, o with
          | [d1, d2], _, o =>
            intro μ1 H1 vs s1 r1 rv
            obtain ⟨v, w, rfl, rv1, rv2⟩ := rv.is2
            exact ⟨v, w, rfl, o μ1 H1 _ s1 r1 (((e.step s1).set rv1).set rv2)⟩
        · exact o.elim
      · exact o.elim
end
end VI
end
section
namespace VI
open PySem PySem.Spec PyProof.Rows L2
section
variable {X : Cx} {T : Tb} {W : WX} {μ μ' : Mu} {H H' : Hp} {h : Bs} {σ : Sg} {ρ : Ev}
def tyc (T : Tb) (h : Bs) : D → Option Nat
  | .non => some 0
  | .bl _ => some 1
  | .int _ => some 2
  | .str _ => some 3
  | .tup _ => some 4
  | .tpl _ => some 4
  | .lst _ => some 5
  | .scr _ => some 5
  | .obj c _ _ => if T.isc c then some (7 + c) else none
  | .ref b => (match h.bs[b]? with
    | some (.lst _ _) => some 5
    | some (.obj c _ _) => if T.isc c then some (7 + c) else none
    | _ => none)
  | .exo _ _ _ => none
  | .dct _ _ => none
theorem tyc_ok (ok : T.Ok) (r : Rel T μ h H) {d : D} {v : V} {t : Nat} (q : Rep T μ H d v) (e : tyc T h d = some t) : ∃ tv, T.tyV t tv ∧ TyX T.K H v tv := by
  cases d with
  | non => simp only [tyc] at e; cases e; simp only [Rep] at q; subst q; exact ⟨_, rfl, .base .non⟩
  | bl b => simp only [tyc] at e; cases e; simp only [Rep] at q; subst q; exact ⟨_, rfl, .base (.bl b)⟩
  | int b => simp only [tyc] at e; cases e; simp only [Rep] at q; subst q; exact ⟨_, rfl, .base (.int b)⟩
  | str b => simp only [tyc] at e; cases e; simp only [Rep] at q; subst q; exact ⟨_, rfl, .base (.str b)⟩
  | tup xs =>
    simp only [tyc] at e; cases e
    obtain ⟨a, vs, rfl, e2, _⟩ := q.tupOf
    exact ⟨_, rfl, .base (.tup e2)⟩
  | tpl xs =>
    simp only [tyc] at e; cases e
    obtain ⟨a, ob, vs, rfl, e2, _⟩ := q.tplOf
    exact ⟨_, rfl, .fTuple e2⟩
  | lst xs =>
    simp only [tyc] at e; cases e
    simp only [Rep] at q
    obtain ⟨a, vs, rfl, e2, _⟩ := q
    exact ⟨_, rfl, .base (.lst e2)⟩
  | scr ns =>
    simp only [tyc] at e; cases e
    simp only [Rep] at q
    obtain ⟨a, rfl, e2⟩ := q
    refine ⟨_, rfl, ?_⟩
    rcases e2 with ⟨z | ⟨o, z⟩, _⟩ | ⟨o, its, n, z1, z2, _⟩
    · exact .base (.lst z)
    · exact .base (.frz z)
    · exact .kList z1 z2
  | dct ks vs => simp [tyc] at e
  | exo c fs vs => simp [tyc] at e
  | obj c fs xs =>
    simp only [tyc] at e
    split at e
    · rename_i hc
      cases e
      simp only [Rep] at q
      obtain ⟨a, C, dx, vs, rfl, e2, e3, _⟩ := q
      refine ⟨.ref C, ?_, .base (ok.ins c C e2 hc H a dx _ e3)⟩
      unfold Tb.tyV
      rw [if_neg (by omega)]
      exact ⟨C, by rw [show 7 + c - 7 = c by omega]; exact e2, rfl⟩
    · cases e
  | ref b =>
    simp only [tyc] at e
    simp only [Rep] at q
    obtain ⟨a, e1, rfl⟩ := q
    split at e
    · rename_i hb
      cases e
      obtain ⟨vs, e3, _⟩ := r.at_ _ _ a hb e1
      exact ⟨_, rfl, .base (.lst e3)⟩
    · rename_i c fs xs hb
      split at e
      · rename_i hc
        cases e
        obtain ⟨C, dx, vs, e2, e3, _⟩ := r.at_ _ _ a hb e1
        refine ⟨.ref C, ?_, .base (ok.ins c C e2 hc H a dx _ e3)⟩
        unfold Tb.tyV
        rw [if_neg (by omega)]
        exact ⟨C, by rw [show 7 + c - 7 = c by omega]; exact e2, rfl⟩
      · cases e
    · cases e
def isiD (T : Tb) (u : Nat) (d : D) (h : Bs) : R D := match tyc T h d with
  | some t => (match T.kit t u with
    | some b => .ok (.bl b) h
    | none => .no)
  | none => .no
def ClsN (X : Cx) (T : Tb) (x : Str) (u : Nat) : Prop := ∃ (v : V) (uv : Value), T.tyV u uv ∧ ClsV v uv ∧ ∀ pos, PE X (.Name x pos) (tC v)
theorem pv_isi {e : Expr} {x : Str} {u : Nat} {p q pos : Pos} {s : SV} (ok : T.Ok) (hK : X.K = T.K) (hg : Gl X "isinstance") (hm : X.mg "isinstance" = none) (hv : bootBuiltins "isinstance" = some (.builtin "isinstance"))
    (hs : PySem.W.isStarred e = false) (hx : ClsN X T x u) (he : PE X e (tV T W s)) : PE X (.Call (.Name "isinstance" p) [e, .Name x q] [] pos) (tV T W (sUn (isiD T u) s)) := by
  obtain ⟨v, uv, h1, h2, h3⟩ := hx
  refine PE.imp (pe_callB call_isi hg hm hv (pa_cons he (pa_cons (h3 q) pa_nil rfl) (star_no hs)) (by decide) (by decide) (star_no hs) rfl) fun σ H Q ⟨μ, ρ, h, r, e, o⟩ => ?_
  refine ⟨μ, ρ, h, r, e, OutV.mono (OutV.bind o) ?_⟩
  rintro w H1 ⟨μ1, d, h1', s1, r1, rv, o1⟩
  unfold isiD at o1
  split at o1
  · rename_i t ht
    split at o1
    · rename_i b hb
      obtain ⟨tv, k1, k2⟩ := tyc_ok ok r1 rv ht
      exact ⟨w, v, tv, uv, b, rfl, h2, by rw [hK]; exact k2, by rw [hK]; exact ok.kit t u b tv uv hb k1 h1, o1 μ1 H1 _ Stp.refl r1 (rep_bl rfl)⟩
    · exact o1.elim
  · exact o1.elim
def isiD2 (T : Tb) (u u2 : Nat) (d : D) (h : Bs) : R D := match tyc T h d with
  | some t => (match T.kit t u with
    | some true => .ok (.bl true) h
    | some false => (match T.kit t u2 with
      | some b => .ok (.bl b) h
      | none => .no)
    | none => .no)
  | none => .no
theorem pv_isi2 {e : Expr} {x y : Str} {u u2 k : Nat} {p q q2 q3 pos : Pos} {s : SV} (ok : T.Ok) (hK : X.K = T.K) (hg : Gl X "isinstance") (hm : X.mg "isinstance" = none) (hv : bootBuiltins "isinstance" = some (.builtin "isinstance"))
    (hs : PySem.W.isStarred e = false) (hx : ClsN X T x u) (hy : ClsN X T y u2) (he : PE X e (tV T W s)) : PE X (.Call (.Name "isinstance" p) [e, .Tuple [.Name x q, .Name y q2] k q3] [] pos) (tV T W (sUn (isiD2 T u u2) s)) := by
  obtain ⟨v, uv, h1, h2, h3⟩ := hx
  obtain ⟨v2, uv2, g1, g2, g3⟩ := hy
  refine PE.imp (pe_callB call_isiT hg hm hv (pa_cons he (pa_cons (pe_tup (pa_cons (h3 q) (pa_cons (g3 q2) pa_nil rfl) rfl)) pa_nil rfl) (star_no hs)) (by decide) (by decide) (star_no hs) rfl) fun σ H Q ⟨μ, ρ, h, r, e, o⟩ => ?_
  refine ⟨μ, ρ, h, r, e, OutV.mono (OutV.bind o) ?_⟩
  rintro w H1 ⟨μ1, d, h1', s1, r1, rv, o1⟩
  refine ⟨by show 2 ≤ sizeLine; decide, fun tp htp => ?_⟩
  unfold isiD2 at o1
  split at o1
  · rename_i t ht
    have st : Stp μ1 H1 μ1 (upd H1 tp (.tup [v, v2])) := Stp.laid htp
    have r2 := r1.laid (o := .tup [v, v2]) htp
    obtain ⟨tv, k1, k2⟩ := tyc_ok ok r2 (Rep.step st _ _ rv) ht
    split at o1
    · rename_i hb
      exact ⟨w, tp, [v, v2], tv, [uv, uv2], true, rfl, upd_same, .cons h2 (.cons g2 .nil), by rw [hK]; exact k2, kitAny_cons (by rw [hK]; exact ok.kit t u true tv uv hb k1 h1) (fun z => by cases z) (fun _ => rfl), o1 μ1 _ _ st r2 (rep_bl rfl)⟩
    · rename_i hb
      split at o1
      · rename_i b hb2
        refine ⟨w, tp, [v, v2], tv, [uv, uv2], b, rfl, upd_same, .cons h2 (.cons g2 .nil), by rw [hK]; exact k2, kitAny_cons (by rw [hK]; exact ok.kit t u false tv uv hb k1 h1) (fun _ => ?_) (fun z => by cases z), o1 μ1 _ _ st r2 (rep_bl rfl)⟩
        cases b with
        | true => exact kitAny_cons (by rw [hK]; exact ok.kit t u2 true tv uv2 hb2 k1 g1) (fun z => by cases z) (fun _ => rfl)
        | false => exact kitAny_cons (by rw [hK]; exact ok.kit t u2 false tv uv2 hb2 k1 g1) (fun _ => kitAny_nil) (fun z => by cases z)
      · exact o1.elim
    · exact o1.elim
  · exact o1.elim
end
end VI
end
section
namespace VI
open PySem PySem.Spec PyProof.Rows L2
section
variable {X : Cx} {T : Tb} {W : WX} {μ μ' : Mu} {H H' : Hp} {h : Bs} {σ : Sg} {ρ : Ev}
def sChn (f g : D → D → Bs → R D) (sa sb sc : SV) : SV := fun ρ h => (sa ρ h).bind fun x h1 => (sb ρ h1).bind fun y h2 => (f x y h2).bind fun z h3 => match z with
  | .bl true => (sc ρ h3).bind fun w h4 => g y w h4
  | .bl false => .ok (.bl false) h3
  | _ => .no
variable {a b c : Expr} {sa sb sc : SV} {pos : Pos}
theorem chn_imp {f g : D → D → Bs → R D} (cf : ∀ d e h, Calm (f d e h)) (cg : ∀ d e h, Calm (g d e h)) : ∀ σ H Q, tV T W (sChn f g sa sb sc) σ H Q → tChain (rD2 T f) (rD2 T g) (tV T W sa) (tV T W sb) (tV T W sc) σ H Q := fun σ H Q ⟨μ, ρ, h, r, e, o⟩ => by
  refine ⟨μ, ρ, h, r, e, OutV.mono (OutV.bind o) ?_⟩
  rintro v H1 ⟨μ1, d, h1, s1, r1, rv, o1⟩
  refine ⟨μ1, ρ, h1, r1, e.step s1, OutV.mono (OutV.bind o1) ?_⟩
  rintro u H2 ⟨μ2, d2, h2, s2, r2, ru, o2⟩
  refine ⟨μ2, h2, d, d2, r2, Rep.step s2 _ _ rv, ru, ?_⟩
  cases q : f d d2 h2 with
  | no => rw [q] at o2; exact o2
  | ex x h3 => exact absurd q (cf _ _ _ x h3)
  | ok z h3 =>
    rw [q] at o2
    intro μ3 H3 v3 s3 r3 rv3
    have o3 := OutV.step o2 s3
    cases z with
    | bl k =>
      simp only [Rep] at rv3
      refine ⟨k, rv3, ?_⟩
      cases k with
      | false => exact o3 μ3 H3 _ Stp.refl r3 (rep_bl rfl)
      | true =>
        have o3' : OutV T W σ μ3 H3 Q ((sc ρ h3).bind fun w h4 => g d2 w h4) := o3
        refine ⟨μ3, ρ, h3, r3, ((e.step s1).step s2).step s3, OutV.mono (OutV.bind o3') ?_⟩
        rintro w H4 ⟨μ4, d4, h4, s4, r4, rw', o4⟩
        exact ⟨μ4, h4, d2, d4, r4, Rep.step s4 _ _ (Rep.step s3 _ _ ru), rw', o4.calm (cg _ _ _)⟩
    | _ => exact o3.elim
theorem pv_chn {op op' : CmpOp} {f g : D → D → Bs → R D} (cf : ∀ d e h, Calm (f d e h)) (cg : ∀ d e h, Calm (g d e h)) (ho : OpR X (compareOp op) (rD2 T f)) (ho' : OpR X (compareOp op') (rD2 T g)) (hm : lastMarks [op, op'] [b, c] = false)
    (ha : PE X a (tV T W sa)) (hb : PE X b (tV T W sb)) (hc : PE X c (tV T W sc)) : PE X (.Compare a [op, op'] [b, c] pos) (tV T W (sChn f g sa sb sc)) := PE.imp (pe_chain ho ho' ha hb hc hm) (chn_imp cf cg)
theorem wk_pair {J : It} {n : Nat} {G : Hp → Prop} {xs ys : Nat → Option V} {items : List D} {μ1 : Mu} (wk : Walk J n G (YPair xs ys)) (hl : items.length = n) (hs : Stays μ1 H G)
    (hi : ∀ (i : Nat) (v w : V), i < n → xs i = some v → ys i = some w → ∃ d e, items[i]? = some (.tup [d, e]) ∧ Rep T μ1 H d v ∧ Rep T μ1 H e w) : Wk T J items μ1 H := by
  refine ⟨fun E i μ' H' hE hi' s => wk.goes i H' (by rw [← hl]; exact hi') (hs E μ' H' hE s), fun E μ' H' hE s => by rw [hl]; exact wk.stops H' (hs E μ' H' hE s), fun E i μ' H' h x H'' hE hi' s r y => ?_⟩
  obtain ⟨t, v, w, e1, e2, e3, e4, e5⟩ := wk.yields i H' x H'' (by rw [← hl]; exact hi') (hs E μ' H' hE s) y
  subst e1 e3
  obtain ⟨d, e, f1, f2, f3⟩ := hi i v w (by rw [← hl]; exact hi') e4 e5
  have st : Stp μ' H' μ' (upd H' t (.tup [v, w])) := Stp.laid e2
  refine ⟨_, f1, st, r.laid e2, ?_⟩
  simp only [Rep]
  exact ⟨t, [v, w], rfl, upd_same, r.not e2, .cons (Rep.step st _ _ (Rep.stepx s hE _ _ f2)) (.one (Rep.step st _ _ (Rep.stepx s hE _ _ f3)))⟩
def enumL : Nat → List D → List D
  | _, [] => []
  | i, x :: xs => .tup [.int i, x] :: enumL (i + 1) xs
theorem enumL_length : ∀ (i : Nat) (xs : List D), (enumL i xs).length = xs.length
  | _, [] => rfl
  | i, x :: xs => by simp [enumL, enumL_length (i + 1) xs]
theorem enumL_get : ∀ (i : Nat) (xs : List D) (j : Nat) (x : D), xs[j]? = some x → (enumL i xs)[j]? = some (.tup [.int ((i + j : Nat) : Int), x])
  | i, y :: xs, 0, x, e => by simp at e; subst e; simp [enumL]
  | i, y :: xs, j + 1, x, e => by
    simp only [enumL]
    have := enumL_get (i + 1) xs j x (by simpa using e)
    rw [List.getElem?_cons_succ, this]
    congr 4
    omega
  | _, [], _, _, e => by simp at e
def itEnum (ds : List D) (h : Bs) : R Iu := match ds with
  | [d] => if isTupD d then .no else (match itSeq d h with
    | .ok u h' => .ok (enumL 0 u.1, u.2) h'
    | _ => .no)
  | _ => .no
theorem piv_enum {e : Expr} {p pos tpos : Pos} {elts : List Expr} {kk : Nat} {sa : SA} (hK : X.K = T.K) (hg : Gl X "enumerate") (hm : X.mg "enumerate" = none) (hs : PySem.W.isStarred e = false) (ha : PA X [e] (tA' T W sa)) :
    PI X (.Tuple elts kk tpos) (.Call (.Name "enumerate" p) [e] [] pos) (tI' T W (siArg itEnum sa)) :=
  PI.imp (pi_enum hg hm ha (by rw [star_no hs]; rfl)) fun σ H Q ⟨μ, ρ, h, r, e, o⟩ => by
    refine ⟨μ, ρ, h, r, e, OutA.mono (OutI.bindA o) ?_⟩
    rintro v H1 ⟨μ1, ds, h1, s1, r1, rv, o1⟩
    unfold itEnum at o1
    split at o1
    · rename_i d
      obtain ⟨w, rfl, rw'⟩ := rv.is1
      split at o1
      · exact o1.elim
      · rename_i ht
        split at o1
        · rename_i u h' q
          obtain ⟨xs, l⟩ := u
          obtain ⟨rfl, nl, a, vs, e1, e4, e5⟩ := seq_stays r1 rw' q
          rcases e5 with ⟨_, e5, e6⟩ | ⟨z, _⟩
          · subst e1
            refine ⟨a, vs, rfl, by rw [hK]; exact e5, ?_⟩
            rw [hK]
            refine o1 μ1 H1 _ Stp.refl r1 nl (wk_pair (walk_enum (K := T.K) (a := a) (xs := vs)) (by rw [enumL_length, e4.length]) e6 fun i v w hi z1 z2 => ?_)
            cases z1
            have hx : xs[i]? = some (xs[i]'(by rw [e4.length]; exact hi)) := List.getElem?_eq_getElem _
            obtain ⟨w', f1, f2⟩ := e4.get hx
            rw [z2] at f1; cases f1
            refine ⟨_, _, by rw [enumL_get 0 xs i _ hx], rep_int (by simp), Rep.ad lockMu_ad lockMu_pr _ _ f2⟩
          · rw [z] at ht; exact absurd rfl ht
        · exact o1.elim
    · exact o1.elim
def zipL : List D → List D → List D
  | x :: xs, y :: ys => .tup [x, y] :: zipL xs ys
  | _, _ => []
theorem zipL_length : ∀ (xs ys : List D), (zipL xs ys).length = min xs.length ys.length
  | [], _ => by simp [zipL]
  | _ :: _, [] => by simp [zipL]
  | x :: xs, y :: ys => by simp [zipL, zipL_length xs ys]
theorem zipL_get : ∀ (xs ys : List D) (j : Nat) (x y : D), xs[j]? = some x → ys[j]? = some y → (zipL xs ys)[j]? = some (.tup [x, y])
  | x' :: xs, y' :: ys, 0, x, y, e, f => by simp at e f; subst e f; simp [zipL]
  | x' :: xs, y' :: ys, j + 1, x, y, e, f => by
    simp only [zipL]
    rw [List.getElem?_cons_succ]
    exact zipL_get xs ys j x y (by simpa using e) (by simpa using f)
  | [], _, _, _, _, e, _ => by simp at e
  | _ :: _, [], _, _, _, _, f => by simp at f
def itZip (ds : List D) (h : Bs) : R Iu := match ds with
  | [d, e] => if isTupD d == isTupD e then (match itSeq d h, itSeq e h with
    | .ok (xs, none) _, .ok (ys, none) _ => .ok (zipL xs ys, none) h
    | _, _ => .no) else .no
  | _ => .no
theorem walk_zipT' {K : PySem.W.Frag} {a b : Addr} {xs ys : List V} {n : Nat} (hn : n = min xs.length ys.length) : Walk (RZ.ItzT K a b) n (fun H => SqT K H a xs ∧ SqT K H b ys) (YPair (fun i => xs[i]?) (fun i => ys[i]?)) := by
  subst hn
  refine ⟨fun i _ hi q => ?_, fun _ q => ⟨xs, ys, q.1, q.2, by omega⟩, fun i H v H' _ q y => ?_⟩
  · have h1 : i < xs.length := by omega
    have h2 : i < ys.length := by omega
    exact ⟨xs, ys, xs[i], ys[i], q.1, q.2, by simp [h1], by simp [h2]⟩
  · obtain ⟨t, x, z, h1, h2, h3, h4, h5⟩ := y
    exact ⟨t, x, z, h1, h2, h3, h4 xs q.1, h5 ys q.2⟩
theorem zip_items {xs ys : List D} {vs ws : List V} {μ1 : Mu} (q1 : Reps T μ1 H xs vs) (q2 : Reps T μ1 H ys ws) : ∀ (i : Nat) (v w : V), i < min vs.length ws.length → vs[i]? = some v → ws[i]? = some w →
    ∃ d e, (zipL xs ys)[i]? = some (.tup [d, e]) ∧ Rep T μ1 H d v ∧ Rep T μ1 H e w := fun i v w hi z1 z2 => by
  have h1 : i < xs.length := by rw [q1.length]; omega
  have h2 : i < ys.length := by rw [q2.length]; omega
  have hx : xs[i]? = some xs[i] := List.getElem?_eq_getElem h1
  have hy : ys[i]? = some ys[i] := List.getElem?_eq_getElem h2
  obtain ⟨v', f1, f2⟩ := q1.get hx
  obtain ⟨w', g1, g2⟩ := q2.get hy
  rw [z1] at f1; cases f1
  rw [z2] at g1; cases g1
  exact ⟨_, _, zipL_get xs ys i _ _ hx hy, f2, g2⟩
theorem piv_zip {e e2 : Expr} {p pos tpos : Pos} {elts : List Expr} {kk : Nat} {sa : SA} (hK : X.K = T.K) (hg : Gl X "zip") (hm : X.mg "zip" = none) (hs : PySem.W.isStarred e = false) (hs2 : PySem.W.isStarred e2 = false) (ha : PA X [e, e2] (tA' T W sa)) :
    PI X (.Tuple elts kk tpos) (.Call (.Name "zip" p) [e, e2] [] pos) (tI' T W (siArg itZip sa)) :=
  PI.imp (RZ.pi_zipA hg hm ha (star_no hs) (back_no (by simp [noStars, hs2]))) fun σ H Q ⟨μ, ρ, h, r, e, o⟩ => by
    refine ⟨μ, ρ, h, r, e, OutA.mono (OutI.bindA o) ?_⟩
    rintro v H1 ⟨μ1, ds, h1, s1, r1, rv, o1⟩
    unfold itZip at o1
    split at o1
    · rename_i d d2
      obtain ⟨w, w2, rfl, rw', rw2⟩ := rv.is2
      split at o1
      · rename_i ht
        split at o1
        · rename_i xs hx' ys hy' q q2
          obtain ⟨rfl, _, a, vs, e1, e4, e5⟩ := seq_stays r1 rw' q
          obtain ⟨rfl, _, b, ws, f1, f4, f5⟩ := seq_stays r1 rw2 q2
          subst e1 f1
          have ht' : isTupD d = isTupD d2 := by simpa using ht
          refine ⟨a, b, vs, ws, rfl, ?_⟩
          rcases e5 with ⟨t1, e5, e6⟩ | ⟨t1, e5, e6⟩
          · rcases f5 with ⟨t2, f5, f6⟩ | ⟨t2, f5, f6⟩
            · refine .inl ⟨by rw [hK]; exact e5, by rw [hK]; exact f5, ?_⟩
              rw [hK]
              exact o1.nolk r1 (wk_pair (walk_zip (K := T.K) (a := a) (b := b) rfl) (by rw [zipL_length, e4.length, f4.length]) (fun E μ' H' hE s => ⟨e6 E μ' H' hE s, f6 E μ' H' hE s⟩) (zip_items e4 f4))
            · rw [t1, t2] at ht'; cases ht'
          · rcases f5 with ⟨t2, f5, f6⟩ | ⟨t2, f5, f6⟩
            · rw [t1, t2] at ht'; cases ht'
            · refine .inr ⟨by rw [hK]; exact e5, by rw [hK]; exact f5, ?_⟩
              rw [hK]
              exact o1.nolk r1 (wk_pair (walk_zipT' (K := T.K) (a := a) (b := b) rfl) (by rw [zipL_length, e4.length, f4.length]) (fun E μ' H' hE s => ⟨e6 E μ' H' hE s, f6 E μ' H' hE s⟩) (zip_items e4 f4))
        · exact o1.elim
      · exact o1.elim
    · exact o1.elim
end
end VI
end
section
namespace VI
open PySem PySem.Spec PyProof.Rows L2
structure Cfg where
  T : Tb
  P : Program
  w : World
  mg : Str → Option Value
  base : Heap
structure Tx where
  fr : List Str
  co : List (Str × Int)
  /-- classes, attributes -/
  cl : List Str
  att : List Str
  /-- exception classes; those that are made with a text alone -/
  ex : List (Str × Bool) := []
structure Cfg.Ok (Z : Cfg) (t : Tx) : Prop where
  ok : Z.T.Ok
  fr : ∀ x, t.fr.contains x = true → Z.mg x = none
  co : ∀ x i, t.co.lookup x = some i → ∃ k, Z.mg x = some (.int i k)
  cl : ∀ i x, t.cl[i]? = some x → ∃ C, Z.T.cls i = some C ∧ Z.mg x = some (.ref C) ∧ PySem.W.keepIn Z.T.K (.ref C) = true
  att : ∀ i x, t.att[i]? = some x → Z.T.att i = x ∧ i < Z.T.n
  ex : ∀ (i : Nat) (x : Str) (b : Bool), t.ex[i]? = some (x, b) → ∃ C, Z.T.cls (1000 + i) = some C ∧ Z.mg x = some (.ref C) ∧ PySem.W.keepIn Z.T.K (.ref C) = true ∧ (b = true → PySem.W.excIn Z.T.K C PySem.HandSPX.veTail "ValueError.__new__" = true)
def fnC (raw : Option Scope) (x : Str) : Bool := match raw with
  | none => true
  | some s => s.names.lookup x == some .cell
structure XO (Z : Cfg) (t : Tx) (k : Nat) (N₀ : List Str) (sc₀ : Scope) (raw : Option Scope) (X : Cx) (W : WX) : Prop where
  z : Z.Ok t
  prog : X.prog = Z.P
  w : X.w = Z.w
  K : X.K = Z.T.K
  mg : X.mg = Z.mg
  base : X.base = Z.base
  N : X.N = N₀
  nd : N₀.Nodup
  sc : X.env.scope = sc₀
  kd : sc₀.kind = .function
  fn : ∀ x, fnC raw x = true → X.fn x = true
  calm : X.calm = true
  room : Room k X.A
  takes : Takes X W
  pass : PassesOwn (model X.prog X.w) X.A X.env X.xe
  top : raw = none → X.stack = X.env :: X.outer ∧ X.env.frame = some X.env.locals ∧ X.ex = []
def FnG (Z : Cfg) (x : Str) (k : Nat) (cf : List D → Bs → R D) : Prop := ∃ f fd ps, FnOk Z.P Z.w Z.T.K Z.mg Z.base (CX Z.P Z.w) k f fd ps (spF Z.T cf) ∧ Z.mg x = some (.ref f) ∧ PySem.W.keepIn Z.T.K (.ref f) = true ∧ Binds Z.T.K fd ps []
def visC (N : List Str) (sc : Scope) (i : Nat) (x : Str) : Bool := decide (N[i]? = some x) && (match sc.names.lookup x with | some .local => true | some .cell => true | some .free => true | _ => false) && !(x == ("__debug__" : Str)) && !(x == ("__classdict__" : Str))
def locC (N : List Str) (sc : Scope) (raw : Option Scope) (i : Nat) (x : Str) : Bool := decide (N[i]? = some x) && (match sc.names.lookup x with | some .local => true | some .cell => fnC raw x | _ => false)
def glC (sc : Scope) (x : Str) : Bool := (match sc.names.lookup x with | some .globalImplicit => true | _ => false) && !(x == ("__debug__" : Str)) && !(x == ("__name__" : Str))
section
variable {Z : Cfg} {t : Tx} {k : Nat} {N : List Str} {sc : Scope} {raw : Option Scope} {X : Cx} {W : WX} {pos p : Pos} {a b c : Expr} {sa sb s3 : SV} {x : Str}
theorem XO.gl (h : XO Z t k N sc raw X W) (g : glC sc x = true) : Gl X x ∧ (x == ("__debug__" : Str)) = false ∧ x ≠ "__name__" := by
  unfold glC at g
  simp only [Bool.and_eq_true, Bool.not_eq_true', beq_eq_false_iff_ne] at g
  obtain ⟨⟨g1, g2⟩, g3⟩ := g
  refine ⟨?_, by simpa using g2, g3⟩
  unfold Gl Env.kindOf
  rw [h.sc]
  split at g1
  · assumption
  · cases g1
theorem XO.vis (h : XO Z t k N sc raw X W) {i : Nat} (g : visC N sc i x = true) : X.N[i]? = some x ∧ Vis X.env.scope x ∧ (x == ("__debug__" : Str)) = false ∧ (x == ("__classdict__" : Str)) = false := by
  unfold visC at g
  simp only [Bool.and_eq_true, Bool.not_eq_true', decide_eq_true_eq] at g
  obtain ⟨⟨⟨g1, g2⟩, g3⟩, g4⟩ := g
  refine ⟨by rw [h.N]; exact g1, ?_, g3, g4⟩
  unfold Vis
  rw [h.sc]
  split at g2
  · exact .inl (by assumption)
  · exact .inr (.inl (by assumption))
  · exact .inr (.inr (by assumption))
  · cases g2
theorem XO.loc (h : XO Z t k N sc raw X W) {i : Nat} (g : locC N sc raw i x = true) : X.N[i]? = some x ∧ Loc X.env.scope x ∧ (X.fn x = true ∨ X.env.scope.names.lookup x = some .local) := by
  unfold locC at g
  simp only [Bool.and_eq_true, decide_eq_true_eq] at g
  obtain ⟨g1, g2⟩ := g
  rw [h.N]
  unfold L2.Loc
  rw [h.sc]
  split at g2
  · rename_i e
    exact ⟨g1, .inl e, .inr e⟩
  · rename_i e
    exact ⟨g1, .inr e, .inl (h.fn x g2)⟩
  · cases g2
theorem XO.fr (h : XO Z t k N sc raw X W) (g : t.fr.contains x = true) : X.mg x = none := by rw [h.mg]; exact h.z.fr x g
theorem XO.units (h : XO Z t k N sc raw X W) : X.A.units + 65 < cLine := by have := h.room.un; omega
theorem XO.nd' (h : XO Z t k N sc raw X W) : X.N.Nodup := by rw [h.N]; exact h.nd
theorem XO.blk (h : XO Z t k N sc raw X W) {scope : Scope} (hk : scope.kind = .function) (s : Shared) (H : Hp) (C : Addr) (cl : List (Str × Addr)) (fp : List Addr) : XO Z t k N (relS scope sc) (some scope) (X.blk s H scope (compEnvC scope cl C X.env) fp) noW where
  z := h.z
  prog := h.prog
  w := h.w
  K := h.K
  mg := h.mg
  base := h.base
  N := h.N
  nd := h.nd
  sc := by rw [← h.sc]; rfl
  kd := hk
  fn := fun x e => e
  calm := h.calm
  room := h.room
  takes := fun u s' ⟨a, B, sI, pins, σ, H, cls, d, e, I, nb, up, sky, na, os, ag, w⟩ => w.elim
  pass := PassesOwn.never
  top := fun z => nomatch z
theorem v_var (h : XO Z t k N sc raw X W) {i : Nat} (g : visC N sc i x = true) : PE X (.Name x pos) (tV Z.T W (sVar i)) := by
  obtain ⟨a, b, c, d⟩ := h.vis g
  exact pv_var a b c d
theorem v_co (h : XO Z t k N sc raw X W) {i : Int} (g : glC sc x = true) (e : t.co.lookup x = some i) : PE X (.Name x pos) (tV Z.T W (sK (.int i))) := by
  obtain ⟨a, b, c⟩ := h.gl g
  obtain ⟨j, hj⟩ := h.z.co x i e
  exact pv_glob a (by rw [h.mg]; exact hj) b
theorem v_call (h : XO Z t k N sc raw X W) {j : Nat} {cf : List D → Bs → R D} {e : Expr} {es : List Expr} {s : SA} (F : FnG Z x j cf) (hj : Nat.ble j k = true) (g : glC sc x = true) (hs : noStars (e :: es) = true) (ha : PA X (e :: es) (tA' Z.T W s)) :
    PE X (.Call (.Name x p) (e :: es) [] pos) (tV Z.T W (sCall cf s)) := by
  obtain ⟨a, b, c⟩ := h.gl g
  obtain ⟨f, fd, ps, F1, F2, F3, F4⟩ := F
  exact pv_call (k := j) (f := f) (fd := fd) (ps := ps) (by rw [h.prog, h.w, h.K, h.mg, h.base]; exact F1) (h.room.mono (Nat.le_of_ble_eq_true hj)) a (by rw [h.mg]; exact F2) (by rw [h.K]; exact F3) (by rw [h.K]; exact F4) h.takes b hs ha
structure BF (x : Str) (id : String) (f : List D → Bs → R D) : Prop where
  cf : ∀ ds h, Calm (f ds h)
  boot : bootBuiltins x = some (.builtin id)
  run : ∀ {Z : Cfg} {t : Tx} {k : Nat} {N : List Str} {sc : Scope} {raw : Option Scope} {X : Cx} {W : WX}, XO Z t k N sc raw X W → CallR X (.builtin id) (rDn Z.T f)
structure BT (x : Str) (id : String) (f : List D → Bs → R D) : Prop where
  cf : ∀ ds h, Calm (f ds h)
  boot : bootBuiltins x = some (.type id)
  run : ∀ {Z : Cfg} {t : Tx} {k : Nat} {N : List Str} {sc : Scope} {raw : Option Scope} {X : Cx} {W : WX}, XO Z t k N sc raw X W → CallR X (.type id) (rDn Z.T f)
theorem v_bf {id : String} {f : List D → Bs → R D} (B : BF x id f) (h : XO Z t k N sc raw X W) {e : Expr} {es : List Expr} {s : SA} (g : (glC sc x && t.fr.contains x && noStars (e :: es)) = true) (ha : PA X (e :: es) (tA' Z.T W s)) :
    PE X (.Call (.Name x p) (e :: es) [] pos) (tV Z.T W (sCall f s)) := by
  simp only [Bool.and_eq_true] at g
  obtain ⟨⟨g1, g2⟩, g3⟩ := g
  obtain ⟨a, b, c⟩ := h.gl g1
  exact pv_callB B.cf (B.run h) a (h.fr g2) B.boot c b g3 ha
theorem v_bt {id : String} {f : List D → Bs → R D} (B : BT x id f) (h : XO Z t k N sc raw X W) {e : Expr} {es : List Expr} {s : SA} (g : (glC sc x && t.fr.contains x && noStars (e :: es)) = true) (ha : PA X (e :: es) (tA' Z.T W s)) :
    PE X (.Call (.Name x p) (e :: es) [] pos) (tV Z.T W (sCall f s)) := by
  simp only [Bool.and_eq_true] at g
  obtain ⟨⟨g1, g2⟩, g3⟩ := g
  obtain ⟨a, b, c⟩ := h.gl g1
  exact pv_callTy B.cf (B.run h) a (h.fr g2) B.boot c b g3 ha
theorem B_len : BF "len" "len" lenD := ⟨fun _ _ => lenD_calm, by decide +kernel, fun h => cv_len h.K⟩
theorem B_int : BT "int" "int" intD := ⟨fun _ _ => intD_calm, by decide +kernel, fun h => cv_int⟩
abbrev minD := mmD (fun i j => if j < i then j else i) minFold
abbrev maxD := mmD (fun i j => if j > i then j else i) maxFold
theorem B_min : BF "min" "min" minD := ⟨fun _ _ => mmD_calm, by decide +kernel, fun h => cv_min h.K h.calm (by have := h.units; omega)⟩
theorem B_max : BF "max" "max" maxD := ⟨fun _ _ => mmD_calm, by decide +kernel, fun h => cv_max h.K h.calm (by have := h.units; omega)⟩
abbrev anyD' := anyD fun bs => bs.any id
abbrev allD' := anyD fun bs => bs.all id
theorem B_any : BF "any" "any" anyD' := ⟨fun _ _ => anyD_calm, by decide +kernel, fun h => cv_any h.K h.calm⟩
theorem B_all : BF "all" "all" allD' := ⟨fun _ _ => anyD_calm, by decide +kernel, fun h => cv_all h.K h.calm⟩
theorem B_tuple : BT "tuple" "tuple" tupleD := ⟨fun _ _ => tupleD_calm, by decide +kernel, fun h => cv_tuple h.K⟩
theorem v_add {bx : Bool} (h : XO Z t k N sc raw X W) (ha : PE X a (tV Z.T W sa)) (hb : PE X b (tV Z.T W sb)) : PE X (.BinOp a .Add b pos) (tV Z.T W (sOp (addD bx) sa sb)) := pv_op (fun _ _ _ => addD_calm) (ov_add h.K) ha hb
theorem v_mul {bx : Bool} (h : XO Z t k N sc raw X W) (ha : PE X a (tV Z.T W sa)) (hb : PE X b (tV Z.T W sb)) : PE X (.BinOp a .Mult b pos) (tV Z.T W (sOp (mulD bx) sa sb)) := pv_op (fun _ _ _ => mulD_calm) (ov_mul h.K) ha hb
theorem v_sub (h : XO Z t k N sc raw X W) (ha : PE X a (tV Z.T W sa)) (hb : PE X b (tV Z.T W sb)) : PE X (.BinOp a .Sub b pos) (tV Z.T W (sOp subD sa sb)) := pv_op (fun _ _ _ => subD_calm) ov_sub ha hb
theorem v_fdiv (h : XO Z t k N sc raw X W) (ha : PE X a (tV Z.T W sa)) (hb : PE X b (tV Z.T W sb)) : PE X (.BinOp a .FloorDiv b pos) (tV Z.T W (sOp fdivD sa sb)) := pv_op (fun _ _ _ => fdivD_calm) ov_fdiv ha hb
theorem v_mod (h : XO Z t k N sc raw X W) (ha : PE X a (tV Z.T W sa)) (hb : PE X b (tV Z.T W sb)) : PE X (.BinOp a .Mod b pos) (tV Z.T W (sOp modD sa sb)) := pv_op (fun _ _ _ => modD_calm) ov_mod ha hb
theorem v_ix (h : XO Z t k N sc raw X W) (hs : noSlice b = true) (ha : PE X a (tV Z.T W sa)) (hb : PE X b (tV Z.T W sb)) : PE X (.Subscript a b pos) (tV Z.T W (sOp ixD sa sb)) := pv_ix h.K hs ha hb
theorem v_sl {bx : Bool} {e : Expr} {lo hi : Option Expr} {p2 pos : Pos} {s : SV} {l u : SO} (h : XO Z t k N sc raw X W) (he : PE X e (tV Z.T W s)) (hl : PO X lo (tO' Z.T W l)) (hu : PO X hi (tO' Z.T W u)) : PE X (.Subscript e (.Slice lo hi none p2) pos) (tV Z.T W (sSl bx s l u)) := pv_sl h.K he hl hu
structure CF (op : CmpOp) (f : D → D → Bs → R D) : Prop where
  cf : ∀ d e h, Calm (f d e h)
  run : ∀ {Z : Cfg} {t : Tx} {k : Nat} {N : List Str} {sc : Scope} {raw : Option Scope} {X : Cx} {W : WX}, XO Z t k N sc raw X W → OpR X (compareOp op) (rD2 Z.T f)
theorem C_eq : CF .Eq (eqD false) := ⟨fun _ _ _ => eqD_calm, fun h => ov_eq h.K (by have := h.units; omega)⟩
theorem C_ne : CF .NotEq (eqD true) := ⟨fun _ _ _ => eqD_calm, fun h => ov_ne h.K (by have := h.units; omega)⟩
theorem C_in : CF .In (inD false) := ⟨fun _ _ _ => inD_calm, fun h => ov_in h.K h.units⟩
theorem C_notIn : CF .NotIn (inD true) := ⟨fun _ _ _ => inD_calm, fun h => ov_notIn h.K h.units⟩
theorem v_cmp {op : CmpOp} {f : D → D → Bs → R D} (C : CF op f) (h : XO Z t k N sc raw X W) (hb' : behindInMarks op b = false) (ha : PE X a (tV Z.T W sa)) (hb : PE X b (tV Z.T W sb)) : PE X (.Compare a [op] [b] pos) (tV Z.T W (sOp f sa sb)) := pv_cmp (pc_v C.cf (C.run h) ha hb) hb'
theorem t_cmp {op : CmpOp} {f : D → D → Bs → R D} (C : CF op f) (h : XO Z t k N sc raw X W) (hb' : behindInMarks op b = false) (ha : PE X a (tV Z.T W sa)) (hb : PE X b (tV Z.T W sb)) : PT X (.Compare a [op] [b] pos) (tB' Z.T W (sTru (sOp f sa sb))) := pvt_cmp (pc_v C.cf (C.run h) ha hb) hb'
theorem v_chn {op op' : CmpOp} {f g : D → D → Bs → R D} (C : CF op f) (C' : CF op' g) (h : XO Z t k N sc raw X W) (hm : lastMarks [op, op'] [b, c] = false) (ha : PE X a (tV Z.T W sa)) (hb : PE X b (tV Z.T W sb)) (hc : PE X c (tV Z.T W s3)) : PE X (.Compare a [op, op'] [b, c] pos) (tV Z.T W (sChn f g sa sb s3)) :=
  pv_chn C.cf C'.cf (C.run h) (C'.run h) hm ha hb hc
theorem clsN_ty (h : XO Z t k N sc raw X W) {u : Nat} {id : String} (hu : u < 7) (e : tyS u = id) (hb : bootBuiltins x = some (.type id)) (g : (glC sc x && t.fr.contains x) = true) : ClsN X Z.T x u := by
  simp only [Bool.and_eq_true] at g
  obtain ⟨a, b, c⟩ := h.gl g.1
  refine ⟨.ty id, .type id, by unfold Tb.tyV; rw [if_pos hu, e], ?_, fun pos => pe_bltn a (h.fr g.2) hb ?_ c b⟩
  · exact .ty id
  · rfl
end
end VI
end
section
namespace VI
open PySem PySem.Spec PyProof.Rows L2
def swC (ts vs : List Expr) (sc : Scope) : Option (Option (List Str)) :=
  if !(ts.length == 2 || ts.length == 3) || vs.length != ts.length || (match sc.kind with | .function => false | _ => true) then some none else
  if vs.any (fun | .Starred .. => true | _ => false) then some none else
  let line := (ts.head?.map (·.pos.line)).getD 0
  let names := ts.filterMap fun
    | .Name id pos => if sc.names.lookup id == some .local && pos.line == line then some id else none
    | _ => none
  if names.length != ts.length || names.eraseDups.length != names.length then some none else
  if vs.all (foldedForSure 8) then some none else
  if vs.all (constantsAlone 8) then none else
  some (some names)
def tupOf : Expr → Option (List Expr)
  | .Tuple ts _ _ => some ts
  | _ => none
section
variable {Z : Cfg} {t : Tx} {k : Nat} {N : List Str} {sc : Scope} {raw : Option Scope} {X : Cx} {W : WX} {pos p : Pos} {a b c : Expr} {sa sb s3 : SV} {x : Str}
theorem sw_of {ts vs : List Expr} {k1 k2 : Nat} {p1 p2 : Pos} {env : Env} {r : Option (List Str)} (hs : env.scope = sc) (hk : sc.kind = .function) (h : swC ts vs sc = some r) : swappedStores [.Tuple ts k1 p1] (.Tuple vs k2 p2) env = pure r := by
  have hb : env.blockKind = .function := by unfold Env.blockKind; rw [hs, hk]; rfl
  unfold swC at h
  unfold swappedStores
  simp only [hb, hk, Env.kindOf, hs] at h ⊢
  have hff : (ScopeKind.function != ScopeKind.function) = false := rfl
  rw [hff]
  split at h
  · rename_i c; refine (if_pos c).trans ?_; cases h; rfl
  rename_i c; refine (if_neg c).trans ?_; clear c
  split at h
  · rename_i c; refine (if_pos c).trans ?_; cases h; rfl
  rename_i c; refine (if_neg c).trans ?_; clear c
  split at h
  · rename_i c; refine (if_pos c).trans ?_; cases h; rfl
  rename_i c; refine (if_neg c).trans ?_; clear c
  split at h
  · rename_i c; refine (if_pos c).trans ?_; cases h; rfl
  rename_i c; refine (if_neg c).trans ?_; clear c
  split at h
  · cases h
  rename_i c; refine (if_neg c).trans ?_; clear c
  cases h
  rfl
theorem sw_none {tg v : Expr} {env : Env} (h : (match tg with | .Tuple .. => false | .List .. => false | _ => true) = true ∨ (match v with | .Tuple .. => false | _ => true) = true) : swappedStores [tg] v env = pure none := by
  cases tg <;> cases v <;> first | rfl | (rcases h with h | h <;> cases h)
theorem s_set {i : Nat} {py : Pos} (h : XO Z t k N sc raw X W) (g : locC N sc raw i x = true) (hc : isComp a = false) (ha : PE X a (tV Z.T W sa)) : PS X (.Assign [.Name x py] a pos) (tS' Z.T W (ssAsg sa (sgName i))) := by
  obtain ⟨g1, g2, g3⟩ := h.loc g
  exact psv_set h.nd' g1 g2 g3 hc ha
theorem g_name {i : Nat} {own : List Nat} (h : XO Z t k N sc raw X W) (g : locC N sc raw i x = true) (ho : own.contains i = true) : PG X (.Name x pos) (tG' Z.T own (sgName i)) := by
  obtain ⟨g1, g2, g3⟩ := h.loc g
  exact pgv_name h.nd' g1 g2 g3 (by simpa using ho)
theorem g_tup {own : List Nat} {es : List Expr} {j : Nat} {s : SGs} (h : XO Z t k N sc raw X W) (hs : noStarTs es = true) (hg : PGs X es (tGs' Z.T own s)) : PG X (.Tuple es j pos) (tG' Z.T own (sgTup es.length s)) := pgv_tup h.calm hs hg
def noTup : Expr → Bool
  | .Tuple .. => false
  | _ => true
theorem s_asg {own : List Nat} {tg : Expr} {g : SG} (h : XO Z t k N sc raw X W) (hc : (!isComp a && noStarT tg && noTup a) = true) (ha : PE X a (tV Z.T W sa)) (hg : PG X tg (tG' Z.T own g)) : PS X (.Assign [tg] a pos) (tS' Z.T W (ssAsg sa g)) := by
  simp only [Bool.and_eq_true, Bool.not_eq_true'] at hc
  refine psv_asg hc.1.1 (sw_none (.inr ?_)) hc.1.2 ha hg
  have e := hc.2
  cases a <;> first | rfl | cases e
theorem s_par {i j : Nat} {y : Str} {px py pt pos : Pos} {kt k2 pt2} {s : SA} (h : XO Z t k N sc raw X W) (gx : locC N sc raw i x = true) (gy : locC N sc raw j y = true) (hl : (decide (i ≠ j) && decide (sc.names.lookup x = some .local) && decide (sc.names.lookup y = some .local)) = true)
    (hw : swC [.Name x px, .Name y py] [a, b] sc = some (some [x, y])) (ha : PA X [a, b] (tA' Z.T W s)) :
    PS X (.Assign [.Tuple [.Name x px, .Name y py] kt pt] (.Tuple [a, b] k2 pt2) pos) (tS' Z.T W (ssAsg (sTup s) (sgTup 2 (sgCons (sgName i) (sgCons (sgName j) sgNil))))) := by
  simp only [Bool.and_eq_true, decide_eq_true_eq] at hl
  exact psv_par h.calm h.nd' (h.loc gx).1 (h.loc gy).1 hl.1.1 (by rw [h.sc]; exact hl.1.2) (by rw [h.sc]; exact hl.2) ha (sw_of h.sc h.kd hw)
def noSet : Expr → Bool
  | .Set .. => false
  | _ => true
theorem fsi {e : Expr} {env : Env} (h : noSet e = true) (x : Value) : foldedSetIterable e env x = pure x := by
  cases e <;> first | rfl | cases h
theorem s_for {own : List Nat} {tg iter : Expr} {body : List Stmt} {it : SI} {g : SG} {s : SS} (h : XO Z t k N sc raw X W) (hs : noSet iter = true) (hi : PI X tg iter (tI' Z.T W it)) (hg : PG X tg (tG' Z.T own g)) (hb : PSs X body (tS' Z.T W s)) : PS X (.For tg iter body [] pos) (tS' Z.T W (ssFor it g s)) :=
  psv_for h.pass h.calm hi hg hb (fsi hs)
theorem s_while {body : List Stmt} {s : SS} {n : Nat} (h : XO Z t k N sc raw X W) (hc : PT X c (tB' Z.T W (sTru s3))) (hb : PSs X body (tS' Z.T W s)) : PS X (.While c body [] pos) (tS' Z.T W (whileS s3 s n)) := psv_while h.pass hc hb
theorem i_seq {tg e : Expr} {s : SV} (h : XO Z t k N sc raw X W) (he : PE X e (tV Z.T W s)) : PI X tg e (tI' Z.T W (siSeq s)) := piv_seq h.K he
theorem i_rng1 {tg : Expr} {s : SA} (h : XO Z t k N sc raw X W) (g : (glC sc "range" && t.fr.contains "range" && noStars [a]) = true) (ha : PA X [a] (tA' Z.T W s)) : PI X tg (.Call (.Name "range" p) [a] [] pos) (tI' Z.T W (siArg itRng1 s)) := by
  simp only [Bool.and_eq_true, noStars, List.all_cons, List.all_nil, Bool.not_eq_true', Bool.and_true] at g
  exact piv_range1 (h.gl g.1.1).1 (h.fr g.1.2) g.2 ha
theorem v_lc {bx : Bool} {own : List (Str × Nat)} {tg iter elt : Expr} {ifs : List Expr} {scope : Scope} {it : SI} {g : SG} {tt : SB} {el : SV} (h : XO Z t k N sc raw X W) (g1 : (blkC N sc scope own && noSet iter) = true) (hi : PI X tg iter (tI' Z.T W it))
    (hb : ∀ X' : Cx, XO Z t k N (relS scope sc) (some scope) X' noW → PG X' tg (tG' Z.T (own.map (·.2)) g) ∧ PTs X' ifs (tB' Z.T noW tt) ∧ PE X' elt (tV Z.T noW el)) :
    PE X (.ListComp elt [⟨tg, iter, ifs, 0⟩] scope pos) (tV Z.T W (sLc bx (own.map (·.2)) it g tt el)) := by
  simp only [Bool.and_eq_true] at g1
  have ok : BlkOk X.N X.env.scope scope own := by rw [h.N, h.sc]; exact blkOk_by g1.1
  have q := fun s H C cl fp => hb _ (h.blk ok.kind s H C cl fp)
  exact pv_lc h.calm h.nd' hi ok (fun s H C cl fp => (q s H C cl fp).1) (fun s H C cl fp => (q s H C cl fp).2.1) (fun s H C cl fp => (q s H C cl fp).2.2) (fsi g1.2)
def swl (scope : Scope) (y : Str) (py pos : Pos) : Bool := (py.line == pos.line) && !(scope.names.any fun (n, k) => n == y && (k == .local || k == .cell))
theorem s_setLc {bx : Bool} {i : Nat} {y : Str} {py spos : Pos} {own : List (Str × Nat)} {tg iter elt : Expr} {ifs : List Expr} {scope : Scope} {it : SI} {g : SG} {tt : SB} {el : SV} (h : XO Z t k N sc raw X W)
    (g0 : (decide (N[i]? = some y) && decide (sc.names.lookup y = some .local) && swl scope y py pos) = true) (g1 : (blkC N sc scope own && noSet iter) = true) (hi : PI X tg iter (tI' Z.T W it))
    (hb : ∀ X' : Cx, XO Z t k N (relS scope sc) (some scope) X' noW → PG X' tg (tG' Z.T (own.map (·.2)) g) ∧ PTs X' ifs (tB' Z.T noW tt) ∧ PE X' elt (tV Z.T noW el)) :
    PS X (.Assign [.Name y py] (.ListComp elt [⟨tg, iter, ifs, 0⟩] scope pos) spos) (tS' Z.T W (ssAsg (sLc bx (own.map (·.2)) it g tt el) (sgName i))) := by
  simp only [Bool.and_eq_true, decide_eq_true_eq, swl, Bool.not_eq_true'] at g1 g0
  have ok : BlkOk X.N X.env.scope scope own := by rw [h.N, h.sc]; exact blkOk_by g1.1
  have q := fun s H C cl fp => hb _ (h.blk ok.kind s H C cl fp)
  exact psv_setLc h.calm h.nd' (by rw [h.N]; exact g0.1.1) (by rw [h.sc]; exact g0.1.2) (sw_true (by rw [h.sc]; exact h.kd) (by rw [h.sc]; exact g0.1.2) g0.2.1 g0.2.2) hi ok (fun s H C cl fp => (q s H C cl fp).1) (fun s H C cl fp => (q s H C cl fp).2.1) (fun s H C cl fp => (q s H C cl fp).2.2) (fsi g1.2)
theorem s_setLcN {i : Nat} {y : Str} {py spos : Pos} {gs : List Comprehension} {elt : Expr} {scope : Scope} {s : SV} (h : XO Z t k N sc raw X W) (g : locC N sc raw i y = true) (hl : (decide (sc.names.lookup y ≠ some .local) || !swl scope y py pos) = true)
    (ha : PE X (.ListComp elt gs scope pos) (tV Z.T W s)) : PS X (.Assign [.Name y py] (.ListComp elt gs scope pos) spos) (tS' Z.T W (ssAsg s (sgName i))) := by
  obtain ⟨g1, g2, g3⟩ := h.loc g
  refine PS.imp (ps_set h.nd' g1 g2 ha ?_ g3) asgN_imp
  unfold swapsWith
  have hb : X.env.blockKind = .function := by unfold Env.blockKind; rw [h.sc, h.kd]; rfl
  simp only [hb, Env.kindOf, h.sc, Expr.pos]
  have e : (ScopeKind.function == ScopeKind.function && List.lookup y sc.names == some NameKind.local && py.line == pos.line && !(scope.names.any fun (n, k) => n == y && (k == .local || k == .cell))) = false := by
    simp only [Bool.or_eq_true, decide_eq_true_eq, Bool.not_eq_true', swl] at hl
    rcases hl with hl | hl
    · have e2 : (List.lookup y sc.names == some NameKind.local) = false := by
        cases z : (List.lookup y sc.names == some NameKind.local) with
        | false => rfl
        | true => exact absurd (LawfulBEq.eq_of_beq z) hl
      rw [e2]; simp
    · rw [Bool.and_assoc, hl]; simp
  exact congrArg pure e
structure LM (name : Str) (id : String) (f : D → List D → Bs → R D) : Prop where
  cf : ∀ d ds h, Calm (f d ds h)
  slot : Slot "list" name id
  ty : typeOf (.builtin id) = pure (.type "method_descriptor")
  run : ∀ {X : Cx} {T : Tb}, MtR X id (rMt T f)
theorem v_bm {name : Str} {id : String} {f : D → List D → Bs → R D} {e : Expr} {es : List Expr} {apos cpos : Pos} {so : SV} {s : SA} (M : LM name id f) (h : XO Z t k N sc raw X W) (g : (noSuper a && noStars (e :: es) && Nat.blt (e :: es).length 30 && (apos.endLine == cpos.line)) = true) (ho : PE X a (tV Z.T W so)) (ha : PA X (e :: es) (tA' Z.T W s)) :
    PE X (.Call (.Attribute a name apos) (e :: es) [] cpos) (tV Z.T W (sBm f so s)) := by
  simp only [Bool.and_eq_true] at g
  exact pv_bm M.cf h.K PySem.F.plainAttrs_list M.slot M.ty M.run g.1.1.1 g.1.1.2 (by have e := g.1.2; simp [Nat.blt] at e; simp; omega) g.2 ho ha
theorem M_append : LM "append" "list.append" appD := ⟨fun _ _ _ => appD_calm, PySem.F.slot_list_append, PySem.F.type_list_append, mv_append⟩
theorem v_isi {e : Expr} {u : Nat} {q : Pos} {s : SV} (h : XO Z t k N sc raw X W) (g : (glC sc "isinstance" && t.fr.contains "isinstance" && noStars [e]) = true) (hx : ClsN X Z.T x u) (he : PE X e (tV Z.T W s)) : PE X (.Call (.Name "isinstance" p) [e, .Name x q] [] pos) (tV Z.T W (sUn (isiD Z.T u) s)) := by
  simp only [Bool.and_eq_true, noStars, List.all_cons, List.all_nil, Bool.not_eq_true', Bool.and_true] at g
  exact pv_isi h.z.ok h.K (h.gl g.1.1).1 (h.fr g.1.2) (by decide +kernel) g.2 hx he
theorem v_isi2 {e : Expr} {y : Str} {u u2 kk : Nat} {q q2 q3 : Pos} {s : SV} (h : XO Z t k N sc raw X W) (g : (glC sc "isinstance" && t.fr.contains "isinstance" && noStars [e]) = true) (hx : ClsN X Z.T x u) (hy : ClsN X Z.T y u2) (he : PE X e (tV Z.T W s)) :
    PE X (.Call (.Name "isinstance" p) [e, .Tuple [.Name x q, .Name y q2] kk q3] [] pos) (tV Z.T W (sUn (isiD2 Z.T u u2) s)) := by
  simp only [Bool.and_eq_true, noStars, List.all_cons, List.all_nil, Bool.not_eq_true', Bool.and_true] at g
  exact pv_isi2 h.z.ok h.K (h.gl g.1.1).1 (h.fr g.1.2) (by decide +kernel) g.2 hx hy he
theorem N_int (h : XO Z t k N sc raw X W) (g : (glC sc "int" && t.fr.contains "int") = true) : ClsN X Z.T "int" 2 := clsN_ty h (by decide) rfl (by decide +kernel) g
theorem N_bool (h : XO Z t k N sc raw X W) (g : (glC sc "bool" && t.fr.contains "bool") = true) : ClsN X Z.T "bool" 1 := clsN_ty h (by decide) rfl (by decide +kernel) g
theorem N_tuple (h : XO Z t k N sc raw X W) (g : (glC sc "tuple" && t.fr.contains "tuple") = true) : ClsN X Z.T "tuple" 4 := clsN_ty h (by decide) rfl (by decide +kernel) g
theorem N_list (h : XO Z t k N sc raw X W) (g : (glC sc "list" && t.fr.contains "list") = true) : ClsN X Z.T "list" 5 := clsN_ty h (by decide) rfl (by decide +kernel) g
def DefAt (Z : Cfg) (x : Str) (st : Stmt) : Prop := ∃ f fd, FunD Z.T.K x x (defArgs st) (defBody st) (defScope st) [] [] f fd ∧ Z.mg x = some (.ref f)
theorem fn_of {x : Str} {st : Stmt} {N ps : List Str} {s : SS} (z : Z.Ok t) (Df : DefAt Z x st) (S : FnScope N ps (defScope st))
    (hb : ∀ (kV doc pm : Value) (an : Option Addr) (cdv ct : Value) (us : List Value), us.length = ps.length → bindArgs (PySem.W.fnOf x x (defArgs st) (defBody st) (defScope st) .none kV doc pm an cdv ct) ⟨us, []⟩ = pure (ps.zip us))
    (B : ∀ (X : Cx) (W : WX), XO Z t k N (defScope st) none X W → PSs X (defBody st) (tS' Z.T W s)) : FnG Z x (k + 1) (runFn ps.length N.length s) := by
  obtain ⟨f, fd, F, hm⟩ := Df
  refine ⟨f, fd, ps, fn_sound F S fun cdv A outer s H E hr => B _ _ ⟨z, rfl, rfl, rfl, rfl, rfl, rfl, S.nd, rfl, S.kind, fun _ _ => rfl, rfl, hr, takes_of rfl rfl rfl rfl, passes_of rfl, fun _ => ⟨rfl, rfl, rfl⟩⟩, hm, F.kp, F.bindsN hb⟩
theorem FnG.mono {x : Str} {j k : Nat} {cf : List D → Bs → R D} (F : FnG Z x j cf) : FnG Z x j cf := F
end
end VI
end
section
namespace VI
open PySem PySem.Spec PyProof.Rows L2
section
variable {Z : Cfg} {t : Tx} {k : Nat} {N : List Str} {sc : Scope} {raw : Option Scope} {X : Cx} {W : WX} {pos p q p2 : Pos} {a b c : Expr} {sa sb s3 : SV} {x : Str}
def rgL (bx : Bool) (d : D) (h : Bs) : R D := match d with
  | .int n => if -(2 ^ 62) ≤ n ∧ n < 2 ^ 62 ∧ n.toNat ≤ 2 ^ 24 then newL bx (rngItems 0 n.toNat) h else .no
  | _ => .no
end
end VI
end
section
namespace VI
open PySem PySem.Spec PyProof.Rows L2
theorem kit0_ok (K : PySem.W.Frag) : ∀ t < 7, ∀ u < 7, PySem.W.kitOne K (.type (tyS t)) (.type (tyS u)) = some (t == u || (t == 1 && u == 2)) := by
  intro t ht u hu
  have h1 : t = 0 ∨ t = 1 ∨ t = 2 ∨ t = 3 ∨ t = 4 ∨ t = 5 ∨ t = 6 := by omega
  have h2 : u = 0 ∨ u = 1 ∨ u = 2 ∨ u = 3 ∨ u = 4 ∨ u = 5 ∨ u = 6 := by omega
  rcases h1 with rfl | rfl | rfl | rfl | rfl | rfl | rfl <;> rcases h2 with rfl | rfl | rfl | rfl | rfl | rfl | rfl <;> first | rfl | kernel_rfl
theorem walk_w {l : PySem.W.OpenLaw} {n k : Nat} {q : Program} {loose : List Str} {XP : (Str → Option Value) → Heap → Prop} {YP : World → Heap → Prop} {d : DefRec} {x : Str}
    (hn : l.most = some n) (hn2 : n ≤ sizeLine) (hdf : d.params.defaults = []) (hr : Room k callerA)
    (F : ∀ (w : World) (mg : Str → Option Value) (fa : Addr) (h : Heap), YP w h → h.Ns mainGlobals mg → mg d.name = some (.ref fa) →
      ∃ (K : PySem.W.Frag) (fd : FuncData) (sp : Sp), K.In h ∧ (∀ (s : Shared) (u : Value), BindsTo s fd ⟨[u], []⟩ [(x, u)]) ∧
        (∀ (H : Hp) (a : Addr) (ns : List Int), ns.length ≤ n → SqL K H a (ns.map V.int) → sp [.ref a] H (fun v _ => v = .bl true) fun _ _ _ => False) ∧
        ∀ base : Heap, K.In base → base.Ns mainGlobals mg → FnOk l.prog w K mg base (CX l.prog w) k fa fd [x] sp) :
    PySem.W.WalkO q loose XP YP l.row.toRowW d [] (fun f vs => PySem.call f vs) := by
  refine Att.attach_call hn hdf fun w s₀ s₁ mg mb fa o pm cd doc a vs ns G Y ho hd hcd hmg hobj hints hlen hg => ?_
  obtain ⟨K, fd, sp, KX, hb, hsp, hF⟩ := F w mg fa _ Y G.T.g hmg
  exact law_call KX G.T.g G.T.b G.T.builtins G.T.nolimit hg hobj hints (Nat.le_trans hlen hn2) hr hF hb (fun H hO hS => hsp H a ns hlen hS) fun H e s' ⟨_, _, _, _, _, _, _, _, _, _, _, _, z⟩ => z
abbrev bs0 : Bs := ⟨[], []⟩
theorem start_ok {T : Tb} {H : Hp} {a : Addr} {ns : List Int} {cf : List D → Bs → R D} {h' : Bs} (hS : SqL T.K H a (ns.map V.int)) (e : cf [.scr ns] bs0 = .ok (.bl true) h') : spF T cf [.ref a] H (fun v _ => v = .bl true) fun _ _ _ => False := by
  refine ⟨⟨[], [], [], []⟩, bs0, [.scr ns], ⟨rfl, fun _ h => by simp at h, fun _ h => by simp at h, fun _ _ _ h => by simp at h, rfl, .nil, fun _ _ _ h => by simp at h, fun _ h => by simp at h, .nil, fun _ h => by simp at h⟩, .one ?_, ?_⟩
  · simp only [Rep]
    refine ⟨a, rfl, ?_⟩
    rcases hS with h | h
    · exact .inl ⟨h, by simp [Mu.no]⟩
    · exact .inr h
  · rw [e]
    intro μ' H' v _ _ q
    simpa only [Rep] using q
end VI
end
section
namespace VI
open PySem PySem.Spec PyProof.Rows L2
mutual
def noD : D → Bool
  | .tup xs => noDs xs
  | .tpl xs => noDs xs
  | .lst xs => noDs xs
  | .dct _ _ => false
  | .obj _ _ vs => noDs vs
  | .exo _ _ vs => noDs vs
  | .ref _ => false
  | _ => true
def noDs : List D → Bool
  | [] => true
  | x :: xs => noD x && noDs xs
end
section
variable {α β : Type} {T : Tb} {h h' : Bs} {ρ : Ev}
@[simp] theorem bind_ok {a : α} {f : α → Bs → R β} : (R.ok a h).bind f = f a h := rfl
@[simp] theorem bind_ex {x : Ex} {f : α → Bs → R β} : (R.ex x h : R α).bind f = .ex x h := rfl
@[simp] theorem toF_ok {a : α} {k : α → Bs → F} : (R.ok a h).toF ρ k = k a h := rfl
@[simp] theorem toF_ex {x : Ex} {k : α → Bs → F} : (R.ex x h : R α).toF ρ k = .ex x ρ h := rfl
@[simp] theorem toF'_ok : (R.ok ρ h).toF' = .nx ρ h := rfl
@[simp] theorem Fbind_nx {g : Ev → Bs → F} : (F.nx ρ h).bind g = g ρ h := rfl
@[simp] theorem Fbind_rt {d : D} {g : Ev → Bs → F} : (F.rt d h).bind g = .rt d h := rfl
@[simp] theorem lockO_none : lockO none h = h := rfl
@[simp] theorem unlO_none : unlO none h = h := rfl
@[simp] theorem unlR_ok {l : Option Nat} {a : α} : unlR l (.ok a h) = .ok a (unlO l h) := rfl
@[simp] theorem unlF_nx {l : Option Nat} : unlF l (.nx ρ h) = .nx ρ (unlO l h) := rfl
@[simp] theorem unlF_rt {l : Option Nat} {d : D} : unlF l (.rt d h) = .rt d (unlO l h) := rfl
@[simp] theorem inB_bs : (inB h).bs = h.bs := rfl
@[simp] theorem inB_fbs : (inB h).fbs = h.bs.length :: h.fbs := rfl
@[simp] theorem outB_inB : outB h (inB h) = h := by
  unfold outB inB
  simp
mutual
theorem frzD_id (g : Nat → Option D) : ∀ d : D, noD d = true → frzD g d = some d
  | .non, _ => rfl
  | .bl _, _ => rfl
  | .int _, _ => rfl
  | .str _, _ => rfl
  | .scr _, _ => rfl
  | .tup xs, e => by simp only [noD] at e; simp only [frzD, frzDs_id g xs e]
  | .lst xs, e => by simp only [noD] at e; simp only [frzD, frzDs_id g xs e]
  | .tpl xs, e => by simp only [noD] at e; simp only [frzD, frzDs_id g xs e]
  | .obj c fs xs, e => by simp only [noD] at e; simp only [frzD, frzDs_id g xs e]
  | .exo c fs xs, e => by simp only [noD] at e; simp only [frzD, frzDs_id g xs e]
  | .ref _, e => by simp [noD] at e
  | .dct _ _, e => by simp [noD] at e
theorem frzDs_id (g : Nat → Option D) : ∀ d : List D, noDs d = true → frzDs g d = some d
  | [], _ => rfl
  | x :: xs, e => by simp only [noDs, Bool.and_eq_true] at e; simp only [frzDs, frzD_id g x e.1, frzDs_id g xs e.2]
end
theorem noDs_ints : ∀ ns : List Int, noDs (ns.map .int) = true
  | [] => rfl
  | n :: ns => by simp [noDs, noD, noDs_ints ns]
theorem run_rt {np ns : Nat} {s : SS} {ds : List D} {d : D} (hl : ds.length = np) (hs : s (slots ns ds) (inB h) = .rt d (inB h)) (hd : noD d = true) : runFn np ns s ds h = .ok d h := by
  unfold runFn
  rw [if_pos hl, hs]
  simp only [finF, frzD_id _ d hd, outB_inB]
theorem newL_f {xs : List D} (e : xs.length ≤ sizeLine) : newL false xs h = .ok (.lst xs) h := by unfold newL; rw [if_pos e]; rfl
theorem newL_t {xs : List D} (e : xs.length ≤ sizeLine) : newL true xs h = .ok (.ref h.bs.length) { h with bs := h.bs ++ [.lst false xs] } := by unfold newL; rw [if_pos e]; rfl
theorem newT_f {xs : List D} (e : xs.length ≤ sizeLine) : newT xs h = .ok (.tup xs) h := by unfold newT; rw [if_pos e]
end
namespace Std
def number : SS := (ssCons (ssAsg (sIte (sOp (eqD true) (sVar 0) (sLst false saNil)) (sSl false (sVar 0) soNone (soSome (sK (.int 63)))) (sLst false (saCons (sK (.int 5)) saNil))) (sgName 2))
  (ssCons (ssAsg (sOp (addD false) (sOp ixD (sVar 2) (sOp modD (sCall intD (saCons (sVar 1) saNil)) (sCall lenD (saCons (sVar 2) saNil)))) (sOp (mulD false) (sK (.int 13)) (sOp fdivD (sVar 1) (sCall lenD (saCons (sVar 2) saNil))))) (sgName 3))
  (ssCons (ssAsg (sTup (saCons (sOp modD (sCall intD (saCons (sVar 3) saNil)) (sK (.int 1000003))) (saCons (sOp modD (sCall intD (saCons (sOp fdivD (sVar 3) (sK (.int 1000003))) saNil)) (sK (.int 999983))) saNil))) (sgTup 2 (sgCons (sgName 4) (sgCons (sgName 5) sgNil))))
  (ssCons (ssAsg (sOp modD (sCall intD (saCons (sCall sumD (saCons (sVar 2) saNil)) saNil)) (sK (.int 65521))) (sgName 6))
  (ssCons (ssAsg (sOp modD (sCall intD (saCons (sOp (addD false) (sOp (addD false) (sOp (mulD false) (sOp (addD false) (sVar 4) (sOp (mulD false) (sK (.int 977)) (sVar 1))) (sK (.int 48271))) (sOp (mulD false) (sK (.int 31)) (sVar 5))) (sVar 6)) saNil)) (sK (.int 2147483647))) (sgName 7))
  (ssCons (ssRet (sOp (addD false) (sOp (mulD false) (sOp modD (sCall intD (saCons (sOp (mulD false) (sVar 7) (sOp (addD false) (sOp (addD false) (sVar 7) (sOp (mulD false) (sK (.int 31)) (sVar 1))) (sK (.int 7)))) saNil)) (sK (.int 2147483629))) (sK (.int 65537))) (sVar 5)))
  ssNil))))))
def fNumber : List D → Bs → R D := runFn 2 8 number
theorem mulI {i j : Int} {h : Bs} (e : i.natAbs.log2 + j.natAbs.log2 < 1000000) : mulD false (.int i) (.int j) h = .ok (.int (i * j)) h := by simp only [mulD, if_pos e]
theorem modI {i j : Int} {h : Bs} (e : 0 < j) : modD (.int i) (.int j) h = .ok (.int (i % j)) h := by simp only [modD, if_pos e]
theorem fdivI {i j : Int} {h : Bs} (e : 0 < j ∧ j.natAbs.log2 < 9000) : fdivD (.int i) (.int j) h = .ok (.int (i / j)) h := by simp only [fdivD, if_pos e]
theorem log2_lt {i : Int} {k : Nat} (h1 : -(2 ^ k) < i) (h2 : i < 2 ^ k) : i.natAbs.log2 ≤ k := by
  by_cases h : i.natAbs = 0
  · rw [h]; simp
  · have e : i.natAbs < 2 ^ k := by
      have : (i.natAbs : Int) < ((2 ^ k : Nat) : Int) := by push_cast; omega
      exact_mod_cast this
    exact Nat.le_of_lt ((Nat.log2_lt h).mpr e)
def cells (ns : List Int) : List Int := if ns = [] then [5] else ns
theorem cells_len {ns : List Int} (h : ns.length ≤ 63) : 0 < (cells ns).length ∧ (cells ns).length ≤ 63 := by
  unfold cells
  split
  · simp
  · rename_i e
    exact ⟨List.length_pos_iff.mpr e, h⟩
theorem atI_nat {α : Type} {xs : List α} {i : Int} (h1 : 0 ≤ i) (h2 : i < xs.length) : L2.atI xs i = some (xs[i.toNat]'(by omega)) := by
  unfold L2.atI L2.ixN
  rw [if_pos h1, if_pos h2]
  exact List.getElem?_eq_getElem _
theorem atI_mod {α : Type} (xs : List α) (h : 0 < xs.length) (i : Int) : ∃ x, L2.atI xs (i % (xs.length : Int)) = some x ∧ x ∈ xs := by
  have h1 : 0 ≤ i % (xs.length : Int) := Int.emod_nonneg _ (by omega)
  have h2 : i % (xs.length : Int) < xs.length := Int.emod_lt_of_pos _ (by omega)
  exact ⟨_, atI_nat h1 h2, List.getElem_mem _⟩
theorem cut_hi {xs : List D} {n : Nat} : cutD xs none (some (n : Int)) = xs.take n := by
  unfold cutD
  rw [HT.sIx_none, HT.sIx_nat]
  simp
theorem number_ok {ns : List Int} (hl : ns.length ≤ 63) {i : Int} (h0 : 0 ≤ i) (h1 : i < 2 ^ 64) (h : Bs) : ∃ z, fNumber [.scr ns, .int i] h = .ok (.int z) h := by
  have hc : ∀ h : Bs, (sIte (sOp (eqD true) (sVar 0) (sLst false saNil)) (sSl false (sVar 0) soNone (soSome (sK (.int 63)))) (sLst false (saCons (sK (.int 5)) saNil))) (slots 8 [.scr ns, .int i]) h = .ok (if ns = [] then .lst [.int 5] else .lst (ns.map .int)) h := by
    intro h
    cases ns with
    | nil => rfl
    | cons n ms =>
      have e1 : (sOp (eqD true) (sVar 0) (sLst false saNil)) (slots 8 [.scr (n :: ms), .int i]) h = .ok (.bl true) h := rfl
      simp only [sIte, sTru, e1, bind_ok, truth]
      have e2 : cutD ((n :: ms).map D.int) none (some 63) = (n :: ms).map D.int := by
        have := cut_hi (xs := (n :: ms).map D.int) (n := 63)
        rw [show ((63 : Nat) : Int) = 63 from rfl] at this
        rw [this, List.take_of_length_le (by simpa using hl)]
      show newL false (cutD ((n :: ms).map D.int) none (some 63)) h = _
      rw [e2, newL_f (by simp at hl ⊢; unfold sizeLine; omega)]
      rfl
  have hd : (if ns = [] then D.lst [.int 5] else .lst (ns.map .int)) = .lst ((cells ns).map .int) := by unfold cells; split <;> simp_all
  obtain ⟨q1, q2⟩ := cells_len hl
  obtain ⟨cs, hcs⟩ : ∃ cs, cs = cells ns := ⟨_, rfl⟩
  rw [hd, ← hcs] at hc
  rw [← hcs] at q1 q2
  obtain ⟨c, hix⟩ : ∃ c, L2.atI (cs.map D.int) (i % (cs.length : Int)) = some (.int c) := by
    obtain ⟨x, e, m⟩ := atI_mod (cs.map D.int) (by simpa using q1) i
    obtain ⟨c, _, rfl⟩ := List.mem_map.mp m
    exact ⟨c, by simpa using e⟩
  have hsl : slots 8 [.scr ns, .int i] = [some (.scr ns), some (.int i), none, none, none, none, none, none] := rfl
  have hlog : ∀ a : Int, 0 ≤ a → a < 2 ^ 100 → a.natAbs.log2 ≤ 100 := fun a h1 h2 => log2_lt (by omega) h2
  have g1 : 0 ≤ i / (cs.length : Int) ∧ i / (cs.length : Int) ≤ i := ⟨Int.ediv_nonneg h0 (by omega), Int.ediv_le_self _ h0⟩
  have hlc : ((cs.length : Int)).natAbs.log2 < 9000 := Nat.lt_of_le_of_lt (hlog _ (by omega) (by omega)) (by decide)
  obtain ⟨cell, hcell⟩ : ∃ cell, cell = c + 13 * (i / (cs.length : Int)) := ⟨_, rfl⟩
  obtain ⟨low, hlow⟩ : ∃ z, z = cell % 1000003 := ⟨_, rfl⟩
  obtain ⟨high, hhigh⟩ : ∃ z, z = cell / 1000003 % 999983 := ⟨_, rfl⟩
  obtain ⟨tot, htot⟩ : ∃ z, z = cs.sum % 65521 := ⟨_, rfl⟩
  have b1 : 0 ≤ low ∧ low < 1000003 := by subst hlow; exact ⟨Int.emod_nonneg _ (by decide), Int.emod_lt_of_pos _ (by decide)⟩
  have b2 : 0 ≤ high ∧ high < 999983 := by subst hhigh; exact ⟨Int.emod_nonneg _ (by decide), Int.emod_lt_of_pos _ (by decide)⟩
  have b3 : 0 ≤ tot ∧ tot < 65521 := by subst htot; exact ⟨Int.emod_nonneg _ (by decide), Int.emod_lt_of_pos _ (by decide)⟩
  obtain ⟨bl, hbl⟩ : ∃ z, z = ((low + 977 * i) * 48271 + 31 * high + tot) % 2147483647 := ⟨_, rfl⟩
  have b4 : 0 ≤ bl ∧ bl < 2147483647 := by subst hbl; exact ⟨Int.emod_nonneg _ (by decide), Int.emod_lt_of_pos _ (by decide)⟩
  have m1 : ∀ h, mulD false (.int 13) (.int (i / (cs.length : Int))) h = .ok (.int (13 * (i / (cs.length : Int)))) h := fun h => mulI (by have := hlog (i / cs.length) g1.1 (by omega); have := hlog 13 (by decide) (by decide); omega)
  have m2 : ∀ h, mulD false (.int 977) (.int i) h = .ok (.int (977 * i)) h := fun h => mulI (by have := hlog i h0 (by omega); have := hlog 977 (by decide) (by decide); omega)
  have m3 : ∀ h, mulD false (.int (low + 977 * i)) (.int 48271) h = .ok (.int ((low + 977 * i) * 48271)) h := fun h => mulI (by have := hlog (low + 977 * i) (by omega) (by omega); have := hlog 48271 (by decide) (by decide); omega)
  have m4 : ∀ h, mulD false (.int 31) (.int high) h = .ok (.int (31 * high)) h := fun h => mulI (by have := hlog high (by omega) (by omega); have := hlog 31 (by decide) (by decide); omega)
  have m5 : ∀ h, mulD false (.int 31) (.int i) h = .ok (.int (31 * i)) h := fun h => mulI (by have := hlog i h0 (by omega); have := hlog 31 (by decide) (by decide); omega)
  have m6 : ∀ h, mulD false (.int bl) (.int (bl + 31 * i + 7)) h = .ok (.int (bl * (bl + 31 * i + 7))) h := fun h => mulI (by have := hlog bl (by omega) (by omega); have := hlog (bl + 31 * i + 7) (by omega) (by omega); omega)
  have m7 : ∀ h, mulD false (.int (bl * (bl + 31 * i + 7) % 2147483629)) (.int 65537) h = .ok (.int (bl * (bl + 31 * i + 7) % 2147483629 * 65537)) h := fun h => mulI (by
    have e1 : 0 ≤ bl * (bl + 31 * i + 7) % 2147483629 := Int.emod_nonneg _ (by decide)
    have e2 : bl * (bl + 31 * i + 7) % 2147483629 < 2147483629 := Int.emod_lt_of_pos _ (by decide)
    have := hlog _ e1 (by omega); have := hlog 65537 (by decide) (by decide); omega)
  refine ⟨bl * (bl + 31 * i + 7) % 2147483629 * 65537 + high, ?_⟩
  refine run_rt (d := .int _) rfl ?_ rfl
  rw [hsl] at hc ⊢
  unfold number
  simp only [ssCons, ssAsg, hc, toF_ok, Fbind_nx, sgName, toF'_ok, List.set_cons_succ, List.set_cons_zero, sOp, sVar, List.getElem?_cons_succ, List.getElem?_cons_zero, bind_ok, sCall, saCons, saNil, sK, intD, lenD, seqOf, lstOf, List.length_map, modI (j := (cs.length : Int)) (by omega), ixD, hix,
    fdivI (j := (cs.length : Int)) ⟨by omega, hlc⟩, m1, addD]
  rw [← hcell]
  simp only [sTup, sOp, sVar, List.getElem?_cons_succ, List.getElem?_cons_zero, bind_ok, sCall, saCons, saNil, sK, intD, modI (j := 1000003) (by decide), fdivI (j := 1000003) (by decide), modI (j := 999983) (by decide)]
  rw [← hlow, ← hhigh, newT_f (by show 2 ≤ sizeLine; decide)]
  have hsum : intsD (cs.map .int) = some cs := intsD_map cs
  simp only [toF_ok, sgTup, List.length_cons, List.length_nil, if_true, sgCons, sgName, sgNil, bind_ok, toF'_ok, Fbind_nx, List.set_cons_succ, List.set_cons_zero, sOp, sVar, List.getElem?_cons_succ, List.getElem?_cons_zero, sCall, saCons, saNil, sK, sumD, seqOf, lstOf, hsum, intD, modI (j := 65521) (by decide), ssAsg, ssCons]
  rw [← htot]
  simp only [toF_ok, sgName, toF'_ok, Fbind_nx, bind_ok, List.set_cons_succ, List.set_cons_zero, List.getElem?_cons_succ, List.getElem?_cons_zero, m2, m3, m4, addD, intD, modI (j := 2147483647) (by decide)]
  rw [← hbl]
  simp only [ssCons, ssNil, ssAsg, toF_ok, sgName, toF'_ok, Fbind_nx, bind_ok, List.set_cons_succ, List.set_cons_zero, List.getElem?_cons_succ, List.getElem?_cons_zero, ssRet, sOp, sVar, sCall, saCons, saNil, sK, m5, m6, addD, intD, modI (j := 2147483629) (by decide), m7, Fbind_rt]
def take : SS := (ssCons (ssAsg (sOp (addD false) (sOp ixD (sVar 0) (sK (.int 1))) (sK (.int 1))) (sgSub (sVar 0) (sK (.int 1))))
  (ssCons (ssRet (sOp modD (sCall intD (saCons (sCall fNumber (saCons (sOp ixD (sVar 0) (sK (.int 0))) (saCons (sCall intD (saCons (sOp ixD (sVar 0) (sK (.int 1))) saNil)) saNil))) saNil)) (sVar 1)))
  ssNil))
def fTake : List D → Bs → R D := runFn 2 2 take
def DrAt (b : Nat) (ns : List Int) (c : Int) (h : Bs) : Prop := h.bs[b]? = some (.lst false [.scr ns, .int c])
theorem DrAt.lt {b : Nat} {ns : List Int} {c : Int} {h : Bs} (d : DrAt b ns c h) : b < h.bs.length := by
  by_cases e : b < h.bs.length
  · exact e
  · unfold DrAt at d; rw [List.getElem?_eq_none (by omega)] at d; cases d
end Std
end VI
end
section
namespace VI
open PySem PySem.Spec PyProof.Rows L2
namespace Std
def orderB : SS := (ssCons (ssExpr (sBm appD (sVar 3) (saCons (sBm popD (sVar 2) (saCons (sCall fTake (saCons (sVar 0) (saCons (sCall lenD (saCons (sVar 2) saNil)) saNil))) saNil)) saNil)))
  ssNil)
def order : SS := (ssCons (ssAsg (sTup (saCons (sUn (rgL true) (sVar 1)) (saCons (sLst true saNil) saNil))) (sgTup 2 (sgCons (sgName 2) (sgCons (sgName 3) sgNil))))
  (ssCons (ssFor (siArg itRng1 (saCons (sVar 1) saNil)) (sgName 4)
  orderB)
  (ssCons (ssRet (sVar 3))
  ssNil)))
def fOrder : List D → Bs → R D := runFn 2 5 order
section
variable {b : Nat} {ns : List Int} {c : Int} {h : Bs} {left done : List Int}
theorem newL_t' {xs : List D} (e : xs.length ≤ sizeLine) : newL true xs h = .ok (.ref h.bs.length) ⟨h.fbs, h.bs ++ [.lst false xs]⟩ := newL_t e
end
end Std
end VI
end
section
namespace VI
open PySem PySem.Spec PyProof.Rows L2
abbrev tI (l : List Int) : D := .tup (l.map .int)
abbrev lI (l : List Int) : D := .lst (l.map .int)
theorem mapO_all {α β : Type} {f : α → Option β} {g : α → β} : ∀ (xs : List α), (∀ x ∈ xs, f x = some (g x)) → mapO f xs = some (xs.map g)
  | [], _ => rfl
  | x :: xs, e => by
    have e1 := e x List.mem_cons_self
    have e2 := mapO_all xs fun y hy => e y (List.mem_cons_of_mem _ hy)
    simp only [mapO, e1, e2, List.map_cons]
section
variable {h : Bs} {n : Nat}
theorem py_int {i : Int} : py (n + 1) h (.int i) = some (.int i) := rfl
theorem py_ints (l : List Int) : mapO (py (n + 1) h) (l.map .int) = some (l.map .int) := by
  have e := mapO_all (f := py (n + 1) h) (g := fun d => match d with | .int i => PyData.int i | _ => .none) (l.map D.int) (fun x hx => by
    obtain ⟨i, _, rfl⟩ := List.mem_map.mp hx
    rfl)
  rw [e, List.map_map]
  rfl
theorem py_tI (l : List Int) : py (n + 2) h (tI l) = some (.tuple (l.map .int)) := by
  show (mapO (py (n + 1) h) (l.map .int)).map PyData.tuple = _
  rw [py_ints]; rfl
theorem py_lI (l : List Int) : py (n + 2) h (lI l) = some (.list (l.map .int)) := by
  show (mapO (py (n + 1) h) (l.map .int)).map PyData.list = _
  rw [py_ints]; rfl
theorem eqv_int (a b : Int) : PyData.eqv (.int a) (.int b) = decide (a = b) := by
  simp only [PyData.eqv]
  cases e : (a == b) with
  | true => simp at e; simp [e]
  | false => simp at e; simp [e]
theorem eqvAll_ints : ∀ (l m : List Int), PyData.eqvAll (l.map .int) (m.map .int) = decide (l = m)
  | [], [] => by simp [PyData.eqvAll]
  | [], _ :: _ => by simp [PyData.eqvAll]
  | _ :: _, [] => by simp [PyData.eqvAll]
  | x :: xs, y :: ys => by
    simp only [List.map_cons, PyData.eqvAll, eqv_int, eqvAll_ints xs ys]
    by_cases h1 : x = y <;> by_cases h2 : xs = ys <;> simp [h1, h2]
theorem eq_ints {a b : Int} {neg : Bool} : eqD neg (.int a) (.int b) h = .ok (.bl (if neg then !decide (a = b) else decide (a = b))) h := by
  simp only [eqD, py, eqv_int]
theorem eq_tI {l m : List Int} {neg : Bool} : eqD neg (tI l) (tI m) h = .ok (.bl (if neg then !decide (l = m) else decide (l = m))) h := by
  simp only [eqD, py_tI, PyData.eqv, eqvAll_ints]
theorem any_int (x : Int) : ∀ l : List Int, ((l.map PyData.int).any fun z => PyData.eqv z (.int x)) = decide (x ∈ l)
  | [] => by simp
  | y :: ys => by
    simp only [List.map_cons, List.any_cons, eqv_int, any_int x ys]
    by_cases h1 : y = x <;> by_cases h2 : x ∈ ys <;> simp [h1, h2, eq_comm]
    · intro e; exact absurd e.symm h1
theorem in_tI {x : Int} {l : List Int} {neg : Bool} : inD neg (.int x) (tI l) h = .ok (.bl (if neg then !decide (x ∈ l) else decide (x ∈ l))) h := by
  simp only [inD, py_int, py_tI, any_int]
theorem in_lI {x : Int} {l : List Int} {neg : Bool} : inD neg (.int x) (lI l) h = .ok (.bl (if neg then !decide (x ∈ l) else decide (x ∈ l))) h := by
  simp only [inD, py_int, py_lI, any_int]
theorem all_bls {bs : List Bool} : allD' [.lst (bs.map .bl)] h = .ok (.bl (bs.all id)) h := by
  simp only [anyD, lstOf, blsD_map]
theorem cut_from {xs : List D} (n : Nat) : cutD xs (some (n : Int)) none = xs.drop n := by
  unfold cutD
  rw [HT.sIx_nat, HT.sIx_none]
  by_cases e : n ≤ xs.length
  · rw [Nat.min_eq_left e, List.take_of_length_le (by simp)]
  · rw [Nat.min_eq_right (by omega), List.drop_length, List.drop_eq_nil_of_le (by omega)]
    simp
end
theorem lc_emb {α : Type} {g : SG} {tt : SB} {el : SV} {ρ : Ev} {h : Bs} (E : α → D) (p : α → Bool) (F : α → D) : ∀ (l : List α), (∀ a ∈ l, ∃ ρ1, g (E a) ρ h = .ok ρ1 h ∧ tt ρ1 h = .ok (p a) h ∧ (p a = true → el ρ1 h = .ok (F a) h)) → lcS g tt el ρ (l.map E) h = .ok ((l.filter p).map F) h
  | [], _ => rfl
  | d :: ds, H => by
    obtain ⟨ρ1, e1, e2, e3⟩ := H d List.mem_cons_self
    have ih := lc_emb E p F ds fun x hx => H x (List.mem_cons_of_mem _ hx)
    simp -implicitDefEqProofs only [List.map_cons, lcS, e1, e2]
    cases q : p d with
    | true => simp -implicitDefEqProofs only [e3 q, ih]; simp [q]
    | false => simp -implicitDefEqProofs only [ih]; simp [q]
theorem lc_emb1 {α : Type} {g : SG} {el : SV} {ρ : Ev} {h : Bs} (E : α → D) (F : α → D) (l : List α) (H : ∀ a ∈ l, ∃ ρ1, g (E a) ρ h = .ok ρ1 h ∧ el ρ1 h = .ok (F a) h) : lcS g (fun _ h => .ok true h) el ρ (l.map E) h = .ok (l.map F) h := by
  have e := lc_emb (tt := fun _ h => .ok true h) E (fun _ => true) F l fun a ha => by
    obtain ⟨ρ1, e1, e2⟩ := H a ha
    exact ⟨ρ1, e1, rfl, fun _ => e2⟩
  rw [e, List.filter_eq_self.mpr fun _ _ => rfl]
theorem lc_ok {own : List Nat} {it : SI} {g : SG} {tt : SB} {el : SV} {ρ : Ev} {h : Bs} {xs ys : List D} (e1 : it ρ h = .ok (xs, none) h) (e2 : lcS g tt el (wipeE ρ own) xs h = .ok ys h) (hl : ys.length ≤ sizeLine) : sLc false own it g tt el ρ h = .ok (.lst ys) h := by
  simp -implicitDefEqProofs only [sLc, e1, bind_ok, lockO_none, e2, unlR_ok, unlO_none, newL_f hl]
theorem loop_step {g : SG} {body : SS} {d : D} {ds : List D} {ρ ρ1 ρ2 : Ev} {h h1 h2 : Bs} (e1 : g d ρ h = .ok ρ1 h1) (e2 : body ρ1 h1 = .nx ρ2 h2) : loopS g body (d :: ds) ρ h = loopS g body ds ρ2 h2 := by
  simp -implicitDefEqProofs only [loopS, e1, e2]
theorem cons_nx {s t : SS} {ρ ρ1 : Ev} {h h1 : Bs} (e : s ρ h = .nx ρ1 h1) : ssCons s t ρ h = t ρ1 h1 := by
  simp -implicitDefEqProofs only [ssCons, e, Fbind_nx]
theorem asg_ok {s : SV} {g : SG} {ρ ρ1 : Ev} {h h1 h2 : Bs} {d : D} (e : s ρ h = .ok d h1) (e2 : g d ρ h1 = .ok ρ1 h2) : ssAsg s g ρ h = .nx ρ1 h2 := by
  simp -implicitDefEqProofs only [ssAsg, e, toF_ok, e2, toF'_ok]
theorem expr_ok {s : SV} {ρ : Ev} {h h1 : Bs} {d : D} (e : s ρ h = .ok d h1) : ssExpr s ρ h = .nx ρ h1 := by
  simp -implicitDefEqProofs only [ssExpr, e, toF_ok]
theorem if_f {s : SV} {t u : SS} {ρ : Ev} {h h1 : Bs} (e : s ρ h = .ok (.bl false) h1) : ssIf s t u ρ h = u ρ h1 := by
  simp -implicitDefEqProofs only [ssIf, sTru, e, bind_ok, truth, toF_ok, Bool.false_eq_true, if_false]
theorem if_t {s : SV} {t u : SS} {ρ : Ev} {h h1 : Bs} (e : s ρ h = .ok (.bl true) h1) : ssIf s t u ρ h = t ρ h1 := by
  simp -implicitDefEqProofs only [ssIf, sTru, e, bind_ok, truth, toF_ok, if_true]
theorem op_ok {f : D → D → Bs → R D} {sa sb : SV} {ρ : Ev} {h h1 h2 : Bs} {x y : D} {r : R D} (e1 : sa ρ h = .ok x h1) (e2 : sb ρ h1 = .ok y h2) (e3 : f x y h2 = r) : sOp f sa sb ρ h = r := by
  simp -implicitDefEqProofs only [sOp, e1, e2, bind_ok, e3]
theorem un_ok {f : D → Bs → R D} {sa : SV} {ρ : Ev} {h h1 : Bs} {x : D} {r : R D} (e1 : sa ρ h = .ok x h1) (e3 : f x h1 = r) : sUn f sa ρ h = r := by
  simp -implicitDefEqProofs only [sUn, e1, bind_ok, e3]
theorem call_ok {f : List D → Bs → R D} {sa : SA} {ρ : Ev} {h h1 : Bs} {xs : List D} {r : R D} (e1 : sa ρ h = .ok xs h1) (e3 : f xs h1 = r) : sCall f sa ρ h = r := by
  simp -implicitDefEqProofs only [sCall, e1, bind_ok, e3]
theorem cons_ok {sa : SV} {sr : SA} {ρ : Ev} {h h1 h2 : Bs} {x : D} {xs : List D} (e1 : sa ρ h = .ok x h1) (e2 : sr ρ h1 = .ok xs h2) : saCons sa sr ρ h = .ok (x :: xs) h2 := by
  simp -implicitDefEqProofs only [saCons, e1, e2, bind_ok]
theorem var_ok {ρ : Ev} {h : Bs} {i : Nat} {d : D} (e : ρ[i]? = some (some d)) : sVar i ρ h = .ok d h := by
  simp -implicitDefEqProofs only [sVar, e]
theorem tup_ok {sa : SA} {ρ : Ev} {h h1 : Bs} {xs : List D} (e1 : sa ρ h = .ok xs h1) (hl : xs.length ≤ sizeLine) : sTup sa ρ h = .ok (.tup xs) h1 := by
  simp -implicitDefEqProofs only [sTup, e1, bind_ok, newT_f hl]
theorem bm_ok {f : D → List D → Bs → R D} {so : SV} {sa : SA} {ρ : Ev} {h h1 h2 : Bs} {o : D} {xs : List D} {r : R D} (e1 : so ρ h = .ok o h1) (e2 : (lstOf h1 o).isSome = true) (e3 : sa ρ h1 = .ok xs h2) (e4 : f o xs h2 = r) : sBm f so sa ρ h = r := by
  simp -implicitDefEqProofs only [sBm, e1, bind_ok, e2, if_true, e3, e4]
theorem ret_ok {s : SV} {t : SS} {ρ : Ev} {h h1 : Bs} {d : D} (e : s ρ h = .ok d h1) : ssCons (ssRet s) t ρ h = .rt d h1 := by
  simp -implicitDefEqProofs only [ssCons, ssRet, e, toF_ok, Fbind_rt]
theorem for_ok {it : SI} {g : SG} {b : SS} {ρ ρ1 : Ev} {h h1 h2 : Bs} {xs : List D} (e1 : it ρ h = .ok (xs, none) h1) (e2 : loopS g b xs ρ h1 = .nx ρ1 h2) : ssFor it g b ρ h = .nx ρ1 h2 := by
  simp -implicitDefEqProofs only [ssFor, e1, toF_ok, lockO_none, e2, unlF_nx, unlO_none]
theorem seq_ok {s : SV} {ρ : Ev} {h h1 : Bs} {d : D} {r : R Iu} (e : s ρ h = .ok d h1) (e2 : itSeq d h1 = r) : siSeq s ρ h = r := by
  simp -implicitDefEqProofs only [siSeq, e, bind_ok, e2]
theorem arg_ok {f : List D → Bs → R Iu} {sa : SA} {ρ : Ev} {h h1 : Bs} {xs : List D} {r : R Iu} (e : sa ρ h = .ok xs h1) (e2 : f xs h1 = r) : siArg f sa ρ h = r := by
  simp -implicitDefEqProofs only [siArg, e, bind_ok, e2]
theorem two_le {a b : D} : [a, b].length ≤ sizeLine := by show 2 ≤ sizeLine; decide
structure SetN (n : Nat) (l : List Int) : Prop where
  up : l.Pairwise (· < ·)
  lo : ∀ x ∈ l, 0 ≤ x ∧ x < n
def OrdN (n : Nat) (p : List Int) : Prop := p.Perm ((List.range n).map fun (i : Nat) => (i : Int))
theorem OrdN.len {n : Nat} {p : List Int} (h : OrdN n p) : p.length = n := by have := h.length_eq; simpa using this
theorem rng_nodup (n : Nat) : ((List.range n).map fun (i : Nat) => (i : Int)).Nodup := by
  rw [List.nodup_iff_pairwise_ne, List.pairwise_map]
  exact List.nodup_iff_pairwise_ne.mp List.nodup_range |>.imp fun {a b} e q => e (by omega)
theorem OrdN.nodup {n : Nat} {p : List Int} (h : OrdN n p) : p.Nodup := h.symm.nodup (rng_nodup n)
theorem OrdN.mem {n : Nat} {p : List Int} (h : OrdN n p) {x : Int} : x ∈ p ↔ 0 ≤ x ∧ x < n := by
  rw [h.mem_iff, List.mem_map]
  constructor
  · rintro ⟨a, ha, rfl⟩
    have := List.mem_range.mp ha
    omega
  · intro e
    exact ⟨x.toNat, List.mem_range.mpr (by omega), by omega⟩
namespace Std
section
variable {b : Nat} {ns : List Int} {c : Int} {h : Bs}
def set : SS := (ssCons (ssAsg (sSl false (sCall fOrder (saCons (sVar 0) (saCons (sVar 1) saNil))) soNone (soSome (sOp (addD false) (sVar 2) (sCall fTake (saCons (sVar 0) (saCons (sOp (addD false) (sOp subD (sVar 1) (sVar 2)) (sK (.int 1))) saNil)))))) (sgName 3))
  (ssCons (ssRet (sCall tupleD (saCons (sCall (sortedD false) (saCons (sVar 3) saNil)) saNil)))
  ssNil))
end
end Std
end VI
end
section
namespace VI
open PySem PySem.Spec PyProof.Rows L2
section
variable {Z : Cfg} {t : Tx} {k : Nat} {N : List Str} {sc : Scope} {raw : Option Scope} {X : Cx} {W : WX} {pos p : Pos} {a b e : Expr} {sa sb s : SV} {x : Str}
theorem ble_tr {j k : Nat} (c : Nat) (hk : k ≤ j) (e : Nat.ble c k = true := by rfl) : Nat.ble c j = true := Nat.ble_eq_true_of_le (Nat.le_trans (Nat.le_of_ble_eq_true e) hk)
theorem pss_never {T : Tb} {ss : List Stmt} : PSs X ss (tS' T W fun _ _ => .no) := ⟨fun _ _ _ _ _ _ ⟨_, _, _, _, _, o⟩ => o.elim⟩
structure IF (op : Operator) (f : D → D → Bs → R D) : Prop where
  cf : ∀ d e h, Calm (f d e h)
  run : ∀ {X : Cx} {T : Tb}, OpR X (inplaceOp op) (rD2 T f)
abbrev iaddD := intD2 (fun _ _ => true) (· + ·)
theorem I_add : IF .Add iaddD := ⟨fun _ _ _ => intD2_calm, ov_int0 iop_add⟩
theorem s_aug {i : Nat} {op : Operator} {f : D → D → Bs → R D} {pos' : Pos} (I : IF op f) (h : XO Z t k N sc raw X W) (g : locC N sc raw i x = true) (he : PE X e (tV Z.T W s)) : PS X (.AugAssign (.Name x pos') op e pos) (tS' Z.T W (ssAug i f s)) := by
  obtain ⟨g1, g2, g3⟩ := h.loc g
  exact psv_aug I.cf I.run h.nd' g1 g2 g3 he
end
end VI
end
section
namespace VI
open PySem PySem.Spec PyProof.Rows L2
section
variable {X : Cx} {T : Tb} {W : WX} {μ μ' : Mu} {H H' : Hp} {h : Bs} {σ : Sg} {ρ : Ev}
variable {name : Str} {id idT : String} {f g : D → List D → Bs → R D} {ob e : Expr} {es : List Expr} {apos cpos : Pos} {so : SV} {sa : SA}
end
end VI
end
section
namespace VI
open PySem PySem.Spec PyProof.Rows L2
set_option maxHeartbeats 1000000 in
theorem new_enumB {v : Value} {o : Obj} {G : Heap → Prop} (B : Begins v o G) :
    Meets (Builtin.«enumerate.__new__» ⟨[.type "enumerate", v], []⟩) (fun _ R s => G s.heap ∧
      R (.ok (.ret (.ref (s.heap.push o).objs.size))) { s with heap := (s.heap.push o).push { cls := .type "enumerate", data := .fields #[.none, .bool false, .ref s.heap.objs.size, rawInt 0, .none, .none] } }) :=
  .of_wp fun prog w A R s h => by
    obtain ⟨hp, g, d, tk, os⟩ := s
    obtain ⟨g1, h⟩ := h
    have sub := sub_enumerate
    have it : ∀ {A' : Around} {E : Value → Shared → Prop} {Q : Value → Shared → Prop}, Q (.ref hp.objs.size) ⟨hp.push o, g, d, tk, os⟩ → wpAny (model prog w) A' (pyIter v) Q E ⟨hp, g, d, tk, os⟩ :=
      fun q => B.iter prog w _ _ ⟨hp, g, d, tk, os⟩ _ g1 q
    wp_walk using it
    refine wpAny_stack_any fun _ => wpAny_pure ?_
    split
    · rename_i c _ _ _ _ _
      cases (c == Value.type "enumerate") <;> (wp_walk using it; exact ⟨_, rfl, h⟩)
    · wp_walk using it
      exact ⟨_, rfl, h⟩
theorem call_enumB {prog : Program} {w : World} {A : Around} {E : Value → Shared → Prop} {s : Shared} {v : Value} {o : Obj} {G : Heap → Prop} {Q : Value → Shared → Prop} (B : Begins v o G) (g : G s.heap)
    (h : ∀ h', IsEnum h' (s.heap.objs.size + 1) s.heap.objs.size 0 .none → h'.get? s.heap.objs.size = some o → (∀ b u, s.heap.get? b = some u → h'.get? b = some u) → Q (.ref (s.heap.objs.size + 1)) { s with heap := h' }) :
    wpAny (model prog w) A (call (.type "enumerate") [v]) Q E s := by
  refine callType_new F.called_enumerate (by decide) (F.typeCall_enumerate_1 _) (F.newCall_enumerate_1 _) (fun ob => F.args_object_init_2 ob _) F.entry_enumerate_new (new_enumB B) ⟨g, ?_⟩
  have hz : (s.heap.push o).objs.size = s.heap.objs.size + 1 := Heap.size_push ..
  show _ ∧ _
  rw [hz]
  have he : IsEnum ((s.heap.push o).push { cls := .type "enumerate", data := .fields #[.none, .bool false, .ref s.heap.objs.size, rawInt 0, .none, .none] }) (s.heap.objs.size + 1) s.heap.objs.size 0 .none := by
    have z := Heap.get?_push_size (s.heap.push o) (o := { cls := .type "enumerate", data := .fields #[.none, .bool false, .ref s.heap.objs.size, rawInt 0, .none, .none] }) rfl
    rw [hz] at z
    exact z
  exact ⟨⟨_, he, rfl⟩, h _ he (Heap.get?_push_of_some _ (Heap.get?_push_size _ B.free)) fun b u z => Heap.get?_push_of_some _ (Heap.get?_push_of_some _ z)⟩
theorem enumT_end {prog : Program} {w : World} {A : Around} {E : Value → Shared → Prop} {s : Shared} {e it t : Addr} {i : Nat} {its : Array Value} {old : Value} {Q : Option Value → Shared → Prop} (hh : A.handled = none) (he : IsEnum s.heap e it i old) (hit : s.heap.IsTupleIter it t i) (ht : s.heap.IsTuple t its) (hx : its[i]? = none)
    (q : ∀ h', Heap.ExtBut it s.heap h' → Q none { s with heap := h' }) : wpAny (model prog w) A (pyNext (.ref e)) Q E s := by
  have ty : s.TypeIs (.ref e) "enumerate" := ⟨_, he, rfl⟩
  unfold pyNext
  refine wpAny_bind (wpAny_attempt (wpAny_callSpecial?_slot (name := Str.ofString "__next__") ty F.slot_enumerate_next (wpAny_call_entry F.slot_enumerate_next ty F.entry_enumerate_next (wpAny_bind (m := field (.ref e) 2) (wpAny_field he rfl (x := .ref it) rfl (wpAny_bind (wpAny_nextOf_tuple_end hh hit ht hx fun h' x ex ⟨o, ho, hc⟩ => ?_)))) (F.args_enumerate_next_1 _))))
  exact wpAny_bind (wpAny_isInstance (T := "StopIteration") (b := true) ⟨o, ho, hc⟩ isSubtype_stop (wpAny_pure (q _ ex)))
def ItE (K : PySem.W.Frag) (a : Addr) : It :=
  ⟨fun i H => ∃ (xs : List V) (x : V), SqT K H a xs ∧ xs[i]? = some x, fun i H v H' => ∃ t x, v = .ref t ∧ H t = none ∧ H' = upd H t (.tup [.int (i : Nat), x]) ∧ ∀ xs, SqT K H a xs → xs[i]? = some x, fun i H => ∃ xs : List V, SqT K H a xs ∧ xs.length ≤ i⟩
theorem turn_enumT {P : Program} {w : World} {K : PySem.W.Frag} {elts : List Expr} {kk : Nat} {tpos : Pos} (a e it : Addr) :
    Turn P w K (.Tuple elts kk tpos) (ItE K a) [e, it] e (fun i h => (∃ old, IsEnum h e it ((i : Nat) : Int) old) ∧ h.IsTupleIter it a i ∧ e ≠ it ∧ a ≠ it ∧ a ≠ e) where
  mem := List.mem_cons_self
  obj := fun i h ⟨⟨old, he⟩, ⟨o, ho, hc, hd⟩, _⟩ b hb => by
    rcases List.mem_cons.mp hb with z | z
    · rw [z]; exact ⟨_, he, fun v q => nomatch q⟩
    · rw [List.mem_singleton.mp z]; exact ⟨o, ho, fun v q => by rw [hd] at q; cases q⟩
  keep := fun i h h' ⟨⟨old, he⟩, hi, hne⟩ k => ⟨⟨old, k e (by simp) _ he⟩, hi.at fun o q => k it (by simp) o q, hne⟩
  item := by
    intro X hP hw hK hc i pins s σ H E I hf ⟨⟨old, he⟩, hit, hne, ha1, ha2⟩ ⟨xs, x, hq, hx⟩
    subst hP hw hK
    obtain ⟨us, rv, p, hz⟩ := I.tuple hq
    obtain ⟨u, hu, ru⟩ := rv.get hx
    have hel : e < s.heap.objs.size := Heap.lt_size he
    have hil : it < s.heap.objs.size := by obtain ⟨_, q, _⟩ := hit; exact Heap.lt_size q
    have hi : i < us.toArray.size := by
      have := (List.getElem?_eq_some_iff.mp hu).1
      simpa using this
    have Dr := Draws.tuple (prog := X.prog) (w := X.w) (A := X.A.in1) (I.ok.hd hc) it a ha1 us.toArray
    refine wpAny_pyNext_enum_itemD Dr he ⟨hit, p⟩ hi hne (by simp [hne, Ne.symm ha2]) fun y h' tk hy ho hst hT hsz hk => ?_
    have ey : y = u := by
      rw [show us.toArray[i]? = us[i]? by simp, hu] at hy
      exact (Option.some.inj hy).symm
    subst ey
    refine ⟨_, rfl, wpAny_letOwnedTupleGo_enum (s := { s with heap := h', toks := tk + 1 }) ho fun h'' he' sb => ?_⟩
    have hT2 : h''.get? s.heap.objs.size = some { cls := .type "tuple", data := .seq #[.int i tk, y] } := (sb.2 _ (Nat.ne_of_gt hel)).trans hT
    have nw : ObjOk X.prog X.w (upd H s.heap.objs.size (.tup [.int (i : Nat), x])) h'' s.heap.objs.size (.tup [.int (i : Nat), x]) :=
      ⟨by show 2 ≤ sizeLine; decide, [.int i tk, y], .cons ⟨_, rfl⟩ (.cons ru .nil), ⟨_, hT2, rfl, _, rfl⟩⟩
    have I1 : Inv X pins σ (upd H s.heap.objs.size (.tup [.int (i : Nat), x])) { s with heap := h'', toks := tk + 1 } :=
      I.turnedNew (ch := [e, it]) (fun b o2 hb q => (sb.2 b (fun z => hb (by simp [z]))).trans (hk b o2 (fun z => hb (by simp [z])) (fun z => hb (by simp [z])) q)) hf (Nat.le_refl _) nw
    refine ⟨.ref s.heap.objs.size, _, I1, rfl, ⟨_, x, rfl, I.hok.fresh (Nat.le_refl _), rfl, fun ys hy => by rw [I.tuple_inj hy hq]; exact hx⟩, ⟨⟨y, ?_⟩, hst.1.at fun o q => (sb.2 it (Ne.symm hne)).trans q, hne, ha1, ha2⟩, fun b hb => ?_⟩
    · rw [show ((i + 1 : Nat) : Int) = (i : Int) + 1 by omega]; exact he'
    · have hb' : b < s.heap.objs.size := by
        rcases List.mem_cons.mp hb with z | z
        · rw [z]; exact hel
        · rw [List.mem_singleton.mp z]; exact hil
      rw [upd_ne (Nat.ne_of_lt hb')]
      exact (hf b hb).1
  done := by
    intro X hP hw hK hc i pins s σ H E I hf ⟨⟨old, he⟩, hit, hne, ha1, ha2⟩ ⟨xs, hq, hx⟩
    subst hP hw hK
    obtain ⟨us, rv, p, hz⟩ := I.tuple hq
    obtain ⟨f0, f1, f2, f3, f4, f5⟩ := hf it (by simp)
    have hl := rv.length
    exact enumT_end (I.ok.hd hc) he hit p (by simp; omega) fun h' eb => ⟨rfl, I.turned (t' := s.toks) (fun b o hb q => eb b o hb q) f0 f1 f3 f4 f5⟩
  self := fun A i s Q E ⟨⟨_, he⟩, _⟩ h => wpAny_pyIter_enum he h
def iEnumT (K : PySem.W.Frag) (ta : TA) : TI := fun σ H R => ta σ H fun vs H1 => ∃ a xs, vs = [.ref a] ∧ SqT K H1 a xs ∧ R (ItE K a) H1
theorem pi_enumT {X : Cx} {e : Expr} {ta : TA} {p pos tpos : Pos} {elts : List Expr} {kk : Nat} (hg : Gl X "enumerate") (hm : X.mg "enumerate" = none) (ha : PA X [e] ta) (hs : starEach [e] X.env = [(false, eval e X.env)]) :
    PI X (.Tuple elts kk tpos) (.Call (.Name "enumerate" p) [e] [] pos) (iEnumT X.K ta) := by
  refine ⟨fun pins s σ H R I h => Call_ (ld_blt I hg hm boot_enumerate (PyProof.Rows.callWith_type1 (thn (ha.run pos pins s σ H _ I h) fun us s1 ⟨vs, H1, I1, r1, a, xs, ex, hq, q⟩ => ?_) hs rfl))⟩
  subst ex
  cases r1 with
  | cons r rr =>
    cases rr
    cases r
    obtain ⟨ws, rv, pt, hz⟩ := I1.tuple hq
    have hal : a < s1.heap.objs.size := by obtain ⟨_, z, _⟩ := pt; exact Heap.lt_size z
    refine call_enumB (begins_tuple a ws.toArray) pt fun h' he hit hk => wpAny_pyIter_enum he ?_
    have I2 : Inv X pins σ H1 { s1 with heap := h' } := I1.kept (t' := s1.toks) hk
    refine ⟨s1.heap.objs.size + 1, [s1.heap.objs.size + 1, s1.heap.objs.size], _, _, H1, rfl, I2, turn_enumT a (s1.heap.objs.size + 1) s1.heap.objs.size, ⟨⟨.none, he⟩, ⟨_, hit, rfl, rfl⟩, Nat.succ_ne_self _, Nat.ne_of_lt hal, Nat.ne_of_lt (Nat.lt_succ_of_lt hal)⟩, fun b hb => ?_, q⟩
    have hle : s1.heap.objs.size ≤ b := by
      rcases List.mem_cons.mp hb with z | z
      · rw [z]; exact Nat.le_succ _
      · rw [List.mem_singleton.mp z]; exact Nat.le_refl _
    exact I1.fpOk hle (I1.hok.fresh hle)
theorem walk_enumT {K : PySem.W.Frag} {a : Addr} {xs : List V} : Walk (ItE K a) xs.length (fun H => SqT K H a xs) (YPair (fun i => some (.int (i : Nat))) (fun i => xs[i]?)) :=
  ⟨fun i _ hi q => ⟨xs, xs[i], q, by simp [hi]⟩, fun _ q => ⟨xs, q, Nat.le_refl _⟩, fun i H v H' _ q ⟨t, x, e1, e2, e3, e4⟩ => ⟨t, .int (i : Nat), x, e1, e2, e3, rfl, e4 xs q⟩⟩
def itEnum2 (ds : List D) (h : Bs) : R Iu := match ds with
  | [d] => (match itSeq d h with
    | .ok u h' => .ok (enumL 0 u.1, u.2) h'
    | _ => .no)
  | _ => .no
section
variable {X : Cx} {T : Tb} {W : WX}
theorem piv_enum2 {e : Expr} {p pos tpos : Pos} {elts : List Expr} {kk : Nat} {sa : SA} (hK : X.K = T.K) (hg : Gl X "enumerate") (hm : X.mg "enumerate" = none) (hs : PySem.W.isStarred e = false) (ha : PA X [e] (tA' T W sa)) :
    PI X (.Tuple elts kk tpos) (.Call (.Name "enumerate" p) [e] [] pos) (tI' T W (siArg itEnum2 sa)) := by
  refine ⟨fun pins s σ H R I ⟨μ, ρ, h, r, e, o⟩ => ?_⟩
  have L := pi_enum (p := p) (pos := pos) (tpos := tpos) (elts := elts) (kk := kk) hg hm ha (by rw [star_no hs]; rfl)
  have R' := pi_enumT (p := p) (pos := pos) (tpos := tpos) (elts := elts) (kk := kk) hg hm ha (by rw [star_no hs]; rfl)
  unfold siArg at o
  cases q : sa ρ h with
  | no => rw [q] at o; exact o.elim
  | ex x h1 => exact L.run pins s σ H R I ⟨μ, ρ, h, r, e, by rw [q] at o ⊢; exact o⟩
  | ok ds h1 =>
    rw [q] at o
    by_cases ht : ∃ d, ds = [d] ∧ isTupD d = true
    · obtain ⟨d, rfl, ht⟩ := ht
      refine R'.run pins s σ H R I ⟨μ, ρ, h, r, e, ?_⟩
      rw [q]
      intro μ1 H1 vs s1 r1 rv
      have o1 := OutI.step o s1
      obtain ⟨w, rfl, rw'⟩ := rv.is1
      simp only [VI.R.bind, itEnum2] at o1
      split at o1
      · rename_i u h' q2
        obtain ⟨xs, l⟩ := u
        obtain ⟨rfl, nl, a, vs, e1, e4, e5⟩ := seq_stays r1 rw' q2
        rcases e5 with ⟨z, _⟩ | ⟨_, e5, e6⟩
        · rw [z] at ht; cases ht
        · subst e1
          refine ⟨a, vs, rfl, by rw [hK]; exact e5, ?_⟩
          rw [hK]
          refine o1 μ1 H1 _ Stp.refl r1 nl (wk_pair (walk_enumT (K := T.K) (a := a) (xs := vs)) (by rw [enumL_length, e4.length]) e6 fun i v w hi z1 z2 => ?_)
          cases z1
          have hx : xs[i]? = some (xs[i]'(by rw [e4.length]; exact hi)) := List.getElem?_eq_getElem _
          obtain ⟨w', f1, f2⟩ := e4.get hx
          rw [z2] at f1; cases f1
          exact ⟨_, _, by rw [enumL_get 0 xs i _ hx], rep_int (by simp), Rep.ad lockMu_ad lockMu_pr _ _ f2⟩
      · exact o1.elim
    · have E := (piv_enum (T := T) (W := W) (p := p) (pos := pos) (tpos := tpos) (elts := elts) (kk := kk) hK hg hm hs ha).run pins s σ H R I ⟨μ, ρ, h, r, e, ?_⟩
      · exact E
      · unfold siArg
        rw [q]
        simp only [VI.R.bind] at o ⊢
        have ee : itEnum ds h1 = itEnum2 ds h1 ∨ itEnum2 ds h1 = .no := by
          match ds, ht with
          | [], _ => exact .inr rfl
          | [d], ht => exact .inl (by unfold itEnum itEnum2; exact if_neg (fun z => ht ⟨d, rfl, z⟩))
          | _ :: _ :: _, _ => exact .inr rfl
        rcases ee with ee | ee
        · rw [ee]; exact o
        · rw [ee] at o; exact o.elim
end
section
variable {Z : Cfg} {t : Tx} {k : Nat} {N : List Str} {sc : Scope} {raw : Option Scope} {X : Cx} {W : WX} {pos p : Pos} {a : Expr} {sa : SA} {so : SV}
theorem i_enum2 {e : Expr} {tpos : Pos} {elts : List Expr} {kk : Nat} (h : XO Z t k N sc raw X W) (g : (glC sc "enumerate" && t.fr.contains "enumerate" && noStars [e]) = true) (ha : PA X [e] (tA' Z.T W sa)) :
    PI X (.Tuple elts kk tpos) (.Call (.Name "enumerate" p) [e] [] pos) (tI' Z.T W (siArg itEnum2 sa)) := by
  simp only [Bool.and_eq_true, noStars, List.all_cons, List.all_nil, Bool.not_eq_true', Bool.and_true] at g
  exact piv_enum2 h.K (h.gl g.1.1).1 (h.fr g.1.2) g.2 ha
end
end VI
end
section
namespace VI
open PySem PySem.Spec PyProof.Rows L2
def MtG (Z : Cfg) (c : Nat) (m : Str) (k : Nat) (cf : List D → Bs → R D) : Prop := ∃ C f fd ps, Z.T.cls c = some C ∧ Cls Z.T.K C ∧ Meth Z.T.K C m f ∧ FnOk Z.P Z.w Z.T.K Z.mg Z.base (CX Z.P Z.w) k f fd ps (spF Z.T cf) ∧ Binds Z.T.K fd ps [] ∧ PySem.W.fnIn Z.T.K f = true
def MtL (Z : Cfg) (m : Str) (k : Nat) (l : List (Nat × (List D → Bs → R D))) : Prop := ∀ c cf, l.lookup c = some cf → MtG Z c m k cf
theorem MtL.nil {Z : Cfg} {m : Str} {k : Nat} : MtL Z m k [] := fun _ _ e => by cases e
theorem MtL.cons {Z : Cfg} {m : Str} {k j c : Nat} {cf : List D → Bs → R D} {l : List (Nat × (List D → Bs → R D))} (h : MtG Z c m j cf) (hj : Nat.ble j k = true) (r : MtL Z m k l) : MtL Z m k ((c, cf) :: l) := fun c' cf' e => by
  rw [List.lookup_cons] at e
  split at e
  · rename_i q
    cases e
    obtain rfl : c' = c := LawfulBEq.eq_of_beq q
    obtain ⟨C, f, fd, ps, h1, h2, h3, h4, h5, h6⟩ := h
    exact ⟨C, f, fd, ps, h1, h2, h3, h4.mono (Nat.le_of_ble_eq_true hj), h5, h6⟩
  · exact r c' cf' e
section
variable {Z : Cfg} {t : Tx} {k : Nat} {N : List Str} {sc : Scope} {raw : Option Scope} {X : Cx} {W : WX} {pos p : Pos} {a b c : Expr} {sa sb s3 : SV} {x : Str}
end
structure Ct where
  cls : List Str
  att : List Str
  fld : List (Nat × Nat)
  /-- the types that isinstance is asked for -/
  isi : List Nat
  /-- the defs with lambdas, with their qualified names -/
  tab : List (He.Defn × Str)
  /-- exception classes; who is below whom; those that are asked for; their fields -/
  exn : List Str := []
  sub : List (Nat × Nat) := []
  exa : List Nat := []
  efl : List (Nat × Nat) := []
def kitC (c : Ct) (t u : Nat) : Option Bool := if t < 7 ∧ u < 7 then some (t == u || (t == 1 && u == 2)) else if t < 7 + c.cls.length ∧ c.isi.contains u ∧ u < 7 + c.cls.length then some (t == u) else if (1007 ≤ t ∧ t < 1007 + c.exn.length) ∧ (1007 ≤ u ∧ u < 1007 + c.exn.length) ∧ c.exa.contains (u - 1007) then some (c.sub.contains (t - 1007, u - 1007)) else none
def clsC (c : Ct) (i : Nat) : Option Str := if i < 1000 then c.cls[i]? else c.exn[i - 1000]?
def tbC (c : Ct) (K : PySem.W.Frag) : Tb := ⟨K, fun i => (clsC c i).map (He.ga K), fun f => c.att.getD f "", c.att.length, kitC c, fun i => decide (i < c.cls.length), fun i f => c.fld.contains (i, f), fun t => match c.tab[t]? with
  | some p => ((He.cT K p.1).2, p.2 ++ ".<locals>." ++ "<lambda>")
  | none => (0, ""), fun i f => c.efl.contains (i - 1000, f) && decide (1000 ≤ i)⟩
def tyvC (c : Ct) (K : PySem.W.Frag) (t : Nat) : Value := if t < 7 then .type (tyS t) else .ref (He.ga K ((clsC c (t - 7)).getD ""))
def insB (K : PySem.W.Frag) (x : Str) : Bool := He.eqO (PySem.W.findIn K (.ref (He.ga K x)) "__class__") (some (some (.builtin "object.__class__"))) && (He.eqO (PySem.W.specialIn K (.builtin "object.__class__") "__get__") (some (some (.builtin "getset_descriptor.__get__"))) &&
  (decide (PySem.W.takesIn K (.builtin "object.__class__") = some true) && (decide (PySem.W.mroIn K (He.ga K x) (.type "object") = some true) && He.eqO (PySem.W.findIn K (.ref (He.ga K x)) "__ne__") (some (some (.builtin "object.__ne__"))))))
def xcB (K : PySem.W.Frag) (C : Addr) : Bool := (PySem.W.clsIn K C).isSome && (He.eqO (PySem.W.findIn K (.ref C) "__getattribute__") (some (some (.builtin "BaseException.__getattribute__"))) && (He.eqO (PySem.W.findIn K (.ref C) "__getattr__") (some none) && (decide (PySem.W.subIn K (.ref C) (.type "BaseException") = some true) &&
  (PySem.W.hasDictIn K C && (He.eqO (PySem.W.findIn K (.ref C) "__class__") (some (some (.builtin "object.__class__"))) && (He.eqO (PySem.W.specialIn K (.builtin "object.__class__") "__get__") (some (some (.builtin "getset_descriptor.__get__"))) && (decide (PySem.W.takesIn K (.builtin "object.__class__") = some true) &&
  (decide (PySem.W.mroIn K C (.type "object") = some true) && (decide (PySem.W.typeIn K (.ref C) = some (.type "type")) && He.eqO (PySem.W.findIn K (.ref C) "__ne__") (some (some (.builtin "object.__ne__"))))))))))))
theorem xcB_ok {K : PySem.W.Frag} {C : Addr} (h : xcB K C = true) : XcOk K C ∧ PySem.W.findIn K (.ref C) "__ne__" = some (some (.builtin "object.__ne__")) := by
  obtain ⟨h1, h⟩ := He.ba h
  obtain ⟨h2, h⟩ := He.ba h
  obtain ⟨h3, h⟩ := He.ba h
  obtain ⟨h4, h⟩ := He.ba h
  obtain ⟨h5, h⟩ := He.ba h
  obtain ⟨h6, h⟩ := He.ba h
  obtain ⟨h7, h⟩ := He.ba h
  obtain ⟨h8, h⟩ := He.ba h
  obtain ⟨h9, h⟩ := He.ba h
  obtain ⟨h10, h11⟩ := He.ba h
  exact ⟨⟨h1, He.eqO_ok h2, He.eqO_ok h3, of_decide_eq_true h4, h5, He.eqO_ok h6, He.eqO_ok h7, of_decide_eq_true h8, of_decide_eq_true h9, of_decide_eq_true h10⟩, He.eqO_ok h11⟩
def ctX (c : Ct) (K : PySem.W.Frag) : Bool := decide (c.cls.length ≤ 1000) && ((c.exn.all fun x => xcB K (He.ga K x)) && (((List.range c.exn.length).all fun i => c.exa.all fun j => decide (PySem.W.exmOne K (.ref (He.ga K (c.exn.getD i ""))) (.ref (He.ga K (c.exn.getD j ""))) = some (c.sub.contains (i, j))) && decide (PySem.W.kitOne K (.ref (He.ga K (c.exn.getD i ""))) (.ref (He.ga K (c.exn.getD j ""))) = some (c.sub.contains (i, j)))) &&
  c.efl.all fun p => decide (p.1 < c.exn.length) && (decide (p.2 < c.att.length) && (He.Fa.noat (c.exn.getD p.1 "") (c.att.getD p.2 "")).ok K)))
def ctOk (c : Ct) (K : PySem.W.Frag) : Bool := ctX c K && (
  (c.cls.all fun x => (He.Fa.cls x).ok K && insB K x) &&
  ((c.fld.all fun p => decide (p.1 < c.cls.length) && (decide (p.2 < c.att.length) && (He.Fa.noat (c.cls.getD p.1 "") (c.att.getD p.2 "")).ok K)) &&
  ((List.range (7 + c.cls.length)).all fun t => c.isi.all fun u => decide (t < 7 ∧ u < 7) || (decide (¬ u < 7 + c.cls.length) || decide (PySem.W.kitOne K (tyvC c K t) (tyvC c K u) = some (t == u))))))
theorem tbC_ok {c : Ct} {K : PySem.W.Frag} (hn : c.att.Nodup) (he : c.att.contains "" = false) (h : ctOk c K = true) : (tbC c K).Ok := by
  unfold ctOk ctX at h
  simp only [Bool.and_eq_true] at h
  obtain ⟨⟨h0, h4, h5, h6⟩, h1, h2, h3⟩ := h
  have h0 := of_decide_eq_true h0
  rw [List.all_eq_true] at h1 h2 h3 h4 h5 h6
  have gt : ∀ {i : Nat} {C : Addr}, (tbC c K).cls i = some C → (i < 1000 ∧ ∃ x, c.cls[i]? = some x ∧ C = He.ga K x ∧ i < c.cls.length ∧ (clsC c i).getD "" = x ∧ c.cls.getD i "" = x) ∨ (1000 ≤ i ∧ ∃ x, c.exn[i - 1000]? = some x ∧ C = He.ga K x ∧ i - 1000 < c.exn.length ∧ c.exn.getD (i - 1000) "" = x) := by
    intro i C e
    have e' : (clsC c i).map (He.ga K) = some C := e
    unfold clsC at e' ⊢
    split at e'
    · rename_i hi
      cases q : c.cls[i]? with
      | none => rw [q] at e'; cases e'
      | some x =>
        rw [q] at e'; cases e'
        exact .inl ⟨hi, x, rfl, rfl, (List.getElem?_eq_some_iff.mp q).1, by rw [if_pos hi]; rfl, by rw [List.getD_eq_getElem?_getD, q]; rfl⟩
    · rename_i hi
      cases q : c.exn[i - 1000]? with
      | none => rw [q] at e'; cases e'
      | some x =>
        rw [q] at e'; cases e'
        exact .inr ⟨by omega, x, rfl, rfl, (List.getElem?_eq_some_iff.mp q).1, by rw [List.getD_eq_getElem?_getD, q]; rfl⟩
  have tv : ∀ {t : Nat} {v : Value}, t < 7 + c.cls.length → (tbC c K).tyV t v → v = tyvC c K t := by
    intro t v ht hv
    unfold Tb.tyV at hv
    unfold tyvC
    split at hv
    · rename_i z; rw [if_pos z]; exact hv
    · rename_i z
      rw [if_neg z]
      obtain ⟨C, e, rfl⟩ := hv
      rcases gt e with ⟨_, x, _, rfl, _, e4, _⟩ | ⟨z2, _⟩
      · rw [e4]
      · omega
  have xv : ∀ {t : Nat} {v : Value}, 1007 ≤ t → (tbC c K).tyV t v → v = .ref (He.ga K (c.exn.getD (t - 1007) "")) := by
    intro t v ht hv
    unfold Tb.tyV at hv
    rw [if_neg (by omega)] at hv
    obtain ⟨C, e, rfl⟩ := hv
    rcases gt e with ⟨z2, _⟩ | ⟨_, x, _, rfl, _, e4⟩
    · omega
    · rw [show t - 1007 = t - 7 - 1000 by omega, e4]
  refine ⟨fun t u b tv' uv e h4' h5' => ?_, fun i C e hi H a dx fs hH => ?_, fun i C e => ?_, fun f g hf e => ?_, fun i f e => ?_, fun i f C e hC => ?_, fun i C hi e => ?_, fun i u b C E hi hu e hC hE => ?_, fun i f C e hC => ?_⟩
  · have e' : kitC c t u = some b := e
    unfold kitC at e'
    split at e'
    · rename_i hh
      cases e'
      unfold Tb.tyV at h4' h5'
      rw [if_pos hh.1] at h4'
      rw [if_pos hh.2] at h5'
      subst h4' h5'
      exact kit0_ok K t hh.1 u hh.2
    · rename_i hh
      split at e'
      · rename_i hq
        cases e'
        have k := List.all_eq_true.mp (h3 t (List.mem_range.mpr hq.1)) u (by simpa using hq.2.1)
        simp only [Bool.or_eq_true, decide_eq_true_eq] at k
        rcases k with k | k | k
        · exact absurd k hh
        · exact absurd hq.2.2 k
        · rw [tv hq.1 h4', tv hq.2.2 h5']; exact k
      · split at e'
        · rename_i hq
          cases e'
          have k := List.all_eq_true.mp (h5 (t - 1007) (List.mem_range.mpr (by omega))) (u - 1007) (by simpa using hq.2.2)
          rw [Bool.and_eq_true] at k
          rw [xv hq.1.1 h4', xv hq.2.1.1 h5']
          exact of_decide_eq_true k.2
        · cases e'
  · have hi' : i < c.cls.length := of_decide_eq_true (show decide (i < c.cls.length) = true from hi)
    rcases gt e with ⟨_, x, e1, rfl, _⟩ | ⟨z, _⟩
    · have k := h1 x (List.mem_of_getElem? e1)
      simp only [Bool.and_eq_true, insB] at k
      obtain ⟨k1, k2, k3, k4, k5, k6⟩ := k
      exact .ins hH (He.cls_ok k1) (He.eqO_ok k2) (He.eqO_ok k3) (of_decide_eq_true k4) (of_decide_eq_true k5)
    · omega
  · rcases gt e with ⟨_, x, e1, rfl, _⟩ | ⟨_, x, e1, rfl, _⟩
    · have k := h1 x (List.mem_of_getElem? e1)
      simp only [Bool.and_eq_true, insB] at k
      obtain ⟨k1, k2, k3, k4, k5, k6⟩ := k
      exact ⟨of_decide_eq_true k5, He.eqO_ok k6⟩
    · obtain ⟨k1, k2⟩ := xcB_ok (h4 x (List.mem_of_getElem? e1))
      exact ⟨k1.hm, k2⟩
  · have hf' : f < c.att.length := hf
    have e' : c.att.getD g "" = c.att.getD f "" := e
    rw [List.getD_eq_getElem?_getD, List.getD_eq_getElem?_getD, List.getElem?_eq_getElem hf'] at e'
    simp only [Option.getD_some] at e'
    by_cases hg : g < c.att.length
    · rw [List.getElem?_eq_getElem hg] at e'
      exact (List.getElem_inj hn).mp e'
    · rw [List.getElem?_eq_none (by omega)] at e'
      have : c.att.contains "" = true := by
        rw [List.contains_iff_mem]
        simp only [Option.getD_none] at e'
        rw [e']
        exact List.getElem_mem hf'
      rw [he] at this; cases this
  · have e' : c.fld.contains (i, f) = true := e
    have k := h2 (i, f) (by simpa using e')
    simp only [Bool.and_eq_true, decide_eq_true_eq] at k
    exact k.2.1
  · have e' : c.fld.contains (i, f) = true := e
    have k := h2 (i, f) (by simpa using e')
    simp only [Bool.and_eq_true, decide_eq_true_eq] at k
    rcases gt hC with ⟨_, x, e1, rfl, _, _, e4⟩ | ⟨z, _⟩
    · have k1 := h1 x (List.mem_of_getElem? e1)
      simp only [Bool.and_eq_true] at k1
      refine ⟨He.cls_ok k1.1, ?_⟩
      have := He.noat_ok k.2.2
      simp only [e4] at this
      exact this
    · have := k.1
      omega
  · rcases gt e with ⟨z, _⟩ | ⟨_, x, e1, rfl, _⟩
    · omega
    · exact (xcB_ok (h4 x (List.mem_of_getElem? e1))).1
  · have e' : kitC c (7 + i) (7 + u) = some b := e
    unfold kitC at e'
    rw [if_neg (by omega), if_neg (fun z => by omega)] at e'
    split at e'
    · rename_i hq
      cases e'
      rw [show 7 + i - 1007 = i - 1000 by omega, show 7 + u - 1007 = u - 1000 by omega] at *
      have k := List.all_eq_true.mp (h5 (i - 1000) (List.mem_range.mpr (by omega))) (u - 1000) (by simpa using hq.2.2)
      rw [Bool.and_eq_true] at k
      rcases gt hC with ⟨z, _⟩ | ⟨_, x, _, rfl, _, e4⟩
      · omega
      · rcases gt hE with ⟨z, _⟩ | ⟨_, y, _, rfl, _, e5⟩
        · omega
        · have k1 := of_decide_eq_true k.1
          rw [e4, e5] at k1
          exact k1
    · cases e'
  · have e' : (c.efl.contains (i - 1000, f) && decide (1000 ≤ i)) = true := e
    rw [Bool.and_eq_true] at e'
    have hi := of_decide_eq_true e'.2
    have k := h6 (i - 1000, f) (by simpa using e'.1)
    simp only [Bool.and_eq_true, decide_eq_true_eq] at k
    rcases gt hC with ⟨z, _⟩ | ⟨_, x, _, rfl, _, e4⟩
    · omega
    · refine ⟨k.2.1, ?_⟩
      have := He.noat_ok k.2.2
      simp only [e4] at this
      exact this
def obsC (c : Ct) (fa : List He.Fa) (fn : List He.DefD) (K : PySem.W.Frag) : He.AlD := (((fa.all fun f => f.ok K) && fn.all fun d => d.ok K) && ctOk c K, fn.map fun d => He.fnW K d.at_)
def SaysC (c : Ct) (fa : List He.Fa) (fn : List He.DefD) (K : PySem.W.Frag) : Prop := obsC c fa fn K = He.valD fn
theorem SaysC.ct {c : Ct} {fa : List He.Fa} {fn : List He.DefD} {K : PySem.W.Frag} (h : SaysC c fa fn K) : ctOk c K = true := by
  have e := congrArg (fun z : He.AlD => z.1) h
  exact (He.ba (show (((fa.all fun f => f.ok K) && fn.all fun d => d.ok K) && ctOk c K) = true from e)).2
theorem SaysC.d {c : Ct} {fa : List He.Fa} {fn : List He.DefD} {K : PySem.W.Frag} (h : SaysC c fa fn K) : He.SaysD fa fn K := by
  have e := congrArg (fun z : He.AlD => z.1) h
  have e2 := congrArg (fun z : He.AlD => z.2) h
  have e1 := (He.ba (show (((fa.all fun f => f.ok K) && fn.all fun d => d.ok K) && ctOk c K) = true from e)).1
  unfold He.SaysD He.obsD He.valD
  rw [e1]
  exact congrArg (Prod.mk true) e2
end VI
namespace VI
open PySem PySem.Spec PyProof.Rows L2
section
variable {X : Cx} {T : Tb} {W : WX} {e tg : Expr}
end
end VI
end
section
namespace VI
open PySem PySem.Spec PyProof.Rows L2
section
variable {X : Cx} {T : Tb} {W : WX} {μ μ' : Mu} {H H' : Hp} {h : Bs} {σ : Sg} {ρ : Ev} {D : Addr}
end
section
variable {Z : Cfg} {t : Tx} {k : Nat} {N : List Str} {sc : Scope} {raw : Option Scope} {X : Cx} {W : WX} {pos : Pos}
end
end VI
end
section
namespace VI
open PySem PySem.Spec PyProof.Rows L2
section
variable {prog : Program} {w : World} {A : Around} {E : Value → Shared → Prop} {s : Shared} {z TI TO i1 i2 T : Addr} {fp1 fp2 : List Addr} {n1 n2 i : Nat} {P1 P2 : Nat → Value → Prop} {St1 St2 : Nat → Heap → Prop} {f : Bool} {oT : Obj}
def ZipAt (h : Heap) (z TI TO i1 i2 : Addr) : Prop := (IsZip h z TI TO .none ∧ ∃ a b, IsTupOf2 h TO a b) ∨ ∃ T f oT, IsZipHeld h z TI TO T f ∧ h.get? T = some oT ∧ T ≠ z ∧ T ≠ i1 ∧ T ≠ i2 ∧ ∃ x y, oT = { cls := .type "tuple", data := .seq #[x, y] }
theorem ZipAt.keep {h h' : Heap} {z TI TO L i1 i2 : Addr} {o1 : Obj} {its : Array Value} {m : Nat} (x : ZipAt h z TI TO i1 i2) (hl : h.get? L = some o1) (h1 : o1.cls = .type "list") (k : ∀ b o, b ≠ L → h.get? b = some o → h'.get? b = some o) : ZipAt h' z TI TO i1 i2 := by
  have ne : ∀ {b o}, h.get? b = some o → o.cls ≠ .type "list" → b ≠ L := fun e n q => by subst q; rw [hl] at e; cases e; exact n h1
  rcases x with ⟨z1, a, b, t⟩ | ⟨T, f, oT, z1, t, n1, n2, n3, x, y, rfl⟩
  · exact .inl ⟨k _ _ (ne z1 (fun q => by injection q with q; exact absurd q (by decide))) z1, a, b, k _ _ (ne t (fun q => by injection q with q; exact absurd q (by decide))) t⟩
  · exact .inr ⟨T, f, _, k _ _ (ne z1 (fun q => by injection q with q; exact absurd q (by decide))) z1, k _ _ (ne t (fun q => by injection q with q; exact absurd q (by decide))) t, n1, n2, n3, x, y, rfl⟩
end
structure LZ (H H' : Hp) (L : Addr) (xs ys vs : List V) (n : Nat) : Prop where
  ext : ∀ a o, H a = some o → H' a = some o
  no : H L = none
  at_ : H' L = some (.lst vs)
  len : vs.length = n
  item : ∀ j, j < n → ∃ a x y, vs[j]? = some (.ref a) ∧ H a = none ∧ xs[j]? = some x ∧ ys[j]? = some y ∧ H' a = some (.tup [x, y])
section
variable {X : Cx} {pins : List (Addr × Obj)} {σ : Sg} {z TI TO i1 i2 L : Addr} {fp1 fp2 : List Addr} {us1 us2 : List Value} {St1 St2 : Nat → Heap → Prop} {xs ys : List V} {H0 : Hp} {A : Around} {R : Result → Shared → Prop}
end
section
variable {X : Cx} {T : Tb} {W : WX} {μ μ' : Mu} {H H' : Hp} {h : Bs} {σ : Sg} {ρ : Ev}
theorem Stp.ext (e : ∀ a o, H a = some o → H' a = some o) : Stp μ H μ H' := ⟨rfl, fun _ _ z => z, rfl, fun _ z => z, fun _ z => .inl z, fun a o z _ => e a o z, fun _ z => .inl z⟩
theorem Rel.ext (r : Rel T μ h H) (e : ∀ a o, H a = some o → H' a = some o) : Rel T μ h H' where
  fb := r.fb
  prh := fun a ha => ⟨let ⟨xs, z, nt⟩ := (r.prh a ha).1; ⟨xs, e _ _ z, nt⟩, (r.prh a ha).2⟩
  lks := r.lks
  lkf := r.lkf
  len := r.len
  nd := r.nd
  at_ := fun i b a h1 h2 => by
    have z := r.at_ i b a h1 h2
    cases b with
    | lst lk xs => obtain ⟨vs, z1, z2⟩ := z; exact ⟨vs, e _ _ z1, Reps.step (Stp.ext e) _ _ z2⟩
    | dct lk ks xs =>
      obtain ⟨vs, z1, z2, z3⟩ := z
      refine ⟨vs, ?_, z2, Reps.step (Stp.ext e) _ _ z3⟩
      cases lk with
      | false => have z1 : H a = some (kvO ks vs) := by simpa using z1
                 simpa using e _ _ z1
      | true =>
        obtain ⟨o, z1⟩ : ∃ o, H a = some (.frz o (kvO ks vs)) := by simpa using z1
        simpa using ⟨o, e _ _ z1⟩
    | dfz ks xs => obtain ⟨o, vs, z1, z2, z3⟩ := z; exact ⟨o, vs, e _ _ z1, z2, Reps.step (Stp.ext e) _ _ z3⟩
    | obj c fs xs => obtain ⟨C, dx, vs, z1, z2, z3, z4⟩ := z; exact ⟨C, dx, vs, z1, e _ _ z2, z3, Reps.step (Stp.ext e) _ _ z4⟩
    | tbl t => obtain ⟨a1, ps, z1, z2, z3⟩ := z; exact ⟨a1, ps, e _ _ z1, z2, fun pos cv q => by obtain ⟨c, f1, f2, f3⟩ := z3 pos cv q; exact ⟨c, f1, e _ _ f2, f3⟩⟩
  lo := r.lo
  ord := r.ord
  wf := r.wf
end
section
variable {Z : Cfg} {t : Tx} {k : Nat} {N : List Str} {sc : Scope} {raw : Option Scope} {X : Cx} {W : WX} {pos p p2 pos2 : Pos} {a b : Expr} {sa : SA}
end
end VI
end
section
namespace VI
open PySem PySem.Spec PyProof.Rows L2
mutual
def beqD : D → D → Bool
  | .non, .non => true
  | .bl a, .bl b => a == b
  | .int a, .int b => decide (a = b)
  | .tup a, .tup b => beqDs a b
  | .tpl a, .tpl b => beqDs a b
  | .lst a, .lst b => beqDs a b
  | _, _ => false
def beqDs : List D → List D → Bool
  | [], [] => true
  | x :: xs, y :: ys => beqD x y && beqDs xs ys
  | _, _ => false
end
mutual
theorem beqD_eq : ∀ (d e : D), beqD d e = true → d = e
  | .non, e, h => by cases e <;> simp [beqD] at h ⊢
  | .bl a, e, h => by cases e <;> simp [beqD] at h ⊢; exact h
  | .int a, e, h => by cases e <;> simp [beqD] at h ⊢; exact h
  | .str a, e, h => by cases e <;> simp [beqD] at h
  | .tup a, e, h => by
    cases e <;> simp only [beqD] at h <;> first | (cases h; done) | rw [beqDs_eq _ _ h]
  | .tpl a, e, h => by
    cases e <;> simp only [beqD] at h <;> first | (cases h; done) | rw [beqDs_eq _ _ h]
  | .lst a, e, h => by
    cases e <;> simp only [beqD] at h <;> first | (cases h; done) | rw [beqDs_eq _ _ h]
  | .dct a b, e, h => by cases e <;> simp [beqD] at h
  | .obj a b c, e, h => by cases e <;> simp [beqD] at h
  | .exo a b c, e, h => by cases e <;> simp [beqD] at h
  | .ref a, e, h => by cases e <;> simp [beqD] at h
  | .scr a, e, h => by cases e <;> simp [beqD] at h
theorem beqDs_eq : ∀ (d e : List D), beqDs d e = true → d = e
  | [], [], _ => rfl
  | x :: xs, y :: ys, h => by
    simp only [beqDs, Bool.and_eq_true] at h
    rw [beqD_eq _ _ h.1, beqDs_eq _ _ h.2]
  | [], _ :: _, h => by simp [beqDs] at h
  | _ :: _, [], h => by simp [beqDs] at h
end
abbrev Kd := D × PyData
def leK (p q : Kd) : Bool := !W.dataLt q.2 p.2
theorem leK_trans (p q r : Kd) (h1 : leK p q = true) (h2 : leK q r = true) : leK p r = true := by
  unfold leK W.dataLt at *
  simp only [Bool.not_eq_true'] at *
  cases e : lexLt itemOrd (W.keyToks r.2) (W.keyToks p.2) with
  | false => rfl
  | true =>
    exfalso
    cases e2 : lexLt itemOrd (W.keyToks p.2) (W.keyToks q.2) with
    | true => have := lex_trans _ _ _ e e2; rw [h2] at this; cases this
    | false => rw [lex_total _ _ e2 h1] at e; rw [h2] at e; cases e
theorem leK_total (p q : Kd) : (leK p q || leK q p) = true := by
  unfold leK W.dataLt
  cases e : lexLt itemOrd (W.keyToks q.2) (W.keyToks p.2) with
  | false => rfl
  | true =>
    cases e2 : lexLt itemOrd (W.keyToks p.2) (W.keyToks q.2) with
    | false => rfl
    | true => have := lex_trans _ _ _ e e2; rw [lex_irrefl] at this; cases this
theorem leK_anti {p q : Kd} (h1 : leK p q = true) (h2 : leK q p = true) : W.keyToks p.2 = W.keyToks q.2 := by
  unfold leK W.dataLt at h1 h2
  simp only [Bool.not_eq_true'] at h1 h2
  exact lex_total _ _ h2 h1
def insK (p : Kd) : List Kd → List Kd
  | [] => [p]
  | q :: qs => if W.dataLt q.2 p.2 then q :: insK p qs else p :: q :: qs
def srtK : List Kd → List Kd
  | [] => []
  | p :: ps => insK p (srtK ps)
theorem insK_perm (p : Kd) : ∀ qs, (insK p qs).Perm (p :: qs)
  | [] => .refl _
  | q :: qs => by
    simp only [insK]
    split
    · exact ((insK_perm p qs).cons q).trans (.swap _ _ _)
    · exact .refl _
theorem insK_sorted (p : Kd) : ∀ qs : List Kd, qs.Pairwise (fun a b => leK a b = true) → (insK p qs).Pairwise (fun a b => leK a b = true)
  | [], _ => by simp [insK]
  | q :: qs, h => by
    have h' := List.pairwise_cons.mp h
    simp only [insK]
    split
    · rename_i hq
      refine List.pairwise_cons.mpr ⟨fun a ha => ?_, insK_sorted p qs h'.2⟩
      rcases List.mem_cons.mp ((insK_perm p qs).mem_iff.mp ha) with z | z
      · subst z
        have := leK_total q a
        have e : leK a q = false := by unfold leK; rw [hq]; rfl
        rw [e, Bool.or_false] at this
        exact this
      · exact h'.1 a z
    · rename_i hq
      have e : leK p q = true := by unfold leK; simpa using hq
      refine List.pairwise_cons.mpr ⟨fun a ha => ?_, h⟩
      rcases List.mem_cons.mp ha with z | z
      · rw [z]; exact e
      · exact leK_trans _ _ _ e (h'.1 a z)
theorem srtK_sorted : ∀ ps, (srtK ps).Pairwise (fun a b => leK a b = true)
  | [] => .nil
  | p :: ps => insK_sorted p _ (srtK_sorted ps)
section
variable {prog : Program} {w : World} {A : Around} {E : Value → Shared → Prop} {s : Shared}
end
inductive Pat where
  | i
  | seq (p : Pat)
  | two (p q : Pat)
def fits : Pat → PyData → Bool
  | .i, .int _ => true
  | .seq p, .tuple xs => xs.all (fits p)
  | .two p q, .tuple [x, y] => fits p x && fits q y
  | _, _ => false
theorem fits_all {p : Pat} (ih : ∀ a b, fits p a = true → fits p b = true → W.alike a b = true) : ∀ xs ys : List PyData, xs.all (fits p) = true → ys.all (fits p) = true → W.alikeAll xs ys = true
  | [], _, _, _ => by simp [W.alikeAll]
  | _ :: _, [], _, _ => by simp [W.alikeAll]
  | x :: xs, y :: ys, h1, h2 => by
    simp only [List.all_cons, Bool.and_eq_true] at h1 h2
    simp only [W.alikeAll, ih x y h1.1 h2.1, fits_all ih xs ys h1.2 h2.2, Bool.and_self]
theorem fits_alike : ∀ (p : Pat) (a b : PyData), fits p a = true → fits p b = true → W.alike a b = true
  | .i, a, b, h1, h2 => by
    cases a <;> cases b <;> simp [fits] at h1 h2
    simp [W.alike]
  | .seq p, a, b, h1, h2 => by
    cases a <;> cases b <;> simp only [fits] at h1 h2 <;> first | (cases h1; done) | (cases h2; done) | skip
    simp only [W.alike]
    exact fits_all (fits_alike p) _ _ h1 h2
  | .two p q, a, b, h1, h2 => by
    unfold fits at h1 h2
    split at h1 <;> first | (cases h1; done) | skip
    all_goals (split at h2 <;> first | (cases h2; done) | skip)
    all_goals simp_all
    rename_i e1 e2
    obtain ⟨rfl, rfl⟩ := e1
    obtain ⟨rfl, rfl⟩ := e2
    simp [W.alike, W.alikeAll, fits_alike p _ _ h1.1 h2.1, fits_alike q _ _ h1.2 h2.2]
def isT1 : PyData → Bool
  | .tuple (_ :: _) => true
  | _ => false
def isI1 : PyData → Bool
  | .int _ => true
  | _ => false
def pats : List Pat := [.i, .seq .i, .two (.seq .i) .i, .seq (.two (.seq .i) .i), .two .i (.seq .i), .two .i .i]
def canSort (ps : List PyData) : Bool := (pats.any fun p => ps.all (fits p)) && (ps.all isT1 || ps.all isI1)
theorem canSort_ok {ps : List PyData} (h : canSort ps = true) : W.AllAlike ps ∧ W.Sortable ps := by
  unfold canSort at h
  simp only [Bool.and_eq_true, Bool.or_eq_true] at h
  obtain ⟨h1, h2⟩ := h
  obtain ⟨p, _, hp⟩ := List.any_eq_true.mp h1
  refine ⟨fun d hd e he => fits_alike p d e (List.all_eq_true.mp hp d hd) (List.all_eq_true.mp hp e he), ?_⟩
  rcases h2 with h2 | h2
  · refine .inl fun d hd => ?_
    have := List.all_eq_true.mp h2 d hd
    unfold isT1 at this
    split at this
    · exact ⟨_, _, rfl⟩
    · cases this
  · refine .inr fun d hd => ?_
    have := List.all_eq_true.mp h2 d hd
    unfold isI1 at this
    split at this
    · exact ⟨(fun z => by cases z), (fun _ z => by cases z)⟩
    · cases this
section
variable {X : Cx} {T : Tb} {WW : WX} {μ μ' : Mu} {H H' : Hp} {h : Bs} {σ : Sg} {ρ : Ev} {pins : List (Addr × Obj)} {s : Shared}
abbrev Tr := V × D × PyData
theorem tri_of {n : Nat} (hK : X.K = T.K) (I : Inv X pins σ H s) (r : Rel T μ h H) : ∀ {xs : List D} {vs : List V} {ps : List PyData} {its : List Value}, Reps T μ H xs vs → mapO (py n h) xs = some ps → Vals vs its →
    ∃ bs : List Tr, W.EachIs (fun v b => RelV b.1 v) its bs ∧ W.EachIs (fun v b => ∃ as, Reads s.heap v b.2.2 as) its bs ∧ bs.map (·.2) = xs.zip ps ∧ (bs.map fun b => b.2.2) = ps ∧ ∀ b ∈ bs, Rep T μ H b.2.1 b.1 ∧ b.2.2.depth ≤ n
  | [], vs, ps, its, q, e, rv => by
    simp only [Reps] at q
    subst q
    cases rv
    simp only [mapO] at e
    cases e
    exact ⟨[], .nil, .nil, rfl, rfl, fun _ z => by cases z⟩
  | x :: xs, vs, ps, its, q, e, rv => by
    simp only [Reps] at q
    obtain ⟨v, vr, rfl, q1, q2⟩ := q
    obtain ⟨y, ys, e1, e2, rfl⟩ := mapO_some e
    cases rv with
    | cons r1 rr =>
      rename_i u us
      obtain ⟨bs, g1, g2, g3, g4, g5⟩ := tri_of hK I r q2 e2 rr
      have k := py_ok r n x v y q1 e1
      obtain ⟨as, rd⟩ := Dp.reads I y v u (by rw [hK]; exact k.1) r1
      refine ⟨(v, x, y) :: bs, .cons r1 g1, .cons ⟨as, rd⟩ g2, by simp [g3], by simp [g4], fun b hb => ?_⟩
      rcases List.mem_cons.mp hb with z | z
      · subst z; exact ⟨q1, k.2.1⟩
      · exact g5 b z
end
theorem minD_mem : ∀ (xs : List PyData) (x : PyData), W.minD x xs ∈ x :: xs
  | [], x => List.mem_cons_self
  | y :: ys, x => by
    unfold W.minD
    rw [List.foldl_cons]
    have := minD_mem ys (if W.dataLt y x then y else x)
    unfold W.minD at this
    split
    · rename_i h
      rw [if_pos h] at this
      rcases List.mem_cons.mp this with z | z
      · rw [z]; exact List.mem_cons_of_mem _ List.mem_cons_self
      · exact List.mem_cons_of_mem _ (List.mem_cons_of_mem _ z)
    · rename_i h
      rw [if_neg h] at this
      rcases List.mem_cons.mp this with z | z
      · rw [z]; exact List.mem_cons_self
      · exact List.mem_cons_of_mem _ (List.mem_cons_of_mem _ z)
section
variable {X : Cx} {T : Tb} {μ μ' : Mu} {H H' : Hp} {h : Bs} {σ : Sg} {ρ : Ev}
def minS (ds : List D) (h : Bs) : R D := match ds with
  | [d] => (match lstOf h d with
    | some (x :: xs) => (match mapO (py pyN h) (x :: xs) with
      | some (p :: ps) => if canSort (p :: ps) then (match ((x :: xs).zip (p :: ps)).find? fun z => PyData.eqv z.2 (W.minD p ps) with
        | some z => if ((x :: xs).zip (p :: ps)).all fun y => !PyData.eqv y.2 (W.minD p ps) || beqD y.1 z.1 then .ok z.1 h else .no
        | none => .no) else .no
      | _ => .no)
    | _ => .no)
  | _ => .no
theorem minS_calm {ds : List D} : Calm (minS ds h) := by
  unfold minS
  repeat' split
  all_goals (intro x h' z; cases z)
theorem mapO_get {α β : Type} {f : α → Option β} : ∀ {xs : List α} {ys : List β} {i : Nat} {x : α}, mapO f xs = some ys → xs[i]? = some x → ∃ y, ys[i]? = some y ∧ f x = some y
  | [], _, _, _, _, e => by simp at e
  | x :: xs, ys, 0, z, h, e => by
    obtain ⟨y, r, e1, e2, rfl⟩ := mapO_some h
    simp at e; subst e
    exact ⟨y, rfl, e1⟩
  | x :: xs, ys, i + 1, z, h, e => by
    obtain ⟨y, r, e1, e2, rfl⟩ := mapO_some h
    obtain ⟨w, g1, g2⟩ := mapO_get (i := i) e2 (by simpa using e)
    exact ⟨w, by simpa using g1, g2⟩
theorem cv_minS (hK : X.K = T.K) (hc : X.calm = true) (hu : X.A.units + 65 < cLine) : CallR X (.builtin "min") (rDn T minS) := by
  intro pins s σ H xs us Q I rs ⟨μ, h, ds, r, rd, o⟩
  unfold minS at o
  split at o
  · rename_i d
    obtain ⟨v, rfl, rv⟩ := rd.is1
    obtain ⟨u, rfl, ru⟩ := rs.one
    split at o
    · rename_i x ys hy
      split at o
      · rename_i p ps hp
        split at o
        · rename_i hcs
          split at o
          · rename_i z hz
            split at o
            · rename_i ha
              obtain ⟨a, vs, rfl, e2, e3⟩ := r.lstOf rv hy
              cases ru
              obtain ⟨al, so⟩ := canSort_ok hcs
              obtain ⟨its, rvv, pl, hz2⟩ := I.list (by rw [hK]; exact e2)
              obtain ⟨bs, g1, g2, g3, g4, g5⟩ := tri_of hK I r e3 hp rvv
              obtain ⟨as, ra⟩ := W.each_readsAll (fun b : Tr => b.2.2) g2
              rw [g4] at ra
              have nn : ∀ q ∈ p :: ps, q ≠ .none := fun q hq => by
                rcases so with so | so
                · obtain ⟨x, r, e⟩ := so q hq; rw [e]; exact fun z => by cases z
                · exact (so q hq).1
              have dep : PyData.depthAll (p :: ps) ≤ 12 := by
                have key : ∀ l : List PyData, (∀ q ∈ l, q.depth ≤ 12) → PyData.depthAll l ≤ 12 := by
                  intro l
                  induction l with
                  | nil => intro _; simp [PyData.depthAll]
                  | cons q l ih =>
                    intro hq
                    simp only [PyData.depthAll]
                    have h1 := hq q List.mem_cons_self
                    have h2 := ih fun y hy => hq y (List.mem_cons_of_mem _ hy)
                    omega
                refine key _ fun q hq => ?_
                rw [← g4] at hq
                obtain ⟨b, hb, rfl⟩ := List.mem_map.mp hq
                exact (g5 b hb).2
              refine W.min_list_data (I.ok.hd hc) pl.isList (by simpa using ra) ⟨fun x hx y hy => al x hx y hy, nn⟩ (by omega) fun i w h' tk bs' hi hr kp => ?_
              have hi' : its[i]? = some w := by simpa using hi
              have hlen : i < (x :: ys).length := by rw [e3.length, rvv.length]; exact (List.getElem?_eq_some_iff.mp hi').1
              have hx : (x :: ys)[i]? = some (x :: ys)[i] := List.getElem?_eq_getElem hlen
              obtain ⟨wv, ew, rw'⟩ := e3.get hx
              obtain ⟨w', ew', rel⟩ := rvv.get ew
              rw [hi'] at ew'; cases ew'
              obtain ⟨q, eq, epy⟩ := mapO_get hp hx
              have k := py_ok r _ _ _ _ rw' epy
              obtain ⟨cs, rd2⟩ := Dp.reads I q wv w (by rw [hK]; exact k.1) rel
              have hqm : q ∈ p :: ps := List.mem_of_getElem? eq
              have e0 : q = W.minD p ps := W.alike_unique _ _ _ _ _ (al _ hqm _ (minD_mem ps p)) (PyProof.Rows.Reads.keeps kp rd2) hr
              have hmem : ((x :: ys)[i], q) ∈ (x :: ys).zip (p :: ps) := by
                refine List.mem_of_getElem? (i := i) ?_
                rw [List.getElem?_zip_eq_some]
                exact ⟨hx, eq⟩
              have hb := List.all_eq_true.mp ha _ hmem
              simp only [Bool.or_eq_true, Bool.not_eq_true'] at hb
              have hD : (x :: ys)[i] = z.1 := by
                rcases hb with hb | hb
                · rw [e0, W.eqv_refl_alike _ (al _ (minD_mem ps p) _ (minD_mem ps p))] at hb; cases hb
                · exact beqD_eq _ _ hb
              rw [hD] at rw'
              exact ⟨wv, H, I.kept (t' := tk) kp, rel, o μ H wv Stp.refl r rw'⟩
            · exact o.elim
          · exact o.elim
        · exact o.elim
      · exact o.elim
    · exact o.elim
  · exact o.elim
def cmpS (pi : Int → Int → Bool) (pd : PyData → PyData → Bool) (d e : D) (h : Bs) : R D := match d, e with
  | .int i, .int j => .ok (.bl (pi i j)) h
  | _, _ => (match py pyN h d, py pyN h e with
    | some p, some q => if (pats.any fun t => fits t p && fits t q) then .ok (.bl (pd p q)) h else .no
    | _, _ => .no)
theorem cmpS_calm {pi : Int → Int → Bool} {pd : PyData → PyData → Bool} {d e : D} : Calm (cmpS pi pd d e h) := by
  unfold cmpS
  repeat' split
  all_goals (intro x h' z; cases z)
theorem ov_cmpS {op : CmpOp} {pi : Int → Int → Bool} {pd : PyData → PyData → Bool} (hK : X.K = T.K) (hu : X.A.units + 65 < cLine) (hop : OpR X (compareOp op) (rI0 fun i j => .bl (pi i j)))
    (hd : ∀ (A : Around) (E : Value → Shared → Prop) (s : Shared) (a b : Value) (da db : PyData) (as bs : List Addr) (Q : Value → Shared → Prop), Reads s.heap a da as → Reads s.heap b db bs → W.alike da db = true → da ≠ .none → A.units + min da.depth db.depth < cLine → Q (.bool (pd da db)) s → wpAny (model X.prog X.w) A (compareOp op a b) Q E s) :
    OpR X (compareOp op) (rD2 T (cmpS pi pd)) := by
  intro pins s σ H x y v u Q I rx ry ⟨μ, h, d, e, r, rd, re, o⟩
  unfold cmpS at o
  split at o
  · simp only [Rep] at rd re
    exact hop pins s σ H x y v u Q I rx ry ⟨_, _, rd, re, o μ H _ Stp.refl r (by simp only [Rep])⟩
  · split at o
    · rename_i p q hp hq
      split at o
      · rename_i hf
        obtain ⟨t, _, ht⟩ := List.any_eq_true.mp hf
        simp only [Bool.and_eq_true] at ht
        have k1 := py_ok r _ d x p rd hp
        have k2 := py_ok r _ e y q re hq
        obtain ⟨as, r1⟩ := Dp.reads I p x v (by rw [hK]; exact k1.1) rx
        obtain ⟨bs, r2⟩ := Dp.reads I q y u (by rw [hK]; exact k2.1) ry
        refine hd X.A X.xe s v u p q as bs _ r1 r2 (fits_alike t p q ht.1 ht.2) (fun z => ?_) (by have := k1.2.1; have : p.depth ≤ 12 := this; omega) ⟨.bl (pd p q), H, I, rfl, o μ H _ Stp.refl r (by simp only [Rep])⟩
        rw [z] at ht
        cases t <;> simp [fits] at ht
      · exact o.elim
    · exact o.elim
end
section
variable {Z : Cfg} {t : Tx} {k : Nat} {N : List Str} {sc : Scope} {raw : Option Scope} {X : Cx}
abbrev ltS := cmpS (fun i j => decide (i < j)) W.dataLt
abbrev leS := cmpS (fun i j => decide (i ≤ j)) (fun p q => !W.dataLt q p)
abbrev gtS := cmpS (fun i j => decide (j < i)) (fun p q => W.dataLt q p)
abbrev geS := cmpS (fun i j => decide (j ≤ i)) (fun p q => !W.dataLt p q)
theorem C_ltS : CF .Lt ltS := ⟨fun _ _ _ => cmpS_calm, fun h => ov_cmpS h.K h.units op_lt fun A E s a b da db as bs Q r1 r2 al nn hu q => W.lt_data r1 r2 al nn hu q⟩
theorem C_leS : CF .LtE leS := ⟨fun _ _ _ => cmpS_calm, fun h => ov_cmpS h.K h.units op_le fun A E s a b da db as bs Q r1 r2 al nn hu q => W.le_data r1 r2 al nn hu q⟩
theorem C_gtS : CF .Gt gtS := ⟨fun _ _ _ => cmpS_calm, fun h => ov_cmpS h.K h.units op_gt fun A E s a b da db as bs Q r1 r2 al nn hu q => W.gt_data r1 r2 al nn hu q⟩
def minDS (ds : List D) (h : Bs) : R D := match minD ds h with
  | .no => minS ds h
  | r => r
theorem B_minS : BF "min" "min" minDS := ⟨fun ds h x h' z => by
    unfold minDS at z
    cases q : minD ds h with
    | no => rw [q] at z; exact minS_calm x h' z
    | ok a b => rw [q] at z; cases z
    | ex a b => exact B_min.cf ds h a b q, by decide +kernel, fun {Z t k N sc raw X W} h => by
    intro pins s σ H xs us Q I rs ⟨μ, hh, ds, r, rd, o⟩
    unfold minDS at o
    cases q : minD ds hh with
    | no => rw [q] at o; exact cv_minS h.K h.calm h.units pins s σ H xs us Q I rs ⟨μ, hh, ds, r, rd, o⟩
    | ok a b => rw [q] at o; exact B_min.run h pins s σ H xs us Q I rs ⟨μ, hh, ds, r, rd, by rw [q]; exact o⟩
    | ex a b => exact absurd q (B_min.cf ds hh a b)⟩
end
end VI
end
section
namespace VI
open PySem PySem.Spec PyProof.Rows L2
def ItzM (K : PySem.W.Frag) (a b : Addr) : It :=
  ⟨fun i H => ∃ (xs ys : List V) (x y : V), SqL K H a xs ∧ SqT K H b ys ∧ xs[i]? = some x ∧ ys[i]? = some y,
    fun i H v H' => ∃ T x y, v = .ref T ∧ H T = none ∧ H' = upd H T (.tup [x, y]) ∧ (∀ xs, SqL K H a xs → xs[i]? = some x) ∧ ∀ ys, SqT K H b ys → ys[i]? = some y,
    fun i H => ∃ xs ys : List V, SqL K H a xs ∧ SqT K H b ys ∧ i ≤ xs.length ∧ i ≤ ys.length ∧ (xs.length ≤ i ∨ ys.length ≤ i)⟩
theorem zsep {z TI TO i1 i2 a b : Addr} (D : ZipApart z TI TO i1 i2 a b) : ZipSep2 z TI TO i1 i2 [i1, a] [i2, b] where
  TIz := D.TIz
  TOz := D.TOz
  TITO := D.TITO
  TIi1 := D.TIi1
  mem1 := by simp
  zf1 := by simp [Ne.symm D.i1z, Ne.symm D.l1z]
  Tf1 := by simp [D.TOi1, Ne.symm D.l1TO]
  TIi2 := D.TIi2
  mem2 := by simp
  zf2 := by simp [Ne.symm D.i2z, Ne.symm D.l2z]
  Tf2 := by simp [D.TOi2, Ne.symm D.l2TO]
  sep1_2 := by simp [D.i12, Ne.symm D.l2i1]
  sep2_1 := by simp [Ne.symm D.i12, Ne.symm D.l1i2]
theorem turn_zipM {P : Program} {w : World} {K : PySem.W.Frag} {elts : List Expr} {kk : Nat} {tpos : Pos} {a b z TI TO i1 i2 : Addr} (D : ZipApart z TI TO i1 i2 a b) :
    Turn P w K (.Tuple elts kk tpos) (ItzM K a b) [z, TI, TO, i1, i2] z (fun i h => IsZip h z TI TO .none ∧ IsPair h TI (.ref i1) (.ref i2) ∧ (∃ x y, IsPair h TO x y) ∧ h.IsListIter i1 a i ∧ h.IsTupleIter i2 b i) where
  mem := by simp
  obj := fun i h st c hc => by
    obtain ⟨hz, hTI, ⟨x, y, hTO⟩, ⟨o1, e1, _, d1⟩, ⟨o2, e2, _, d2⟩⟩ := st
    have e' : c = z ∨ c = TI ∨ c = TO ∨ c = i1 ∨ c = i2 := by simpa using hc
    rcases e' with q | q | q | q | q
    · rw [q]; exact ⟨_, hz, fun v q => nomatch q⟩
    · rw [q]; exact ⟨_, hTI, fun v q => nomatch q⟩
    · rw [q]; exact ⟨_, hTO, fun v q => nomatch q⟩
    · rw [q]; exact ⟨o1, e1, fun v q => by rw [d1] at q; cases q⟩
    · rw [q]; exact ⟨o2, e2, fun v q => by rw [d2] at q; cases q⟩
  keep := fun i h h' st k => by
    obtain ⟨hz, hTI, ⟨x, y, hTO⟩, h1, h2⟩ := st
    exact ⟨k z (by simp) _ hz, k TI (by simp) _ hTI, ⟨x, y, k TO (by simp) _ hTO⟩, h1.at fun o q => k i1 (by simp) o q, h2.at fun o q => k i2 (by simp) o q⟩
  item := by
    intro X hP hw hK hc i pins s σ H E I hf st hg
    subst hP hw hK
    obtain ⟨hz, hTI, ⟨x0, y0, hTO⟩, h1, h2⟩ := st
    obtain ⟨xs, ys, x, y, hqx, hqy, hx, hy⟩ := hg
    obtain ⟨its, rv, p, _⟩ := I.list hqx
    obtain ⟨its2, rv2, p2, _⟩ := I.tuple hqy
    obtain ⟨u, hu, ru⟩ := rv.get hx
    obtain ⟨u2, hu2, ru2⟩ := rv2.get hy
    have hzl : z < s.heap.objs.size := Heap.lt_size hz
    have hh := I.ok.hd hc
    have hd1 := Draws.list (prog := X.prog) (w := X.w) (A := X.A.in1) hh i1 a D.l1i1 its.toArray
    have hd2 := Draws.tuple (prog := X.prog) (w := X.w) (A := X.A.in1) hh i2 b D.l2i2 its2.toArray
    refine wpAny_pyNext_zipD2_item (zsep D) hd1 hd2 hz hTI hTO ⟨h1, p.isList⟩ ⟨h2, p2⟩ (by
      have := (List.getElem?_eq_some_iff.mp hu).1
      simpa using this) (by
      have := (List.getElem?_eq_some_iff.mp hu2).1
      simpa using this) fun v1 v2 h' tk y1 y2 z' TO' r1 r2 hT hsz hk => ?_
    obtain ⟨h1', _⟩ := r1
    obtain ⟨h2', _⟩ := r2
    obtain rfl : v1 = u := by simpa [hu] using y1.symm
    obtain rfl : v2 = u2 := by simpa [hu2] using y2.symm
    refine ⟨_, rfl, wpAny_letOwnedTupleGo_zip (s := { s with heap := h', toks := tk }) z' fun h'' z'' sb => ?_⟩
    have hT2 : h''.get? s.heap.objs.size = some { cls := .type "tuple", data := .seq #[v1, v2] } := (sb.2 _ (Nat.ne_of_gt hzl)).trans hT
    have new : ObjOk X.prog X.w (upd H s.heap.objs.size (.tup [x, y])) h'' s.heap.objs.size (.tup [x, y]) :=
      ⟨by show 2 ≤ sizeLine; decide, [v1, v2], .cons ru (.cons ru2 .nil), ⟨_, hT2, rfl, _, rfl⟩⟩
    have I1 : Inv X pins σ (upd H s.heap.objs.size (.tup [x, y])) { s with heap := h'', toks := tk } :=
      I.turnedNew (t' := tk) (ch := [z, TI, TO, i1, i2]) (fun c o hb q => (sb.2 c (fun q' => hb (by simp [q']))).trans (hk c o (fun q' => hb (by simp [q'])) (fun q' => hb (by simp [q'])) (fun q' => hb (by simp [q'])) (fun q' => hb (by simp [q'])) q)) hf (Nat.le_refl _) new
    refine ⟨.ref s.heap.objs.size, _, I1, rfl, ⟨_, x, y, rfl, I.hok.fresh (Nat.le_refl _), rfl, fun l hl => by rw [I.list_inj hl hqx]; exact hx, fun l hl => by rw [I.tuple_inj hl hqy]; exact hy⟩, ⟨z'', ?_, ⟨v1, v2, ?_⟩, ?_, ?_⟩, fun c hcm => ?_⟩
    · exact (sb.2 _ D.TIz).trans (hk _ _ D.TIz D.TITO D.TIi1 D.TIi2 hTI)
    · exact (sb.2 _ D.TOz).trans TO'
    · exact h1'.at fun o q => (sb.2 _ D.i1z).trans q
    · exact h2'.at fun o q => (sb.2 _ D.i2z).trans q
    · have hlt : c < s.heap.objs.size := by
        have e' : c = z ∨ c = TI ∨ c = TO ∨ c = i1 ∨ c = i2 := by simpa using hcm
        rcases e' with q | q | q | q | q
        · rw [q]; exact hzl
        · rw [q]; exact Heap.lt_size hTI
        · rw [q]; exact Heap.lt_size hTO
        · rw [q]; obtain ⟨_, e1, _⟩ := h1; exact Heap.lt_size e1
        · rw [q]; obtain ⟨_, e2, _⟩ := h2; exact Heap.lt_size e2
      rw [upd_ne (Nat.ne_of_lt hlt)]
      exact (hf c hcm).1
  done := by
    intro X hP hw hK hc i pins s σ H E I hf st hg
    subst hP hw hK
    obtain ⟨hz, hTI, ⟨x0, y0, hTO⟩, h1, h2⟩ := st
    obtain ⟨xs, ys, hqx, hqy, b1, b2, hend⟩ := hg
    obtain ⟨its, rv, p, _⟩ := I.list hqx
    obtain ⟨its2, rv2, p2, _⟩ := I.tuple hqy
    have l1 := rv.length
    have l2 := rv2.length
    have hh := I.ok.hd hc
    have hd1 := Draws.list (prog := X.prog) (w := X.w) (A := X.A.in1) hh i1 a D.l1i1 its.toArray
    have hd2 := Draws.tuple (prog := X.prog) (w := X.w) (A := X.A.in1) hh i2 b D.l2i2 its2.toArray
    exact wpAny_pyNext_zipD2_end (zsep D) hd1 hd2 hz hTI hTO ⟨h1, p.isList⟩ ⟨h2, p2⟩ (by simp; omega) (by simp; omega) (by simp; omega) fun h' tk hk => ⟨rfl, I.turnedL (t' := tk) (ch := [z, TI, TO, i1, i2]) (fun c o hb q =>
      hk c o (fun q' => hb (by simp [q'])) (fun q' => hb (by simp [q'])) (fun q' => hb (by simp [q'])) (fun q' => hb (by simp [q'])) q) hf⟩
  self := fun A i s Q E st h => wpAny_pyIter_zip st.1 h
def iZipM (K : PySem.W.Frag) (ta : TA) : TI := fun σ H R => ta σ H fun vs H1 => ∃ a b xs ys, vs = [.ref a, .ref b] ∧ SqL K H1 a xs ∧ SqT K H1 b ys ∧ R (ItzM K a b) H1
theorem pi_zipM {X : Cx} {e e2 : Expr} {ta : TA} {p pos tpos : Pos} {elts : List Expr} {kk : Nat} (hg : Gl X "zip") (hm : X.mg "zip" = none) (ha : PA X [e, e2] ta)
    (hs : starEach [e, e2] X.env = (false, eval e X.env) :: starEach [e2] X.env) (hpl : (backTo pos (starEach [e2] X.env)).any (·.1) = false) :
    PI X (.Tuple elts kk tpos) (.Call (.Name "zip" p) [e, e2] [] pos) (iZipM X.K ta) := by
  refine ⟨fun pins s σ H R I h => ?_⟩
  refine Call_ (ld_blt I hg hm PyProof.Rows.boot_zip (PyProof.Rows.callWith_type1 (thn (ha.run pos pins s σ H _ I h) fun us s1 ⟨vs, H1, I1, r1, q1⟩ => ?_) hs hpl))
  obtain ⟨a, b, xs, ys, ex, hqx, hqy, q⟩ := q1
  subst ex
  cases r1 with
  | cons r rr =>
    cases rr with
    | cons r' rr =>
      cases rr
      cases r
      cases r'
      have fresh5 : ∀ c, c ∈ [s1.heap.objs.size + 4, s1.heap.objs.size + 2, s1.heap.objs.size + 3, s1.heap.objs.size, s1.heap.objs.size + 1] → FpOk X pins H1 c := fun c hcm => by
        have e' : c = s1.heap.objs.size + 4 ∨ c = s1.heap.objs.size + 2 ∨ c = s1.heap.objs.size + 3 ∨ c = s1.heap.objs.size ∨ c = s1.heap.objs.size + 1 := by simpa using hcm
        have hle : s1.heap.objs.size ≤ c := by omega
        exact I1.fpOk hle (I1.hok.fresh hle)
      obtain ⟨its, rv, p1, _⟩ := I1.list hqx
      obtain ⟨its2, rv2, p2, _⟩ := I1.tuple hqy
      obtain ⟨o2, ho2, _⟩ := id p2
      refine zip_begins2 (begins_list a its.toArray) (begins_tuple b its2.toArray) p1.isList p2 fun h' hz hTI hTO g1 g2 hsz hk => wpAny_pyIter_zip hz ?_
      have I2 : Inv X pins σ H1 { s1 with heap := h' } := I1.kept (t' := s1.toks) hk
      exact ⟨s1.heap.objs.size + 4, [s1.heap.objs.size + 4, s1.heap.objs.size + 2, s1.heap.objs.size + 3, s1.heap.objs.size, s1.heap.objs.size + 1], _, _, H1, rfl, I2, turn_zipM (PySem.W.ktu_apart s1.heap.objs.size a b p1.lt (Heap.lt_size ho2)), ⟨hz, hTI, ⟨_, _, hTO⟩, ⟨_, g1, rfl, rfl⟩, ⟨_, g2, rfl, rfl⟩⟩, fresh5, q⟩
theorem walk_zipM {K : PySem.W.Frag} {a b : Addr} {xs ys : List V} {n : Nat} (hn : n = min xs.length ys.length) : Walk (ItzM K a b) n (fun H => SqL K H a xs ∧ SqT K H b ys) (YPair (fun i => xs[i]?) (fun i => ys[i]?)) := by
  subst hn
  refine ⟨fun i _ hi q => ?_, fun _ q => ⟨xs, ys, q.1, q.2, by omega, by omega, by omega⟩, fun i H v H' _ q y => ?_⟩
  · have h1 : i < xs.length := by omega
    have h2 : i < ys.length := by omega
    exact ⟨xs, ys, xs[i], ys[i], q.1, q.2, by simp [h1], by simp [h2]⟩
  · obtain ⟨t, x, z, h1, h2, h3, h4, h5⟩ := y
    exact ⟨t, x, z, h1, h2, h3, h4 xs q.1, h5 ys q.2⟩
def itZipM (ds : List D) (h : Bs) : R Iu := match ds with
  | [d, e] => if !isTupD d && isTupD e then (match itSeq d h, itSeq e h with
    | .ok (xs, none) _, .ok (ys, none) _ => .ok (zipL xs ys, none) h
    | _, _ => .no) else .no
  | _ => .no
section
variable {X : Cx} {T : Tb} {W : WX} {μ μ' : Mu} {H H' : Hp} {h : Bs} {σ : Sg} {ρ : Ev}
theorem piv_zipM {e e2 : Expr} {p pos tpos : Pos} {elts : List Expr} {kk : Nat} {sa : SA} (hK : X.K = T.K) (hg : Gl X "zip") (hm : X.mg "zip" = none) (hs : PySem.W.isStarred e = false) (hs2 : PySem.W.isStarred e2 = false) (ha : PA X [e, e2] (tA' T W sa)) :
    PI X (.Tuple elts kk tpos) (.Call (.Name "zip" p) [e, e2] [] pos) (tI' T W (siArg itZipM sa)) :=
  PI.imp (pi_zipM hg hm ha (star_no hs) (back_no (by simp [noStars, hs2]))) fun σ H Q ⟨μ, ρ, h, r, e, o⟩ => by
    refine ⟨μ, ρ, h, r, e, OutA.mono (OutI.bindA o) ?_⟩
    rintro v H1 ⟨μ1, ds, h1, s1, r1, rv, o1⟩
    unfold itZipM at o1
    split at o1
    · rename_i d d2
      obtain ⟨w, w2, rfl, rw', rw2⟩ := rv.is2
      split at o1
      · rename_i ht
        simp only [Bool.and_eq_true, Bool.not_eq_true'] at ht
        split at o1
        · rename_i xs hx' ys hy' q q2
          obtain ⟨rfl, _, a, vs, e1, e4, e5⟩ := seq_stays r1 rw' q
          obtain ⟨rfl, _, b, ws, f1, f4, f5⟩ := seq_stays r1 rw2 q2
          subst e1 f1
          refine ⟨a, b, vs, ws, rfl, ?_⟩
          rcases e5 with ⟨t1, e5, e6⟩ | ⟨t1, e5, e6⟩
          · rcases f5 with ⟨t2, f5, f6⟩ | ⟨t2, f5, f6⟩
            · rw [t2] at ht; exact absurd ht.2 (by decide)
            · refine ⟨by rw [hK]; exact e5, by rw [hK]; exact f5, ?_⟩
              rw [hK]
              exact o1.nolk r1 (wk_pair (walk_zipM (K := T.K) (a := a) (b := b) rfl) (by rw [zipL_length, e4.length, f4.length]) (fun E μ' H' hE s => ⟨e6 E μ' H' hE s, f6 E μ' H' hE s⟩) (zip_items e4 f4))
          · rw [t1] at ht; exact absurd ht.1 (by decide)
        · exact o1.elim
      · exact o1.elim
    · exact o1.elim
def itZipX (ds : List D) (h : Bs) : R Iu := match itZip ds h with
  | .no => itZipM ds h
  | r => r
theorem piv_zipX {e e2 : Expr} {p pos tpos : Pos} {elts : List Expr} {kk : Nat} {sa : SA} (hK : X.K = T.K) (hg : Gl X "zip") (hm : X.mg "zip" = none) (hs : PySem.W.isStarred e = false) (hs2 : PySem.W.isStarred e2 = false) (ha : PA X [e, e2] (tA' T W sa)) :
    PI X (.Tuple elts kk tpos) (.Call (.Name "zip" p) [e, e2] [] pos) (tI' T W (siArg itZipX sa)) := by
  refine ⟨fun pins s σ H Q I ⟨μ, ρ, h, r, e, o⟩ => ?_⟩
  have h1 := piv_zip (elts := elts) (kk := kk) (tpos := tpos) (p := p) (pos := pos) hK hg hm hs hs2 ha
  have h2 := piv_zipM (elts := elts) (kk := kk) (tpos := tpos) (p := p) (pos := pos) hK hg hm hs hs2 ha
  cases q : sa ρ h with
  | no => exact h1.run pins s σ H Q I ⟨μ, ρ, h, r, e, by unfold siArg at o ⊢; rw [q] at o ⊢; exact o⟩
  | ex x h' => exact h1.run pins s σ H Q I ⟨μ, ρ, h, r, e, by unfold siArg at o ⊢; rw [q] at o ⊢; exact o⟩
  | ok ds h' =>
    cases q2 : itZip ds h' with
    | no => exact h2.run pins s σ H Q I ⟨μ, ρ, h, r, e, by
        unfold siArg at o ⊢
        rw [q] at o ⊢
        have o' : OutI T W σ μ H Q (itZipX ds h') := o
        unfold itZipX at o'
        rw [q2] at o'
        exact o'⟩
    | ex x h3 => exact h1.run pins s σ H Q I ⟨μ, ρ, h, r, e, by
        unfold siArg at o ⊢
        rw [q] at o ⊢
        have o' : OutI T W σ μ H Q (itZipX ds h') := o
        unfold itZipX at o'
        rw [q2] at o'
        show OutI T W σ μ H Q (itZip ds h')
        rw [q2]
        exact o'⟩
    | ok x h3 => exact h1.run pins s σ H Q I ⟨μ, ρ, h, r, e, by
        unfold siArg at o ⊢
        rw [q] at o ⊢
        have o' : OutI T W σ μ H Q (itZipX ds h') := o
        unfold itZipX at o'
        rw [q2] at o'
        show OutI T W σ μ H Q (itZip ds h')
        rw [q2]
        exact o'⟩
end
section
variable {Z : Cfg} {t : Tx} {k : Nat} {N : List Str} {sc : Scope} {raw : Option Scope} {X : Cx} {W : WX} {pos p : Pos} {a b : Expr}
theorem i_zipX {tpos : Pos} {elts : List Expr} {kk : Nat} {s : SA} (h : XO Z t k N sc raw X W) (g : (glC sc "zip" && t.fr.contains "zip" && noStars [a, b]) = true) (ha : PA X [a, b] (tA' Z.T W s)) : PI X (.Tuple elts kk tpos) (.Call (.Name "zip" p) [a, b] [] pos) (tI' Z.T W (siArg itZipX s)) := by
  simp only [Bool.and_eq_true, noStars, List.all_cons, List.all_nil, Bool.not_eq_true', Bool.and_true] at g
  exact piv_zipX h.K (h.gl g.1.1).1 (h.fr g.1.2) g.2.1 g.2.2 ha
end
end VI
end
section
namespace VI
open PySem PySem.Spec PyProof.Rows L2
abbrev MTab := List (Nat × (List D → Bs → R D))
section
variable {X : Cx} {T : Tb} {W : WX} {μ μ' : Mu} {H H' : Hp} {h : Bs} {σ : Sg}
def MtX (X : Cx) (T : Tb) (m : Str) (k : Nat) (l : MTab) : Prop := ∀ c cf, l.lookup c = some cf → ∃ C f fd ps, T.cls c = some C ∧ Meth X.K C m f ∧ FnOk X.prog X.w X.K X.mg X.base (CX X.prog X.w) k f fd ps (spF T cf) ∧ Binds X.K fd ps [] ∧ PySem.W.fnIn X.K f = true
def eqO (l : MTab) (d e : D) (h : Bs) : R D := match insOf h d with
  | some (c, _, _) => (match insOf h e with
    | some (c', _, _) => if c = c' then (match l.lookup c with
      | some cf => (match cf [d, e] h with
        | .ok (.bl b) h' => .ok (.bl b) h'
        | _ => .no)
      | none => .no) else .no
    | none => .no)
  | none => eqD false d e h
end
section
variable {Z : Cfg} {t : Tx} {k j : Nat} {N : List Str} {sc : Scope} {raw : Option Scope} {X : Cx} {W : WX} {pos p : Pos} {a b c : Expr} {sa sb s3 : SV} {l : MTab}
theorem MtL.x {m : Str} (M : MtL Z m j l) (h : XO Z t k N sc raw X W) : MtX X Z.T m j l := fun c cf z => by
  obtain ⟨C, f, fd, ps, h1, h2, h3, h4, h5, h6⟩ := M c cf z
  exact ⟨C, f, fd, ps, h1, by rw [h.K]; exact h3, by rw [h.prog, h.w, h.K, h.mg, h.base]; exact h4, by rw [h.K]; exact h5, by rw [h.K]; exact h6⟩
end
end VI
end
section
namespace VI
open PySem PySem.Spec PyProof.Rows L2
section
variable {κ : Type} [DecidableEq κ] {α : Type}
def lookK : List κ → List α → κ → Option α
  | j :: js, x :: xs, k => if j = k then some x else lookK js xs k
  | _, _, _ => none
def setK : List κ → List α → κ → α → List α
  | j :: js, x :: xs, k, y => (if j = k then y else x) :: setK js xs k y
  | _, _, _, _ => []
def hasK (ks : List κ) (k : κ) : Bool := ks.any fun j => decide (j = k)
def addK (ks : List κ) (k : κ) : List κ := if hasK ks k then ks else ks ++ [k]
def putV (ks : List κ) (xs : List α) (k : κ) (y : α) : List α := if hasK ks k then setK ks xs k y else xs ++ [y]
theorem any_zip (k : κ) : ∀ (ks : List κ) (vs : List V), ks.length = vs.length → ((ks.zip vs).any fun kv => decide (kv.1 = k)) = hasK ks k
  | [], vs, _ => by simp [hasK]
  | j :: js, [], e => by simp at e
  | j :: js, w :: vs, e => by
    have := any_zip k js vs (by simpa using e)
    simp only [hasK, List.zip_cons_cons, List.any_cons] at this ⊢
    rw [this]
end
section
variable {T : Tb} {μ μ' : Mu} {H H' : Hp} {h : Bs} {κ : Type} [DecidableEq κ]
theorem Reps.setK {x : D} {v : V} (rv : Rep T μ H x v) {k : κ} : ∀ {ks : List κ} {xs : List D} {vs : List V}, Reps T μ H xs vs → Reps T μ H (VI.setK ks xs k x) (VI.setK ks vs k v)
  | [], _, _, _ => by simp only [VI.setK]; exact .nil
  | _ :: _, [], vs, q => by simp only [Reps] at q; subst q; simp only [VI.setK]; exact .nil
  | j :: js, y :: ys, vs, q => by
    simp only [Reps] at q
    obtain ⟨w, r, rfl, q1, q2⟩ := q
    simp only [VI.setK]
    refine .cons ?_ (Reps.setK rv q2)
    split
    · exact rv
    · exact q1
theorem Reps.putV {x : D} {v : V} (rv : Rep T μ H x v) {k : κ} {ks : List κ} {xs : List D} {vs : List V} (q : Reps T μ H xs vs) : Reps T μ H (VI.putV ks xs k x) (VI.putV ks vs k v) := by
  unfold VI.putV
  split
  · exact q.setK rv
  · exact q.append (.one rv)
def keyD : D → Option Key
  | .int i => some (.inl i)
  | .str x => some (.inr x)
  | _ => none
def keyTs : D → Option (List Key)
  | .tup xs => mapO keyD xs
  | _ => none
inductive Ko where
  | k (a : Key) | t (a : List Key)
def koD : Ks → D → Option Ko
  | .k _, d => (keyD d).map .k
  | .t _, d => (keyTs d).map .t
def Ks.look {α : Type} : Ks → List α → Ko → Option α
  | .k l, xs, .k a => lookK l xs a
  | .t l, xs, .t a => lookK l xs a
  | _, _, _ => none
def Ks.add : Ks → Ko → Ks
  | .k l, .k a => .k (addK l a)
  | .t l, .t a => .t (addK l a)
  | ks, _ => ks
def Ks.putV {α : Type} : Ks → List α → Ko → α → List α
  | .k l, xs, .k a, y => VI.putV l xs a y
  | .t l, xs, .t a, y => VI.putV l xs a y
  | _, xs, _, _ => xs
def dctO (h : Bs) : D → Option (Ks × List D)
  | .dct ks xs => some (ks, xs)
  | .ref b => (match h.bs[b]? with
    | some (.dct _ ks xs) => some (ks, xs)
    | some (.dfz ks xs) => some (ks, xs)
    | _ => none)
  | _ => none
theorem Rel.dctO (r : Rel T μ h H) {d : D} {v : V} {ks : Ks} {xs : List D} (q : Rep T μ H d v) (e : dctO h d = some (ks, xs)) : ∃ a vs, v = .ref a ∧ Rd H a (kvO ks vs) ∧ ks.len = vs.length ∧ Reps T μ H xs vs := by
  cases d with
  | dct ks' xs' =>
    simp only [VI.dctO] at e; cases e
    simp only [Rep] at q
    obtain ⟨a, o, vs, e1, e2, _, e3, e4⟩ := q
    exact ⟨a, vs, e1, .inr ⟨o, e2⟩, e3, e4⟩
  | ref b =>
    simp only [VI.dctO] at e
    simp only [Rep] at q
    obtain ⟨a, e1, e2⟩ := q
    split at e
    · rename_i lk ks' xs' hb
      cases e
      obtain ⟨vs, e3, e4, e5⟩ := r.at_ _ _ a hb e1
      refine ⟨a, vs, e2, ?_, e4, e5⟩
      cases lk with
      | false => exact .inl (by simpa using e3)
      | true => exact .inr (by simpa using e3)
    · rename_i ks' xs' hb
      cases e
      obtain ⟨o, vs, e3, e4, e5⟩ := r.at_ _ _ a hb e1
      exact ⟨a, vs, e2, .inr ⟨o, e3⟩, e4, e5⟩
    · cases e
  | _ => simp [VI.dctO] at e
end
def dgetD (d e : D) (h : Bs) : R D := match dctO h d with
  | some (ks, xs) => (match koD ks e with
    | some k => (match ks.look xs k with
      | some x => .ok x h
      | none => .no)
    | none => .no)
  | none => .no
def dinD (neg : Bool) (e d : D) (h : Bs) : R D := match dctO h d with
  | some (ks, xs) => (match koD ks e with
    | some k => .ok (.bl ((ks.look xs k).isSome != neg)) h
    | none => .no)
  | none => .no
section
variable {X : Cx} {T : Tb} {W : WX} {μ μ' : Mu} {H H' : Hp} {h : Bs} {σ : Sg} {ρ : Ev} {a b c : Expr} {sa sb s3 : SV} {pos : Pos}
def dputD (d e v : D) (h : Bs) : R D := match d with
  | .ref b => (match h.bs[b]? with
    | some (.dct false ks xs) => (match koD ks e with
      | some k => if decide (ks.len < sizeLine) && okW h b v then .ok .non { h with bs := h.bs.set b (.dct false (ks.add k) (ks.putV xs k v)) } else .no
      | none => .no)
    | _ => .no)
  | _ => .no
end
end VI
end
section
namespace VI
open PySem PySem.Spec PyProof.Rows L2
section
variable {X : Cx} {T : Tb} {W : WX} {μ μ' : Mu} {H H' : Hp} {h : Bs} {σ : Sg} {ρ : Ev} {a b c : Expr} {sa sb s3 : SV} {pos : Pos} {p : Addr}
end
end VI
end
section
namespace VI
open PySem PySem.Spec PyProof.Rows L2
section
variable {X : Cx} {pos : Pos}
end
section
variable {X : Cx} {T : Tb} {W : WX} {μ μ' : Mu} {H H' : Hp} {h : Bs} {σ : Sg} {ρ : Ev} {sk sv : SV} {pos : Pos}
theorem tV.mono {s : SV} {Q Q' : VK} (t : tV T W s σ H Q) (i : ∀ v H, Q v H → Q' v H) : tV T W s σ H Q' := by
  obtain ⟨μ, ρ, h, r, e, o⟩ := t
  exact ⟨μ, ρ, h, r, e, o.mono i⟩
end
end VI
end
section
namespace VI
open PySem PySem.Spec PyProof.Rows L2
section
variable {X : Cx}
end
end VI
end
section
namespace VI
open PySem PySem.Spec PyProof.Rows L2
section
variable {X : Cx} {T : Tb} {W : WX} {μ μ' : Mu} {H H' : Hp} {h : Bs} {σ : Sg} {ρ : Ev} {tg : Expr} {p : Addr} {o : HO}
end
end VI
end
section
namespace VI
open PySem PySem.Spec PyProof.Rows L2
def KeyN (H : Hp) : Ks → Nat → V → Prop
  | .k l, i, x => ∃ k, l[i]? = some k ∧ x = kV k
  | .t l, i, x => ∃ k q, l[i]? = some k ∧ x = .ref q ∧ H q = some (.tup (k.map kV))
section
variable {X : Cx} {pins : List (Addr × Obj)} {σ : Sg} {H : Hp} {s : Shared} {d : Addr} {o : Obj} {ks : Ks} {vs : List V}
structure Ent (H : Hp) (ks : Ks) (vs : List V) (es : Array DictEntry) : Prop where
  size : es.size = vs.length
  at_ : ∀ (i : Nat) (v : V), vs[i]? = some v → ∃ (en : DictEntry) (x : V), es[i]? = some en ∧ KeyN H ks i x ∧ RelV x en.key ∧ RelV v en.val
end
section
variable {P : Program} {w : World} {K : PySem.W.Frag} {tg : Expr} {d : Addr} {o : Obj} {es : Array DictEntry} {ep : Nat} {ks : Ks} {vs : List V}
end
section
variable {X : Cx} {tg e : Expr} {td : TE} {apos cpos : Pos}
end
end VI
end
section
namespace VI
open PySem PySem.Spec PyProof.Rows L2
def keyV : Key → D
  | .inl i => .int i
  | .inr x => .str x
def keyDL : Ks → List D
  | .k l => l.map keyV
  | .t l => l.map fun k => .tup (k.map keyV)
def dwalk (h : Bs) : D → Option (Ks × List D)
  | .dct ks xs => some (ks, xs)
  | .ref b => (match h.bs[b]? with
    | some (.dct true ks xs) => some (ks, xs)
    | _ => none)
  | _ => none
section
variable {X : Cx} {T : Tb} {W : WX} {μ μ' : Mu} {H H' : Hp} {h : Bs} {σ : Sg} {ρ : Ev} {tg e : Expr} {s : SV}
def itDk (f : Ks → List D → List D) (d : D) (h : Bs) : R Iu := match dwalk h d with
  | some (ks, xs) => .ok (f ks xs, none) h
  | none => .no
abbrev fK : Ks → List D → List D := fun ks _ => keyDL ks
theorem Rel.swap (r : Rel T μ h H) {b : Nat} {x y : Bx} (hb : h.bs[b]? = some x) (im : ∀ a, RepB T μ H x a → RepB T μ H y a) (wb : ∀ k, belB k x → belB k y) (e : μ'.ad = μ.ad) (ep : μ'.pr = μ.pr) (ef : μ'.fb = μ.fb)
    (hl : ∀ a ∈ μ'.lk, ∃ (c : Nat) (z : Bx), μ'.ad[c]? = some a ∧ (h.bs.set b y)[c]? = some z ∧ lkd z = true) (hf : ∀ (c : Nat) (z : Bx) (a : Addr), (h.bs.set b y)[c]? = some z → lkd z = true → μ'.ad[c]? = some a → a ∈ μ'.lk) : Rel T μ' { h with bs := h.bs.set b y } H := by
  have hlt : b < h.bs.length := (List.getElem?_eq_some_iff.mp hb).1
  refine ⟨r.fb.trans ef.symm, fun a ha => by rw [ep] at ha; rw [e]; exact r.prh a ha, hl, hf, by rw [e]; simp [r.len], by rw [e]; exact r.nd, fun i b' a e1 e2 => ?_, fun k hk => by simpa using r.lo k hk, r.ord, fun k hk i b' hi e1 => ?_⟩
  · have e1 : (h.bs.set b y)[i]? = some b' := e1
    rw [e] at e2
    by_cases hi : b = i
    · subst hi
      rw [List.getElem?_set_self hlt] at e1
      cases e1
      exact (im a (r.at_ b _ a hb e2)).ad e ep
    · rw [List.getElem?_set_ne hi] at e1
      exact (r.at_ i b' a e1 e2).ad e ep
  · have e1 : (h.bs.set b y)[i]? = some b' := e1
    by_cases hi' : b = i
    · subst hi'
      rw [List.getElem?_set_self hlt] at e1
      cases e1
      exact wb k (r.wf k hk b _ hi hb)
    · rw [List.getElem?_set_ne hi'] at e1
      exact r.wf k hk i b' hi e1
theorem PS.or {st : Stmt} {t t' : TS} (h : PS X st t) (h' : PS X st t') : PS X st (fun D σ H => t D σ H ∨ t' D σ H) := ⟨fun pins s σ H D I w => by
  rcases w with w | w
  · exact h.run pins s σ H D I w
  · exact h'.run pins s σ H D I w⟩
theorem PE.or {e : Expr} {t t' : TE} (h : PE X e t) (h' : PE X e t') : PE X e (fun σ H Q => t σ H Q ∨ t' σ H Q) := ⟨fun pins s σ H Q I w => by
  rcases w with w | w
  · exact h.run pins s σ H Q I w
  · exact h'.run pins s σ H Q I w⟩
end
end VI
end
section
namespace VI
open PySem PySem.Spec PyProof.Rows L2
section
variable {X : Cx} {pins : List (Addr × Obj)} {σ : Sg} {H : Hp} {s : Shared} {d : Addr} {ks : Ks} {vs : List V}
end
section
variable {X : Cx} {T : Tb} {W : WX} {μ μ' : Mu} {H H' : Hp} {h : Bs} {σ : Sg} {ρ : Ev} {a b c : Expr} {sa sb s3 : SV} {pos : Pos}
def dlenD (ds : List D) (h : Bs) : R D := match ds with
  | [d] => (match dctO h d with
    | some (_, xs) => .ok (.int xs.length) h
    | none => .no)
  | _ => .no
def dlistD (bx : Bool) (ds : List D) (h : Bs) : R D := match ds with
  | [d] => (match dctO h d with
    | some (ks, _) => newL bx (keyDL ks) h
    | none => .no)
  | _ => .no
end
end VI
end
section
namespace VI
open PySem PySem.Spec PyProof.Rows L2
section
variable {X : Cx} {pins : List (Addr × Obj)} {σ : Sg} {H : Hp} {s : Shared} {d : Addr} {ks : Ks} {vs : List V}
end
def mwD (ff : Int → List Int → Int) (d : D) (h : Bs) : R D := match dctO h d with
  | some (_, xs) => (match intsD xs with
    | some (n :: ns) => .ok (.int (ff n ns)) h
    | _ => .no)
  | none => .no
section
variable {X : Cx} {T : Tb} {W : WX} {μ μ' : Mu} {H H' : Hp} {h : Bs} {σ : Sg} {ρ : Ev} {a b c e : Expr} {sa sb s3 : SV} {pos p apos cpos : Pos}
end
end VI
end
section
namespace VI
open PySem PySem.Spec PyProof.Rows L2
section
variable {X : Cx} {pins : List (Addr × Obj)} {σ : Sg} {H : Hp} {s : Shared}
theorem CallR.or {f : Value} {r r' : List V → Hp → VK → Prop} (h : CallR X f r) (h' : CallR X f r') : CallR X f (fun xs H Q => r xs H Q ∨ r' xs H Q) := fun pins s σ H xs us Q I rx w => by
  rcases w with w | w
  · exact h pins s σ H xs us Q I rx w
  · exact h' pins s σ H xs us Q I rx w
end
end VI
end
section
namespace VI
open PySem PySem.Spec PyProof.Rows L2
def mkK : List Key → List D → List (D × D) → Option (List Key × List D)
  | ks, xs, [] => some (ks, xs)
  | ks, xs, (k, v) :: r => match keyD k with
    | some a => mkK (addK ks a) (putV ks xs a v) r
    | none => none
section
variable {X : Cx} {T : Tb} {W : WX} {μ μ' : Mu} {H H' : Hp} {h : Bs} {σ : Sg} {ρ : Ev}
end
end VI
end
section
namespace VI
open PySem PySem.Spec PyProof.Rows L2
open PySem.SeqAt (EqIn EqAt)
section
variable {prog : Program} {w : World} {A : Around} {E : Value → Shared → Prop} {s : Shared}
structure Hit (prog : Program) (w : World) (A : Around) (s : Shared) (b : Addr) (e1 : DictEntry) (es2 : Array DictEntry) (c : Bool) : Prop where
  ex : ∃ o : Option Nat, (∀ (E : Value → Shared → Prop) (Q : Option Nat → Shared → Prop), Q o s → wpAny (model prog w) A (dictFind b e1.key e1.hash) Q E s) ∧
    (match o with | none => c = false | some j => ∃ hj : j < es2.size, EqIn prog w A s e1.val es2[j].val c)
end
end VI
end
section
namespace VI
open PySem PySem.Spec PyProof.Rows L2
open PySem.SeqAt (EqIn EqAt)
def Ks.alike : Ks → Ks → Bool
  | .k _, .k _ => true
  | .t _, .t _ => true
  | _, _ => false
section
variable {X : Cx} {pins : List (Addr × Obj)} {σ : Sg} {H : Hp} {s : Shared}
end
end VI
end
section
namespace VI
open PySem PySem.Spec PyProof.Rows L2
open PySem.SeqAt (EqIn EqAt rcIn_lists rcIn_tuples)
inductive Sh where
  | tu (xs : List D) | li (xs : List D) | di (ks : Ks) (xs : List D)
def shO (h : Bs) (d : D) : Option Sh := match d with
  | .tup xs => some (.tu xs)
  | .tpl xs => some (.tu xs)
  | .lst xs => some (.li xs)
  | .dct ks xs => some (.di ks xs)
  | .ref b => (match h.bs[b]? with
    | some (.lst _ xs) => some (.li xs)
    | some (.dct _ ks xs) => some (.di ks xs)
    | some (.dfz ks xs) => some (.di ks xs)
    | _ => none)
  | _ => none
def entsZ {κ : Type} (f : κ → Ko) : List κ → List D → List (Ko × D)
  | k :: ks, x :: xs => (f k, x) :: entsZ f ks xs
  | _, _ => []
def Ks.ents (ks : Ks) (xs : List D) : List (Ko × D) := match ks with
  | .k l => entsZ Ko.k l xs
  | .t l => entsZ Ko.t l xs
def Ks.nd : Ks → Prop
  | .k l => l.Nodup
  | .t l => l.Nodup
def zipD : List D → List D → List (D × D)
  | x :: xs, y :: ys => (x, y) :: zipD xs ys
  | _, _ => []
def eqS (f : D → D → Option Bool) (h : Bs) (d e : D) : Option Bool := match shO h d, shO h e with
  | some (.tu xs), some (.tu ys) => (mapO (fun p => f p.1 p.2) (zipD xs ys)).map fun bs => bs.all id && xs.length == ys.length
  | some (.li xs), some (.li ys) => if xs.length = ys.length then (mapO (fun p => f p.1 p.2) (zipD xs ys)).map fun bs => bs.all id else some false
  | some (.di ks xs), some (.di ls ys) => if ks.len = ls.len then (if ks.alike ls then (mapO (fun (p : Ko × D) => match ls.look ys p.1 with | none => some false | some y => f p.2 y) (ks.ents xs)).map fun bs => bs.all id else if ks.len = 0 then some true else none) else some false
  | _, _ => none
def eqT : Nat → Bs → D → D → Option Bool
  | 0, _, _, _ => none
  | n + 1, h, d, e => match py pyN h d, py pyN h e with
    | some p, some q => some (PyData.eqv p q)
    | _, _ => eqS (eqT n h) h d e
section
variable {X : Cx} {T : Tb} {W : WX} {pins : List (Addr × Obj)} {μ μ' : Mu} {H H' : Hp} {h : Bs} {σ : Sg} {s : Shared}
def ShAt (T : Tb) (μ : Mu) (H : Hp) (a : Addr) : Sh → Prop
  | .tu xs => ∃ vs, Rd H a (.tup vs) ∧ Reps T μ H xs vs
  | .li xs => ∃ vs, H a = some (.lst vs) ∧ Reps T μ H xs vs
  | .di ks xs => ∃ vs, Rd H a (kvO ks vs) ∧ ks.len = vs.length ∧ Reps T μ H xs vs
theorem Rel.shO (r : Rel T μ h H) {d : D} {v : V} {z : Sh} (q : Rep T μ H d v) (e : VI.shO h d = some z) : ∃ a, v = .ref a ∧ ShAt T μ H a z := by
  cases d with
  | tup xs => simp only [VI.shO] at e; cases e; obtain ⟨a, vs, e1, e2, _, e3⟩ := q.tupOf; exact ⟨a, e1, vs, .inl e2, e3⟩
  | tpl xs => simp only [VI.shO] at e; cases e; obtain ⟨a, o, vs, e1, e2, _, _, e3⟩ := q.tplOf; exact ⟨a, e1, vs, .inr ⟨o, e2⟩, e3⟩
  | lst xs => simp only [VI.shO] at e; cases e; obtain ⟨a, vs, e1, e2, e3⟩ := r.lstS (xs := xs) q rfl; exact ⟨a, e1, vs, e2, e3⟩
  | dct ks xs => simp only [VI.shO] at e; cases e; obtain ⟨a, vs, e1, e2, e3, e4⟩ := r.dctO (ks := ks) (xs := xs) q rfl; exact ⟨a, e1, vs, e2, e3, e4⟩
  | ref b =>
    simp only [VI.shO] at e
    split at e
    · rename_i lk xs hb
      cases e
      obtain ⟨a, vs, e1, e2, e3⟩ := r.lstS (d := .ref b) (xs := xs) q (by simp [VI.lstS, hb])
      exact ⟨a, e1, vs, e2, e3⟩
    · rename_i lk ks xs hb
      cases e
      obtain ⟨a, vs, e1, e2, e3, e4⟩ := r.dctO (d := .ref b) (ks := ks) (xs := xs) q (by simp [VI.dctO, hb])
      exact ⟨a, e1, vs, e2, e3, e4⟩
    · rename_i ks xs hb
      cases e
      obtain ⟨a, vs, e1, e2, e3, e4⟩ := r.dctO (d := .ref b) (ks := ks) (xs := xs) q (by simp [VI.dctO, hb])
      exact ⟨a, e1, vs, e2, e3, e4⟩
    · cases e
  | _ => simp [VI.shO] at e
theorem zip_eq {α β : Type} : ∀ {l l' : List α} {vs ws : List β}, l.length = vs.length → l'.length = ws.length → l.zip vs = l'.zip ws → l = l' ∧ vs = ws
  | [], l', [], ws, _, h2, e => by
    cases l' with
    | nil => cases ws with
      | nil => exact ⟨rfl, rfl⟩
      | cons _ _ => simp at h2
    | cons _ _ => cases ws with
      | nil => simp at h2
      | cons _ _ => simp at e
  | x :: l, l', v :: vs, ws, h1, h2, e => by
    cases l' with
    | nil => simp at e
    | cons y l' => cases ws with
      | nil => simp at h2
      | cons w ws =>
        simp only [List.zip_cons_cons, List.cons.injEq, Prod.mk.injEq] at e
        obtain ⟨a, b⟩ := zip_eq (by simpa using h1) (by simpa using h2) e.2
        exact ⟨by rw [e.1.1, a], by rw [e.1.2, b]⟩
  | [], _, _ :: _, _, h1, _, _ => by simp at h1
  | _ :: _, _, [], _, h1, _, _ => by simp at h1
end
end VI
end
section
namespace VI
open PySem PySem.Spec PyProof.Rows L2
def pick (c : D → D → Bs → Bool) (f g : D → D → Bs → R D) (d e : D) (h : Bs) : R D := if c d e h then f d e h else g d e h
theorem sOp_pick {c : D → D → Bs → Bool} {f g : D → D → Bs → R D} {sa sb : SV} (ρ : Ev) (h : Bs) : sOp (pick c f g) sa sb ρ h = sOp f sa sb ρ h ∨ sOp (pick c f g) sa sb ρ h = sOp g sa sb ρ h := by
  unfold sOp
  cases sa ρ h with
  | ok d h1 =>
    show (sb ρ h1).bind _ = (sb ρ h1).bind _ ∨ (sb ρ h1).bind _ = (sb ρ h1).bind _
    cases sb ρ h1 with
    | ok e h2 =>
      show pick c f g d e h2 = f d e h2 ∨ pick c f g d e h2 = g d e h2
      unfold pick; split
      · exact .inl rfl
      · exact .inr rfl
    | ex x h2 => exact .inl rfl
    | no => exact .inl rfl
  | ex x h1 => exact .inl rfl
  | no => exact .inl rfl
def isDk (d : D) (h : Bs) : Bool := (dctO h d).isSome
abbrev ixX := pick (fun d _ h => isDk d h) dgetD ixD
abbrev inX (neg : Bool) := pick (fun _ e h => isDk e h) (fun d e h => dinD neg d e h) (inD neg)
section
variable {X : Cx} {T : Tb} {W : WX} {e a b : Expr} {s s' sa sb : SV} {op : CmpOp}
theorem PE.pick {c : D → D → Bs → Bool} {f g : D → D → Bs → R D} (h1 : PE X e (tV T W (sOp f sa sb))) (h2 : PE X e (tV T W (sOp g sa sb))) : PE X e (tV T W (sOp (VI.pick c f g) sa sb)) :=
  PE.imp (PE.or h1 h2) fun σ H Q ⟨μ, ρ, h, r, e, o⟩ => by
    rcases sOp_pick (c := c) (f := f) (g := g) (sa := sa) (sb := sb) ρ h with z | z
    · exact .inl ⟨μ, ρ, h, r, e, z ▸ o⟩
    · exact .inr ⟨μ, ρ, h, r, e, z ▸ o⟩
theorem PC.or {t t' : TE} (h : PC X op a b t) (h' : PC X op a b t') : PC X op a b (fun σ H Q => t σ H Q ∨ t' σ H Q) := ⟨fun pins s σ H Q I w => by
  rcases w with w | w
  · exact h.run pins s σ H Q I w
  · exact h'.run pins s σ H Q I w⟩
theorem PC.imp' {t t' : TE} (h : PC X op a b t) (i : ∀ σ H Q, t' σ H Q → t σ H Q) : PC X op a b t' := ⟨fun pins s σ H Q I w => h.run pins s σ H Q I (i σ H Q w)⟩
theorem PC.pick {c : D → D → Bs → Bool} {f g : D → D → Bs → R D} (h1 : PC X op a b (tV T W (sOp f sa sb))) (h2 : PC X op a b (tV T W (sOp g sa sb))) : PC X op a b (tV T W (sOp (VI.pick c f g) sa sb)) :=
  PC.imp' (PC.or h1 h2) fun σ H Q ⟨μ, ρ, h, r, e, o⟩ => by
    rcases sOp_pick (c := c) (f := f) (g := g) (sa := sa) (sb := sb) ρ h with z | z
    · exact .inl ⟨μ, ρ, h, r, e, z ▸ o⟩
    · exact .inr ⟨μ, ρ, h, r, e, z ▸ o⟩
theorem OpR.or {f : Value → Value → Sem Value} {r r' : R2} (h : OpR X f r) (h' : OpR X f r') : OpR X f (fun x y H Q => r x y H Q ∨ r' x y H Q) := fun pins s σ H x y v u Q I rx ry w => by
  rcases w with w | w
  · exact h pins s σ H x y v u Q I rx ry w
  · exact h' pins s σ H x y v u Q I rx ry w
theorem OpR.pick {o : Value → Value → Sem Value} {c : D → D → Bs → Bool} {f g : D → D → Bs → R D} (h1 : OpR X o (rD2 T f)) (h2 : OpR X o (rD2 T g)) : OpR X o (rD2 T (VI.pick c f g)) :=
  OpR.imp (OpR.or h1 h2) fun x y H Q ⟨μ, h, d, e, r, rd, re, o⟩ => by
    unfold VI.pick at o
    split at o
    · exact .inl ⟨μ, h, d, e, r, rd, re, o⟩
    · exact .inr ⟨μ, h, d, e, r, rd, re, o⟩
def neG (d e : D) (h : Bs) : R D := match shO h d, shO h e with
  | some (.di _ _), some (.di _ _) => (match eqS (eqT 10 h) h d e with
    | some b => .ok (.bl (!b)) h
    | none => .no)
  | _, _ => .no
def plainB (d e : D) (h : Bs) : Bool := (py pyN h d).isSome && (py pyN h e).isSome
abbrev neX := pick plainB (eqD true) neG
def pickC (c : List D → Bs → Bool) (f g : List D → Bs → R D) (ds : List D) (h : Bs) : R D := if c ds h then f ds h else g ds h
theorem CallR.pick {v : Value} {c : List D → Bs → Bool} {f g : List D → Bs → R D} (h1 : CallR X v (rDn T f)) (h2 : CallR X v (rDn T g)) : CallR X v (rDn T (pickC c f g)) :=
  CallR.imp (CallR.or h1 h2) fun xs H Q ⟨μ, h, ds, r, rd, o⟩ => by
    unfold pickC at o
    split at o
    · exact .inl ⟨μ, h, ds, r, rd, o⟩
    · exact .inr ⟨μ, h, ds, r, rd, o⟩
def isDks (ds : List D) (h : Bs) : Bool := match ds with
  | [d] => isDk d h
  | _ => false
abbrev lenX := pickC isDks dlenD lenD
abbrev listX (bx : Bool) := pickC isDks (dlistD bx) (listD bx)
end
section
variable {Z : Cfg} {t : Tx} {k : Nat} {N : List Str} {sc : Scope} {raw : Option Scope} {X : Cx} {W : WX} {pos p : Pos} {a b c e : Expr} {sa sb s3 s : SV} {x : Str}
def siX (s : SV) : SI := fun ρ h => (s ρ h).bind fun d h1 => if (dwalk h1 d).isSome then itDk fK d h1 else itSeq d h1
theorem PI.imp' {tg iter : Expr} {t t' : TI} (h : PI X tg iter t) (i : ∀ σ H Q, t' σ H Q → t σ H Q) : PI X tg iter t' := ⟨fun pins s σ H Q I w => h.run pins s σ H Q I (i σ H Q w)⟩
def ssPutX (sd sk sv : SV) : SS := fun ρ h => (sv ρ h).toF ρ fun v h1 => (sd ρ h1).toF ρ fun d h2 => if isDk d h2 then (sk ρ h2).toF ρ fun k h3 => (dputD d k v h3).toF ρ fun _ h4 => .nx ρ h4 else ((sk ρ h2).bind fun i h3 => (setD d i v h3).bind fun _ h4 => .ok ρ h4).toF'
end
end VI
end
section
namespace VI
open PySem PySem.Spec PyProof.Rows L2
section
variable {X : Cx} {T : Tb} {W : WX} {H : Hp} {tg : Expr}
end
section
variable {Z : Cfg} {t : Tx} {k : Nat} {N : List Str} {sc : Scope} {raw : Option Scope} {X : Cx} {W : WX} {pos p : Pos} {a b c e : Expr} {sa sb s3 s : SV} {x : Str}
end
end VI
end
section
namespace VI
open PySem PySem.Spec PyProof.Rows L2
def Mu.pp (μ : Mu) (p : Addr) : Mu := { μ with pr := p :: μ.pr }
section
variable {T : Tb} {W : WX} {μ μ' : Mu} {H H' : Hp} {h : Bs} {σ : Sg} {ρ : Ev} {p : Addr}
end
section
variable {Z : Cfg} {t : Tx} {k : Nat}
end
end VI
end
section
namespace VI
open PySem PySem.Spec PyProof.Rows L2
def ItzN (K : PySem.W.Frag) (a b : Addr) : It :=
  ⟨fun i H => ∃ (xs ys : List V) (x y : V), SqT K H a xs ∧ SqL K H b ys ∧ xs[i]? = some x ∧ ys[i]? = some y,
    fun i H v H' => ∃ T x y, v = .ref T ∧ H T = none ∧ H' = upd H T (.tup [x, y]) ∧ (∀ xs, SqT K H a xs → xs[i]? = some x) ∧ ∀ ys, SqL K H b ys → ys[i]? = some y,
    fun i H => ∃ xs ys : List V, SqT K H a xs ∧ SqL K H b ys ∧ i ≤ xs.length ∧ i ≤ ys.length ∧ (xs.length ≤ i ∨ ys.length ≤ i)⟩
theorem turn_zipN {P : Program} {w : World} {K : PySem.W.Frag} {elts : List Expr} {kk : Nat} {tpos : Pos} {a b z TI TO i1 i2 : Addr} (D : ZipApart z TI TO i1 i2 a b) :
    Turn P w K (.Tuple elts kk tpos) (ItzN K a b) [z, TI, TO, i1, i2] z (fun i h => IsZip h z TI TO .none ∧ IsPair h TI (.ref i1) (.ref i2) ∧ (∃ x y, IsPair h TO x y) ∧ h.IsTupleIter i1 a i ∧ h.IsListIter i2 b i) where
  mem := by simp
  obj := fun i h st c hc => by
    obtain ⟨hz, hTI, ⟨x, y, hTO⟩, ⟨o1, e1, _, d1⟩, ⟨o2, e2, _, d2⟩⟩ := st
    have e' : c = z ∨ c = TI ∨ c = TO ∨ c = i1 ∨ c = i2 := by simpa using hc
    rcases e' with q | q | q | q | q
    · rw [q]; exact ⟨_, hz, fun v q => nomatch q⟩
    · rw [q]; exact ⟨_, hTI, fun v q => nomatch q⟩
    · rw [q]; exact ⟨_, hTO, fun v q => nomatch q⟩
    · rw [q]; exact ⟨o1, e1, fun v q => by rw [d1] at q; cases q⟩
    · rw [q]; exact ⟨o2, e2, fun v q => by rw [d2] at q; cases q⟩
  keep := fun i h h' st k => by
    obtain ⟨hz, hTI, ⟨x, y, hTO⟩, h1, h2⟩ := st
    exact ⟨k z (by simp) _ hz, k TI (by simp) _ hTI, ⟨x, y, k TO (by simp) _ hTO⟩, h1.at fun o q => k i1 (by simp) o q, h2.at fun o q => k i2 (by simp) o q⟩
  item := by
    intro X hP hw hK hc i pins s σ H E I hf st hg
    subst hP hw hK
    obtain ⟨hz, hTI, ⟨x0, y0, hTO⟩, h1, h2⟩ := st
    obtain ⟨xs, ys, x, y, hqx, hqy, hx, hy⟩ := hg
    obtain ⟨its, rv, p, _⟩ := I.tuple hqx
    obtain ⟨its2, rv2, p2, _⟩ := I.list hqy
    obtain ⟨u, hu, ru⟩ := rv.get hx
    obtain ⟨u2, hu2, ru2⟩ := rv2.get hy
    have hzl : z < s.heap.objs.size := Heap.lt_size hz
    have hh := I.ok.hd hc
    have hd1 := Draws.tuple (prog := X.prog) (w := X.w) (A := X.A.in1) hh i1 a D.l1i1 its.toArray
    have hd2 := Draws.list (prog := X.prog) (w := X.w) (A := X.A.in1) hh i2 b D.l2i2 its2.toArray
    refine wpAny_pyNext_zipD2_item (zsep D) hd1 hd2 hz hTI hTO ⟨h1, p⟩ ⟨h2, p2.isList⟩ (by
      have := (List.getElem?_eq_some_iff.mp hu).1
      simpa using this) (by
      have := (List.getElem?_eq_some_iff.mp hu2).1
      simpa using this) fun v1 v2 h' tk y1 y2 z' TO' r1 r2 hT hsz hk => ?_
    obtain ⟨h1', _⟩ := r1
    obtain ⟨h2', _⟩ := r2
    obtain rfl : v1 = u := by simpa [hu] using y1.symm
    obtain rfl : v2 = u2 := by simpa [hu2] using y2.symm
    refine ⟨_, rfl, wpAny_letOwnedTupleGo_zip (s := { s with heap := h', toks := tk }) z' fun h'' z'' sb => ?_⟩
    have hT2 : h''.get? s.heap.objs.size = some { cls := .type "tuple", data := .seq #[v1, v2] } := (sb.2 _ (Nat.ne_of_gt hzl)).trans hT
    have new : ObjOk X.prog X.w (upd H s.heap.objs.size (.tup [x, y])) h'' s.heap.objs.size (.tup [x, y]) :=
      ⟨by show 2 ≤ sizeLine; decide, [v1, v2], .cons ru (.cons ru2 .nil), ⟨_, hT2, rfl, _, rfl⟩⟩
    have I1 : Inv X pins σ (upd H s.heap.objs.size (.tup [x, y])) { s with heap := h'', toks := tk } :=
      I.turnedNew (t' := tk) (ch := [z, TI, TO, i1, i2]) (fun c o hb q => (sb.2 c (fun q' => hb (by simp [q']))).trans (hk c o (fun q' => hb (by simp [q'])) (fun q' => hb (by simp [q'])) (fun q' => hb (by simp [q'])) (fun q' => hb (by simp [q'])) q)) hf (Nat.le_refl _) new
    refine ⟨.ref s.heap.objs.size, _, I1, rfl, ⟨_, x, y, rfl, I.hok.fresh (Nat.le_refl _), rfl, fun l hl => by rw [I.tuple_inj hl hqx]; exact hx, fun l hl => by rw [I.list_inj hl hqy]; exact hy⟩, ⟨z'', ?_, ⟨v1, v2, ?_⟩, ?_, ?_⟩, fun c hcm => ?_⟩
    · exact (sb.2 _ D.TIz).trans (hk _ _ D.TIz D.TITO D.TIi1 D.TIi2 hTI)
    · exact (sb.2 _ D.TOz).trans TO'
    · exact h1'.at fun o q => (sb.2 _ D.i1z).trans q
    · exact h2'.at fun o q => (sb.2 _ D.i2z).trans q
    · have hlt : c < s.heap.objs.size := by
        have e' : c = z ∨ c = TI ∨ c = TO ∨ c = i1 ∨ c = i2 := by simpa using hcm
        rcases e' with q | q | q | q | q
        · rw [q]; exact hzl
        · rw [q]; exact Heap.lt_size hTI
        · rw [q]; exact Heap.lt_size hTO
        · rw [q]; obtain ⟨_, e1, _⟩ := h1; exact Heap.lt_size e1
        · rw [q]; obtain ⟨_, e2, _⟩ := h2; exact Heap.lt_size e2
      rw [upd_ne (Nat.ne_of_lt hlt)]
      exact (hf c hcm).1
  done := by
    intro X hP hw hK hc i pins s σ H E I hf st hg
    subst hP hw hK
    obtain ⟨hz, hTI, ⟨x0, y0, hTO⟩, h1, h2⟩ := st
    obtain ⟨xs, ys, hqx, hqy, b1, b2, hend⟩ := hg
    obtain ⟨its, rv, p, _⟩ := I.tuple hqx
    obtain ⟨its2, rv2, p2, _⟩ := I.list hqy
    have l1 := rv.length
    have l2 := rv2.length
    have hh := I.ok.hd hc
    have hd1 := Draws.tuple (prog := X.prog) (w := X.w) (A := X.A.in1) hh i1 a D.l1i1 its.toArray
    have hd2 := Draws.list (prog := X.prog) (w := X.w) (A := X.A.in1) hh i2 b D.l2i2 its2.toArray
    exact wpAny_pyNext_zipD2_end (zsep D) hd1 hd2 hz hTI hTO ⟨h1, p⟩ ⟨h2, p2.isList⟩ (by simp; omega) (by simp; omega) (by simp; omega) fun h' tk hk => ⟨rfl, I.turnedL (t' := tk) (ch := [z, TI, TO, i1, i2]) (fun c o hb q =>
      hk c o (fun q' => hb (by simp [q'])) (fun q' => hb (by simp [q'])) (fun q' => hb (by simp [q'])) (fun q' => hb (by simp [q'])) q) hf⟩
  self := fun A i s Q E st h => wpAny_pyIter_zip st.1 h
def iZipN (K : PySem.W.Frag) (ta : TA) : TI := fun σ H R => ta σ H fun vs H1 => ∃ a b xs ys, vs = [.ref a, .ref b] ∧ SqT K H1 a xs ∧ SqL K H1 b ys ∧ R (ItzN K a b) H1
theorem pi_zipN {X : Cx} {e e2 : Expr} {ta : TA} {p pos tpos : Pos} {elts : List Expr} {kk : Nat} (hg : Gl X "zip") (hm : X.mg "zip" = none) (ha : PA X [e, e2] ta)
    (hs : starEach [e, e2] X.env = (false, eval e X.env) :: starEach [e2] X.env) (hpl : (backTo pos (starEach [e2] X.env)).any (·.1) = false) :
    PI X (.Tuple elts kk tpos) (.Call (.Name "zip" p) [e, e2] [] pos) (iZipN X.K ta) := by
  refine ⟨fun pins s σ H R I h => ?_⟩
  refine Call_ (ld_blt I hg hm PyProof.Rows.boot_zip (PyProof.Rows.callWith_type1 (thn (ha.run pos pins s σ H _ I h) fun us s1 ⟨vs, H1, I1, r1, q1⟩ => ?_) hs hpl))
  obtain ⟨a, b, xs, ys, ex, hqx, hqy, q⟩ := q1
  subst ex
  cases r1 with
  | cons r rr =>
    cases rr with
    | cons r' rr =>
      cases rr
      cases r
      cases r'
      have fresh5 : ∀ c, c ∈ [s1.heap.objs.size + 4, s1.heap.objs.size + 2, s1.heap.objs.size + 3, s1.heap.objs.size, s1.heap.objs.size + 1] → FpOk X pins H1 c := fun c hcm => by
        have e' : c = s1.heap.objs.size + 4 ∨ c = s1.heap.objs.size + 2 ∨ c = s1.heap.objs.size + 3 ∨ c = s1.heap.objs.size ∨ c = s1.heap.objs.size + 1 := by simpa using hcm
        have hle : s1.heap.objs.size ≤ c := by omega
        exact I1.fpOk hle (I1.hok.fresh hle)
      obtain ⟨its, rv, p1, _⟩ := I1.tuple hqx
      obtain ⟨its2, rv2, p2, _⟩ := I1.list hqy
      obtain ⟨o2, ho2, _⟩ := id p1
      refine zip_begins2 (begins_tuple a its.toArray) (begins_list b its2.toArray) p1 p2.isList fun h' hz hTI hTO g1 g2 hsz hk => wpAny_pyIter_zip hz ?_
      have I2 : Inv X pins σ H1 { s1 with heap := h' } := I1.kept (t' := s1.toks) hk
      exact ⟨s1.heap.objs.size + 4, [s1.heap.objs.size + 4, s1.heap.objs.size + 2, s1.heap.objs.size + 3, s1.heap.objs.size, s1.heap.objs.size + 1], _, _, H1, rfl, I2, turn_zipN (PySem.W.ktu_apart s1.heap.objs.size a b (Heap.lt_size ho2) p2.lt), ⟨hz, hTI, ⟨_, _, hTO⟩, ⟨_, g1, rfl, rfl⟩, ⟨_, g2, rfl, rfl⟩⟩, fresh5, q⟩
theorem walk_zipN {K : PySem.W.Frag} {a b : Addr} {xs ys : List V} {n : Nat} (hn : n = min xs.length ys.length) : Walk (ItzN K a b) n (fun H => SqT K H a xs ∧ SqL K H b ys) (YPair (fun i => xs[i]?) (fun i => ys[i]?)) := by
  subst hn
  refine ⟨fun i _ hi q => ?_, fun _ q => ⟨xs, ys, q.1, q.2, by omega, by omega, by omega⟩, fun i H v H' _ q y => ?_⟩
  · have h1 : i < xs.length := by omega
    have h2 : i < ys.length := by omega
    exact ⟨xs, ys, xs[i], ys[i], q.1, q.2, by simp [h1], by simp [h2]⟩
  · obtain ⟨t, x, z, h1, h2, h3, h4, h5⟩ := y
    exact ⟨t, x, z, h1, h2, h3, h4 xs q.1, h5 ys q.2⟩
def itZipN (ds : List D) (h : Bs) : R Iu := match ds with
  | [d, e] => if isTupD d && !isTupD e then (match itSeq d h, itSeq e h with
    | .ok (xs, none) _, .ok (ys, none) _ => .ok (zipL xs ys, none) h
    | _, _ => .no) else .no
  | _ => .no
section
variable {X : Cx} {T : Tb} {W : WX} {μ μ' : Mu} {H H' : Hp} {h : Bs} {σ : Sg} {ρ : Ev}
theorem piv_zipN {e e2 : Expr} {p pos tpos : Pos} {elts : List Expr} {kk : Nat} {sa : SA} (hK : X.K = T.K) (hg : Gl X "zip") (hm : X.mg "zip" = none) (hs : PySem.W.isStarred e = false) (hs2 : PySem.W.isStarred e2 = false) (ha : PA X [e, e2] (tA' T W sa)) :
    PI X (.Tuple elts kk tpos) (.Call (.Name "zip" p) [e, e2] [] pos) (tI' T W (siArg itZipN sa)) :=
  PI.imp (pi_zipN hg hm ha (star_no hs) (back_no (by simp [noStars, hs2]))) fun σ H Q ⟨μ, ρ, h, r, e, o⟩ => by
    refine ⟨μ, ρ, h, r, e, OutA.mono (OutI.bindA o) ?_⟩
    rintro v H1 ⟨μ1, ds, h1, s1, r1, rv, o1⟩
    unfold itZipN at o1
    split at o1
    · rename_i d d2
      obtain ⟨w, w2, rfl, rw', rw2⟩ := rv.is2
      split at o1
      · rename_i ht
        simp only [Bool.and_eq_true, Bool.not_eq_true'] at ht
        split at o1
        · rename_i xs hx' ys hy' q q2
          obtain ⟨rfl, _, a, vs, e1, e4, e5⟩ := seq_stays r1 rw' q
          obtain ⟨rfl, _, b, ws, f1, f4, f5⟩ := seq_stays r1 rw2 q2
          subst e1 f1
          refine ⟨a, b, vs, ws, rfl, ?_⟩
          rcases e5 with ⟨t1, e5, e6⟩ | ⟨t1, e5, e6⟩
          · rw [t1] at ht; exact absurd ht.1 (by decide)
          · rcases f5 with ⟨t2, f5, f6⟩ | ⟨t2, f5, f6⟩
            · refine ⟨by rw [hK]; exact e5, by rw [hK]; exact f5, ?_⟩
              rw [hK]
              exact o1.nolk r1 (wk_pair (walk_zipN (K := T.K) (a := a) (b := b) rfl) (by rw [zipL_length, e4.length, f4.length]) (fun E μ' H' hE s => ⟨e6 E μ' H' hE s, f6 E μ' H' hE s⟩) (zip_items e4 f4))
            · rw [t2] at ht; exact absurd ht.2 (by decide)
        · exact o1.elim
      · exact o1.elim
    · exact o1.elim
def itZipY (ds : List D) (h : Bs) : R Iu := match itZipX ds h with
  | .no => itZipN ds h
  | r => r
theorem zipY_or {ds : List D} {h : Bs} : itZipY ds h = itZipX ds h ∨ itZipY ds h = itZipN ds h := by
  unfold itZipY
  cases q : itZipX ds h <;> simp
theorem piv_zipY {e e2 : Expr} {p pos tpos : Pos} {elts : List Expr} {kk : Nat} {sa : SA} (hK : X.K = T.K) (hg : Gl X "zip") (hm : X.mg "zip" = none) (hs : PySem.W.isStarred e = false) (hs2 : PySem.W.isStarred e2 = false) (ha : PA X [e, e2] (tA' T W sa)) :
    PI X (.Tuple elts kk tpos) (.Call (.Name "zip" p) [e, e2] [] pos) (tI' T W (siArg itZipY sa)) := by
  refine ⟨fun pins s σ H Q I ⟨μ, ρ, h, r, e, o⟩ => ?_⟩
  have h1 := piv_zipX (elts := elts) (kk := kk) (tpos := tpos) (p := p) (pos := pos) hK hg hm hs hs2 ha
  have h2 := piv_zipN (elts := elts) (kk := kk) (tpos := tpos) (p := p) (pos := pos) hK hg hm hs hs2 ha
  cases q : sa ρ h with
  | no => exact h1.run pins s σ H Q I ⟨μ, ρ, h, r, e, by unfold siArg at o ⊢; rw [q] at o ⊢; exact o⟩
  | ex x h' => exact h1.run pins s σ H Q I ⟨μ, ρ, h, r, e, by unfold siArg at o ⊢; rw [q] at o ⊢; exact o⟩
  | ok ds h' =>
    have o' : OutI T W σ μ H Q (itZipY ds h') := by unfold siArg at o; rw [q] at o; exact o
    rcases zipY_or (ds := ds) (h := h') with z | z
    · exact h1.run pins s σ H Q I ⟨μ, ρ, h, r, e, by unfold siArg; rw [q]; show OutI T W σ μ H Q (itZipX ds h'); rw [← z]; exact o'⟩
    · exact h2.run pins s σ H Q I ⟨μ, ρ, h, r, e, by unfold siArg; rw [q]; show OutI T W σ μ H Q (itZipN ds h'); rw [← z]; exact o'⟩
end
section
variable {Z : Cfg} {t : Tx} {k : Nat} {N : List Str} {sc : Scope} {raw : Option Scope} {X : Cx} {W : WX} {pos p : Pos} {a b : Expr}
theorem i_zipY {tpos : Pos} {elts : List Expr} {kk : Nat} {s : SA} (h : XO Z t k N sc raw X W) (g : (glC sc "zip" && t.fr.contains "zip" && noStars [a, b]) = true) (ha : PA X [a, b] (tA' Z.T W s)) : PI X (.Tuple elts kk tpos) (.Call (.Name "zip" p) [a, b] [] pos) (tI' Z.T W (siArg itZipY s)) := by
  simp only [Bool.and_eq_true, noStars, List.all_cons, List.all_nil, Bool.not_eq_true', Bool.and_true] at g
  exact piv_zipY h.K (h.gl g.1.1).1 (h.fr g.1.2) g.2.1 g.2.2 ha
end
end VI
end
section
namespace VI
open PySem PySem.Spec PyProof.Rows L2
def Ks.nil : Ks → Ks
  | .k _ => .k []
  | .t _ => .t []
section
variable {X : Cx} {T : Tb} {W : WX} {μ μ' : Mu} {H H' : Hp} {h : Bs} {σ : Sg} {ρ : Ev} {pins : List (Addr × Obj)} {s : Shared} {o : Expr} {so : SV} {apos cpos : Pos} {td : TE}
end
end VI
end
section
namespace VI
open PySem PySem.Spec PyProof.Rows L2
namespace Std2
open Std
def number : SS := (ssCons (ssAsg (sIte (sOp (eqD true) (sVar 0) (sLst false saNil)) (sSl false (sVar 0) soNone (soSome (sK (.int 60)))) (sLst false (saCons (sK (.int 7)) saNil))) (sgName 2))
  (ssCons (ssAsg (sOp (addD false) (sOp ixD (sVar 2) (sOp modD (sVar 1) (sCall lenD (saCons (sVar 2) saNil)))) (sOp (mulD false) (sK (.int 31)) (sOp fdivD (sVar 1) (sCall lenD (saCons (sVar 2) saNil))))) (sgName 3))
  (ssCons (ssAsg (sOp (addD false) (sOp (mulD false) (sOp (addD false) (sOp (addD false) (sOp modD (sCall intD (saCons (sVar 3) saNil)) (sK (.int 1000003))) (sOp (mulD false) (sK (.int 977)) (sVar 1))) (sK (.int 13))) (sK (.int 48271))) (sOp modD (sCall intD (saCons (sOp fdivD (sVar 3) (sK (.int 1000003))) saNil)) (sK (.int 999983)))) (sgName 4))
  (ssCons (ssRet (sOp modD (sOp (mulD false) (sOp modD (sVar 4) (sK (.int 2147483647))) (sK (.int 65537))) (sK (.int 4294967291))))
  ssNil))))
def fNumber : List D → Bs → R D := runFn 2 5 number
def cells (ns : List Int) : List Int := if ns = [] then [7] else ns.take 60
theorem number_ok {ns : List Int} (hl : ns.length ≤ 63) {i : Int} (h0 : 0 ≤ i) (h1 : i < 2 ^ 64) (h : Bs) : ∃ z, fNumber [.scr ns, .int i] h = .ok (.int z) h := by
  have hc : ∀ h : Bs, (sIte (sOp (eqD true) (sVar 0) (sLst false saNil)) (sSl false (sVar 0) soNone (soSome (sK (.int 60)))) (sLst false (saCons (sK (.int 7)) saNil))) [some (.scr ns), some (.int i), none, none, none] h = .ok (.lst ((cells ns).map .int)) h := by
    intro h
    cases ns with
    | nil => rfl
    | cons n ms =>
      have e1 : (sOp (eqD true) (sVar 0) (sLst false saNil)) [some (.scr (n :: ms)), some (.int i), none, none, none] h = .ok (.bl true) h := rfl
      simp only [sIte, sTru, e1, bind_ok, truth]
      have e2 : cutD ((n :: ms).map D.int) none (some 60) = ((n :: ms).take 60).map D.int := by
        have := cut_hi (xs := (n :: ms).map D.int) (n := 60)
        rw [show ((60 : Nat) : Int) = 60 from rfl] at this
        rw [this, List.map_take]
      show newL false (cutD ((n :: ms).map D.int) none (some 60)) h = _
      rw [e2, newL_f (by rw [List.length_map, sizeLine_eq]; have := List.length_take_le 60 (n :: ms); omega)]
      rfl
  have q : 0 < (cells ns).length ∧ (cells ns).length ≤ 60 := by
    unfold cells
    split
    · simp
    · rename_i e
      have : 0 < ns.length := List.length_pos_iff.mpr e
      rw [List.length_take]
      omega
  obtain ⟨q1, q2⟩ := q
  obtain ⟨cs, hcs⟩ : ∃ cs, cs = cells ns := ⟨_, rfl⟩
  rw [← hcs] at q1 q2 hc
  obtain ⟨c, hix⟩ : ∃ c, L2.atI (cs.map D.int) (i % (cs.length : Int)) = some (.int c) := by
    obtain ⟨x, e, m⟩ := atI_mod (cs.map D.int) (by simpa using q1) i
    obtain ⟨c, _, rfl⟩ := List.mem_map.mp m
    exact ⟨c, by simpa using e⟩
  have hlog : ∀ a : Int, 0 ≤ a → a < 2 ^ 100 → a.natAbs.log2 ≤ 100 := fun a h1 h2 => log2_lt (by omega) h2
  have g1 : 0 ≤ i / (cs.length : Int) ∧ i / (cs.length : Int) ≤ i := ⟨Int.ediv_nonneg h0 (by omega), Int.ediv_le_self _ h0⟩
  have hlc : ((cs.length : Int)).natAbs.log2 < 9000 := Nat.lt_of_le_of_lt (hlog _ (by omega) (by omega)) (by decide)
  obtain ⟨cell, hcell⟩ : ∃ cell, cell = c + 31 * (i / (cs.length : Int)) := ⟨_, rfl⟩
  obtain ⟨low, hlow⟩ : ∃ z, z = cell % 1000003 := ⟨_, rfl⟩
  obtain ⟨high, hhigh⟩ : ∃ z, z = cell / 1000003 % 999983 := ⟨_, rfl⟩
  have b1 : 0 ≤ low ∧ low < 1000003 := by subst hlow; exact ⟨Int.emod_nonneg _ (by decide), Int.emod_lt_of_pos _ (by decide)⟩
  obtain ⟨mx, hmx⟩ : ∃ z, z = ((low + 977 * i + 13) * 48271 + high) % 2147483647 := ⟨_, rfl⟩
  have b4 : 0 ≤ mx ∧ mx < 2147483647 := by subst hmx; exact ⟨Int.emod_nonneg _ (by decide), Int.emod_lt_of_pos _ (by decide)⟩
  have m1 : ∀ h, mulD false (.int 31) (.int (i / (cs.length : Int))) h = .ok (.int (31 * (i / (cs.length : Int)))) h := fun h => mulI (by have := hlog (i / cs.length) g1.1 (by omega); have := hlog 31 (by decide) (by decide); omega)
  have m2 : ∀ h, mulD false (.int 977) (.int i) h = .ok (.int (977 * i)) h := fun h => mulI (by have := hlog i h0 (by omega); have := hlog 977 (by decide) (by decide); omega)
  have m3 : ∀ h, mulD false (.int (low + 977 * i + 13)) (.int 48271) h = .ok (.int ((low + 977 * i + 13) * 48271)) h := fun h => mulI (by have := hlog (low + 977 * i + 13) (by omega) (by omega); have := hlog 48271 (by decide) (by decide); omega)
  have m7 : ∀ h, mulD false (.int mx) (.int 65537) h = .ok (.int (mx * 65537)) h := fun h => mulI (by have := hlog mx (by omega) (by omega); have := hlog 65537 (by decide) (by decide); omega)
  refine ⟨mx * 65537 % 4294967291, ?_⟩
  refine run_rt (d := .int _) rfl ?_ rfl
  show number [some (.scr ns), some (.int i), none, none, none] (inB h) = _
  unfold number
  simp only [ssCons, ssAsg, hc, toF_ok, Fbind_nx, sgName, toF'_ok, List.set_cons_succ, List.set_cons_zero, sOp, sVar, List.getElem?_cons_succ, List.getElem?_cons_zero, bind_ok, sCall, saCons, saNil, sK, intD, lenD, seqOf, lstOf, List.length_map, modI (j := (cs.length : Int)) (by omega), ixD, hix,
    fdivI (j := (cs.length : Int)) ⟨by omega, hlc⟩, m1, addD]
  rw [← hcell]
  simp only [sOp, sVar, List.getElem?_cons_succ, List.getElem?_cons_zero, bind_ok, sCall, saCons, saNil, sK, intD, modI (j := 1000003) (by decide), fdivI (j := 1000003) (by decide), modI (j := 999983) (by decide), m2, addD]
  rw [← hlow, ← hhigh]
  simp only [m3, bind_ok, addD, toF_ok, toF'_ok, Fbind_nx, sgName, List.set_cons_succ, List.set_cons_zero, List.getElem?_cons_succ, List.getElem?_cons_zero, ssRet, sOp, sVar, sK, modI (j := 2147483647) (by decide)]
  refine ret_ok (op_ok (h1 := inB h) (h2 := inB h) (op_ok (h1 := inB h) (h2 := inB h) (op_ok (h1 := inB h) (h2 := inB h) rfl rfl (by rw [modI (j := 2147483647) (by decide), ← hmx])) rfl (m7 _)) rfl (modI (by decide)))
end Std2
end VI
end
section
namespace VI
open PySem PySem.Spec PyProof.Rows L2
section
variable {prog : Program} {w : World} {A : Around} {E : Value → Shared → Prop} {s : Shared}
theorem rev_pick (xs : Array Value) : ((List.range xs.size).filterMap fun (m : Nat) => xs[(((xs.size : Int) - 1) + (m : Int) * (-1)).toNat]?).toArray = xs.toList.reverse.toArray := by
  congr 1
  have e : ∀ m, m ∈ List.range xs.size → xs[(((xs.size : Int) - 1) + (m : Int) * (-1)).toNat]? = xs.toList.reverse[m]? := by
    intro m hm
    have hm := List.mem_range.mp hm
    rw [List.getElem?_reverse (by rw [Array.length_toList]; exact hm), Array.length_toList, Array.getElem?_toList]
    congr 1
    omega
  have e2 : (List.range xs.size).filterMap (fun (m : Nat) => xs[(((xs.size : Int) - 1) + (m : Int) * (-1)).toNat]?) = (List.range xs.size).filterMap fun m => xs.toList.reverse[m]? := by
    have cg : ∀ (l : List Nat) (f g : Nat → Option Value), (∀ m ∈ l, f m = g m) → l.filterMap f = l.filterMap g := by
      intro l f g
      induction l with
      | nil => intro _; rfl
      | cons x l ih =>
        intro q
        rw [List.filterMap_cons, List.filterMap_cons, q x List.mem_cons_self, ih fun m hm => q m (List.mem_cons_of_mem _ hm)]
    exact cg _ _ _ e
  rw [e2]
  have key : ∀ l : List Value, (List.range l.length).filterMap (fun m => l[m]?) = l := by
    intro l
    induction l with
    | nil => rfl
    | cons x l ih =>
      rw [List.length_cons, List.range_succ_eq_map, List.filterMap_cons, List.filterMap_map]
      simp only [List.getElem?_cons_zero]
      congr 1
  have hk := key xs.toList.reverse
  rw [List.length_reverse, Array.length_toList] at hk
  exact hk
theorem applied_rev {sl : Addr} {vl vu vs : Value} {n : Nat} {Q : Int × Int × Nat → Shared → Prop} (hs : s.heap.IsSliceOf sl vl vu vs) (pl : IsPart vl none) (pu : IsPart vu none) (ps : IsPart vs (some (-1)))
    (h : Q ((n : Int) - 1, -1, n) s) : wpAny (model prog w) A (Builtin.Slice.sliceApplied (.ref sl) (pure (n : Int))) Q E s := by
  obtain ⟨os, hos, hcs, hds⟩ := id hs
  unfold Builtin.Slice.sliceApplied Builtin.Slice.sliceFields
  refine wpAny_bind (wpAny_bind (wpAny_field hos hds (x := vl) rfl (wpAny_bind (wpAny_field hos hds (x := vu) rfl (wpAny_bind (wpAny_field hos hds (x := vs) rfl (wpAny_pure ?_)))))))
  refine wpAny_bind (HT.slicePart_ ps ?_)
  show wpAny _ _ (if ((-1 : Int) == 0) = true then _ else _) _ _ s
  rw [if_neg (by decide)]
  refine wpAny_bind (HT.slicePart_ pl (wpAny_bind (HT.slicePart_ pu (wpAny_bind (wpAny_pure ?_)))))
  show wpAny _ _ (match Builtin.Slice.sliceAdjust none none (-1) (n : Int) with | (lo, hi) => pure (lo, (-1 : Int), Builtin.Slice.slicePlaces lo hi (-1))) _ _ s
  have e : Builtin.Slice.sliceAdjust none none (-1) (n : Int) = ((n : Int) - 1, -1) := by
    unfold Builtin.Slice.sliceAdjust
    simp
  rw [e]
  have e2 : Builtin.Slice.slicePlaces ((n : Int) - 1) (-1) (-1) = n := by
    unfold Builtin.Slice.slicePlaces
    have h1 : ¬ ((-1 : Int) > 0) := by omega
    simp only [h1, if_false, Int.neg_neg, Int.ediv_one]
    split <;> omega
  show wpAny _ _ (pure ((n : Int) - 1, (-1 : Int), Builtin.Slice.slicePlaces ((n : Int) - 1) (-1) (-1))) _ _ s
  rw [e2]
  exact wpAny_pure h
theorem getItem_tuple_rev {t sl : Addr} {items : Array Value} {vl vu vs : Value} {Q : Value → Shared → Prop} (ht : IsTup s.heap t items) (hs : s.heap.IsSliceOf sl vl vu vs) (pl : IsPart vl none) (pu : IsPart vu none) (ps : IsPart vs (some (-1)))
    (h : Q (.ref s.heap.objs.size) { s with heap := s.heap.push { cls := .type "tuple", data := .seq items.toList.reverse.toArray } })
    (hsz : items.size ≤ sizeLine) : wpAny (model prog w) A (getItem (.ref t) (.ref sl)) Q E s := by
  have htake : sizeOk (.seq items.toList.reverse.toArray) := by
    show items.toList.reverse.toArray.size ≤ sizeLine
    rw [List.size_toArray, List.length_reverse, Array.length_toList]
    exact hsz
  obtain ⟨os, hos, hcs, hds⟩ := id hs
  have hTs : s.TypeIs (.ref sl) "slice" := ⟨os, hos, hcs⟩
  unfold getItem
  try with_reducible refine wpAny_holding ?_
  first | refine wpAny_bind (wpAny_pure ?_) | skip
  refine wpAny_bind (wpAny_sequenceKey ht.typeIs (by decide) ?_)
  refine wpAny_bind (wpAny_callSpecial?_slot (name := Str.ofString "__getitem__") ht.typeIs PyProof.Rows.slot_tuple_getitem
    (wpAny_call_entry PyProof.Rows.slot_tuple_getitem ht.typeIs entry_tuple_getitem ?_ (args_tuple_getitem _ _)))
  show wpAny _ _ (Builtin.Tuple.tupleItemsOf (.ref t) >>= _) _ _ s
  refine wpAny_bind (tupleItemsOf_ ht ?_)
  refine wpAny_bind (wpAny_typeOf hTs ?_)
  rw [if_pos (by decide)]
  refine wpAny_bind (applied_rev hs pl pu ps ?_)
  have hno : ¬ ((((items.size : Int) - 1) == 0 && (-1 : Int) == 1 && items.size == items.size) = true) := by
    intro q
    rw [Bool.and_eq_true, Bool.and_eq_true] at q
    exact absurd q.1.2 (by decide)
  show wpAny _ _ (if (((items.size : Int) - 1) == 0 && (-1 : Int) == 1 && items.size == items.size) = true then _ else _) _ _ s
  rw [if_neg hno, rev_pick]
  first
    | exact wpAny_bind (m := Builtin.Tuple.tupleExact _) (wpAny_newObj_type (wpAny_pure ⟨_, rfl, wpAny_pure h⟩) htake)
    | exact wpAny_bind (m := Builtin.Tuple.tupleExact _) (wpAny_newObj_type (wpAny_bind (wpAny_pure (wpAny_pure ⟨_, rfl, wpAny_pure h⟩))) htake)
    | exact wpAny_bind (wpAny_bind (m := Builtin.Tuple.tupleExact _) (wpAny_newObj_type (wpAny_pure (wpAny_pure ⟨_, rfl, wpAny_pure h⟩)) htake))
    | exact wpAny_bind (wpAny_bind (m := Builtin.Tuple.tupleExact _) (wpAny_newObj_type (wpAny_pure ⟨_, rfl, wpAny_pure h⟩) htake))
end
section
variable {X : Cx}
def tRevT (K : PySem.W.Frag) (te : TE) : TE := fun σ H Q => te σ H fun x H1 => ∃ a xs, x = .ref a ∧ SqT K H1 a xs ∧ ToP H1 xs.reverse Q
theorem pe_revT {e : Expr} {te : TE} {k : Nat} {p1 p2 p3 pos : Pos} (he : PE X e te) : PE X (.Subscript e (.Slice none none (some (.UnaryOp .USub (.Constant (.int 1) k p1) p2)) p3) pos) (tRevT X.K te) := by
  refine ⟨fun pins s σ H Q I h => ?_⟩
  refine Subscript_ (thn (he.run pins s σ H _ I h) fun v s1 ⟨x, H1, I1, r1, q1⟩ => ?_)
  obtain ⟨a, xs, ex, hx, q⟩ := q1
  subst ex
  cases r1
  have hst : PO X (some (.UnaryOp .USub (.Constant (.int 1) k p1) p2)) (tPart (tUn (rU fun i => .int (-i)) (tC (.int 1)))) := po_some (pe_un un_neg pe_int)
  refine wpAny_Slice (thn (po_none.run pins s1 σ H1 (fun o H2 => o = none ∧ H2 = H1) I1 ⟨rfl, rfl⟩) fun vl s2 ⟨l, H2, I2, pl, el, e2⟩ => ?_)
  subst el e2
  refine thn (po_none.run pins s2 σ H2 (fun o H3 => o = none ∧ H3 = H2) I2 ⟨rfl, rfl⟩) fun vu s3 ⟨u, H3, I3, pu, eu, e3⟩ => ?_
  subst eu e3
  refine thn (hst.run pins s3 σ H3 (fun o H4 => o = some (-1) ∧ H4 = H3) I3 ⟨1, rfl, -1, rfl, rfl, rfl⟩) fun vs s4 ⟨o, H4, I4, ps, eo, e4⟩ => ?_
  subst eo e4
  have I5 : Inv X pins σ H4 { s4 with heap := s4.heap.push { cls := .type "slice", data := .fields #[vl, vu, vs] } } := I4.kept (t' := s4.toks) fun b ob q => Heap.get?_push_of_some _ q
  obtain ⟨its, r, ht, hz⟩ := I5.tuple hx
  have hlen := r.length
  show wpAny (model X.prog X.w) X.A (subscriptTail e (.Slice none none (some (.UnaryOp .USub (.Constant (.int 1) k p1) p2)) p3) (.ref a) (.ref s4.heap.objs.size)) (EP X pins σ Q) X.xe { s4 with heap := s4.heap.push { cls := .type "slice", data := .fields #[vl, vu, vs] } }
  refine tail_any (ops := [.ref a, .ref s4.heap.objs.size]) ht.typeIs (PyProof.Rows.slot_tuple_getitem.lookup) ?_ (by with_unfolding_all rfl)
  refine getItem_tuple_rev ht (Heap.IsSliceOf.new _ vl vu vs) pl pu ps ?_ (by rw [List.size_toArray]; omega)
  exact laidP I5 (by rw [List.length_reverse]; exact hz) r.reverse q
variable {T : Tb} {W : WX}
def revX (bx : Bool) (d : D) (h : Bs) : R D := match d with
  | .tpl xs => newP xs.reverse h
  | _ => revD bx d h
theorem pv_revX {bx : Bool} {e : Expr} {k : Nat} {p1 p2 p3 pos : Pos} {s : SV} (hK : X.K = T.K) (he : PE X e (tV T W s)) : PE X (.Subscript e (.Slice none none (some (.UnaryOp .USub (.Constant (.int 1) k p1) p2)) p3) pos) (tV T W (sUn (revX bx) s)) := by
  refine ⟨fun pins s' σ H Q I ⟨μ, ρ, h, r, e, o⟩ => ?_⟩
  have h1 := pv_rev (bx := bx) (k := k) (p1 := p1) (p2 := p2) (p3 := p3) (pos := pos) hK he
  have h2 := pe_revT (k := k) (p1 := p1) (p2 := p2) (p3 := p3) (pos := pos) he
  cases q : s ρ h with
  | no => exact h1.run pins s' σ H Q I ⟨μ, ρ, h, r, e, by unfold sUn at o ⊢; rw [q] at o ⊢; exact o⟩
  | ex x h' => exact h1.run pins s' σ H Q I ⟨μ, ρ, h, r, e, by unfold sUn at o ⊢; rw [q] at o ⊢; exact o⟩
  | ok d h' =>
    by_cases hd : ∃ xs, d = .tpl xs
    · obtain ⟨xs, rfl⟩ := hd
      refine h2.run pins s' σ H Q I ⟨μ, ρ, h, r, e, ?_⟩
      have o1 := OutV.bind (show OutV T W σ μ H Q ((s ρ h).bind fun d h => revX bx d h) from o)
      rw [q] at o1 ⊢
      intro μ1 H1 v s1 r1 rv
      obtain ⟨a, ob, vs, e1, e2, e3, e4, e5⟩ := rv.tplOf
      have o2 : OutV T W σ μ1 H1 Q (newP xs.reverse h') := by
        unfold sUn at o
        rw [q] at o
        exact OutV.step (show OutV T W σ μ H Q (newP xs.reverse h') from o) s1
      exact ⟨a, vs, e1, SqT.fz e2, (newP_ok r1 e5.reverse o2).2⟩
    · refine h1.run pins s' σ H Q I ⟨μ, ρ, h, r, e, ?_⟩
      unfold sUn at o ⊢
      rw [q] at o ⊢
      have e5 : revX bx d h' = revD bx d h' := by
        cases d with
        | tpl xs => exact absurd ⟨xs, rfl⟩ hd
        | _ => rfl
      show OutV T W σ μ H Q (revD bx d h')
      rw [← e5]
      exact o
end
end VI
end
section
namespace VI
open PySem PySem.Spec PyProof.Rows L2
section
variable {ρ : Ev} {h h1 h2 : Bs} {a b : Bool} {sa sb sc : SV}
theorem or_ok (e1 : sa ρ h = .ok (.bl a) h) (e2 : a = false → sb ρ h = .ok (.bl b) h) : sOr sa sb ρ h = .ok (.bl (a || b)) h := by
  unfold sOr sTru
  rw [e1]
  cases a with
  | true => rfl
  | false => rw [Bool.false_or]; simp -implicitDefEqProofs only [bind_ok, truth, e2 rfl, Bool.false_eq_true, if_false]
theorem and_ok (e1 : sa ρ h = .ok (.bl a) h) (e2 : a = true → sb ρ h = .ok (.bl b) h) : sAnd sa sb ρ h = .ok (.bl (a && b)) h := by
  unfold sAnd sTru
  rw [e1]
  cases a with
  | false => rfl
  | true => rw [Bool.true_and]; simp -implicitDefEqProofs only [bind_ok, truth, e2 rfl, if_true]
theorem not_ok (e1 : sa ρ h = .ok (.bl a) h1) : sNot sa ρ h = .ok (.bl (!a)) h1 := by
  simp -implicitDefEqProofs only [sNot, sTru, e1, bind_ok, truth]
theorem tru_ok (e1 : sa ρ h = .ok (.bl a) h1) : sTru sa ρ h = .ok a h1 := by
  simp -implicitDefEqProofs only [sTru, e1, bind_ok, truth]
theorem lst_ok {sx : SA} {xs : List D} (e1 : sx ρ h = .ok xs h1) (hl : xs.length ≤ sizeLine) : sLst false sx ρ h = .ok (.lst xs) h1 := by
  simp -implicitDefEqProofs only [sLst, e1, bind_ok, newL_f hl]
theorem any_bls {bs : List Bool} : anyD' [.lst (bs.map .bl)] h = .ok (.bl (bs.any id)) h := by
  simp only [anyD, lstOf, blsD_map]
theorem for_rt {it : SI} {g : SG} {b : SS} {d : D} {xs : List D} (e1 : it ρ h = .ok (xs, none) h1) (e2 : loopS g b xs ρ h1 = .rt d h2) : ssFor it g b ρ h = .rt d h2 := by
  simp -implicitDefEqProofs only [ssFor, e1, toF_ok, lockO_none, e2]
  rfl
theorem cons_rt {s t : SS} {d : D} (e : s ρ h = .rt d h1) : ssCons s t ρ h = .rt d h1 := by
  simp -implicitDefEqProofs only [ssCons, e, Fbind_rt]
theorem loop_rt {g : SG} {body : SS} {d r : D} {ds : List D} {ρ1 : Ev} (e1 : g d ρ h = .ok ρ1 h1) (e2 : body ρ1 h1 = .rt r h2) : loopS g body (d :: ds) ρ h = .rt r h2 := by
  simp -implicitDefEqProofs only [loopS, e1, e2]
end
def pT (p : Int × Int) : D := .tup [.int p.1, .int p.2]
end VI
end
section
namespace VI
open PySem PySem.Spec PyProof.Rows L2
section
variable {X : Cx} {T : Tb} {W : WX} {μ : Mu} {H : Hp}
end
section
variable {Z : Cfg} {t : Tx} {k : Nat} {N : List Str} {sc : Scope} {raw : Option Scope} {X : Cx} {W : WX} {x y z : Str} {a b c : Expr}
end
end VI
end
section
namespace VI
open PySem PySem.Spec PyProof.Rows L2
abbrev pI (l : List Int) : D := .tpl (l.map .int)
def at' (l : List Int) (i : Nat) : Int := l.getD i 0
theorem at_get {l : List Int} {i : Nat} (h : i < l.length) : l[i]? = some (at' l i) := by
  unfold at'
  rw [List.getD_eq_getElem?_getD, List.getElem?_eq_getElem h]
  rfl
theorem atI_nat {l : List Int} {i : Nat} (h : i < l.length) : atI (l.map D.int) (i : Int) = some (.int (at' l i)) := by
  unfold atI
  rw [List.length_map, show ixN l.length (i : Int) = some i by unfold ixN; rw [if_pos (by omega), if_pos (by omega)]; simp]
  show (List.map D.int l)[i]? = _
  simp only [List.getElem?_map, at_get h, Option.map_some]
section
variable {h : Bs}
def IsX (d : D) (X : List Int) : Prop := d = pI X ∨ d = lI X
theorem IsX.seq {d : D} {X : List Int} (i : IsX d X) : seqOf h d = some (X.map .int) := by
  rcases i with rfl | rfl <;> rfl
theorem IsX.len {d : D} {X : List Int} (i : IsX d X) : lenD [d] h = .ok (.int X.length) h := by
  rcases i with rfl | rfl <;> simp only [lenD, seqOf, lstOf, List.length_map]
theorem IsX.sum {d : D} {X : List Int} (i : IsX d X) : sumD [d] h = .ok (.int X.sum) h := by
  rcases i with rfl | rfl <;> simp only [sumD, seqOf, lstOf, intsD_map]
def minI : List Int → Int
  | [] => 0
  | x :: xs => minFold x xs
theorem IsX.min {d : D} {X : List Int} (i : IsX d X) (hX : X ≠ []) : minDS [d] h = .ok (.int (minI X)) h := by
  match X, hX with
  | x :: xs, _ =>
    rcases i with rfl | rfl <;> simp only [minDS, mmD, seqOf, lstOf, intsD_map] <;> rfl
theorem rng_ok {n : Nat} (hn : n < 2 ^ 24) : itRng1 [.int n] h = .ok ((List.range n).map (fun (i : Nat) => D.int i), none) h := by
  unfold itRng1
  show (if _ then R.ok (rngItems 0 ((n : Int)).toNat, none) h else .no) = _
  rw [if_pos (by constructor <;> omega), show ((n : Int)).toNat = n by omega]
  unfold rngItems
  congr 2
  refine List.map_congr_left fun i _ => ?_
  show D.int (0 + (i : Int)) = _
  rw [Int.zero_add]
theorem isi_int (K : PySem.W.Frag) (ct : Ct) (x : Int) (u : Nat) (hu : u < 3) : isiD (tbC ct K) u (.int x) h = .ok (.bl (2 == u)) h := by
  have : u = 0 ∨ u = 1 ∨ u = 2 := by omega
  rcases this with rfl | rfl | rfl <;> rfl
def isNum (T : Tb) : SS := (ssCons (ssRet (sAnd (sUn (isiD T 2) (sVar 0)) (sAnd (sNot (sUn (isiD T 1) (sVar 0))) (sChn leS leS (sVar 1) (sVar 0) (sVar 2))))) ssNil)
theorem num_ok {K : PySem.W.Frag} {ct : Ct} {x a b : Int} : runFn 3 3 (isNum (tbC ct K)) [.int x, .int a, .int b] h = .ok (.bl (decide (a ≤ x) && decide (x ≤ b))) h := by
  refine run_rt rfl ?_ rfl
  have hsl : slots 3 [.int x, .int a, .int b] = [some (.int x), some (.int a), some (.int b)] := rfl
  rw [hsl]
  unfold isNum
  have e1 : (2 == 2) = true := rfl
  have e2 : (2 == 1) = false := rfl
  simp -implicitDefEqProofs only [ssCons, ssRet, sAnd, sNot, sTru, sUn, sVar, List.getElem?_cons_succ, List.getElem?_cons_zero, bind_ok, isi_int K ct x 2 (by decide), isi_int K ct x 1 (by decide), e1, e2, truth, if_true, Bool.not_false, sChn, leS, cmpS]
  by_cases q : a ≤ x
  · simp -implicitDefEqProofs only [q, decide_true, bind_ok, truth, toF_ok, Fbind_rt, Bool.true_and]
  · simp -implicitDefEqProofs only [q, decide_false, bind_ok, truth, toF_ok, Fbind_rt, Bool.false_and]
end
end VI
end
section
namespace VI
open PySem PySem.Spec PyProof.Rows L2 VI.Std
section
variable {b : Nat} {ns : List Int} {k : Int} {h : Bs}
theorem minD2 {i j : Int} : minDS [.int i, .int j] h = .ok (.int (if j < i then j else i)) h := rfl
theorem slOk {bx : Bool} {s : SV} {l u : SO} {ρ : Ev} {d : D} {lo hi : Option Int} {r : R D} (e1 : s ρ h = .ok d h) (e2 : l ρ h = .ok lo h) (e3 : u ρ h = .ok hi h) (e4 : slD bx d lo hi h = r) : sSl bx s l u ρ h = r := by
  simp -implicitDefEqProofs only [sSl, e1, e2, e3, e4, bind_ok]
theorem soOk {s : SV} {ρ : Ev} {i : Int} (e : s ρ h = .ok (.int i) h) : soSome s ρ h = .ok (some i) h := by
  simp -implicitDefEqProofs only [soSome, e, bind_ok]
theorem addL {X Y : List Int} (hl : X.length + Y.length ≤ sizeLine) : addD false (lI X) (lI Y) h = .ok (lI (X ++ Y)) h := by
  show newL false (X.map .int ++ Y.map .int) h = _
  rw [← List.map_append, newL_f (by rw [List.length_map, List.length_append]; exact hl)]
end
end VI
end
section
namespace VI
open PySem PySem.Spec PyProof.Rows L2
section
variable {X : Cx} {σ : Sg} {H : Hp} {s : Shared} {pins : List (Addr × Obj)}
end
section
variable {X : Cx} {T : Tb} {W : WX} {μ μ' : Mu} {H H' : Hp} {h : Bs} {σ : Sg} {ρ : Ev}
end
end VI
end
section
namespace VI
open PySem PySem.Spec PyProof.Rows L2
structure LX (Z : Cfg) (ti : Nat) (X : Cx) : Prop where
  code : ∃ c, X.env.code = .ref c ∧ LamX.TabB Z.base Z.mg c (Z.T.tab ti).1
  qual : X.env.qual ++ "<lambda>" = (Z.T.tab ti).2
section
variable {Z : Cfg} {t : Tx} {k : Nat} {N : List Str} {sc : Scope} {raw : Option Scope} {X : Cx} {W : WX} {pos p : Pos} {a : Expr} {sa : SV} {x y : Str}
end
def tabsA (c : Ct) (K : PySem.W.Frag) : List Addr := c.tab.map fun p => (He.cT K p.1).2
structure SaysT (c : Ct) (fa : List He.Fa) (fn : List He.DefD) (h : Heap) (K : PySem.W.Frag) : Prop where
  says : SaysC c fa fn K
  hd : ∀ p ∈ c.tab, PySem.W.codeHdIn K (He.cT K p.1).1 (He.cT K p.1).2 = true
  out : ∀ p ∈ c.tab, K.lookup (He.cT K p.1).2 = none
  empty : ∀ p ∈ c.tab, h.get? (He.cT K p.1).2 = some { cls := .none, data := .fields #[] }
  nd : (tabsA c K).Nodup
end VI
end
section
namespace VI
open PySem PySem.Spec PyProof.Rows L2
section
variable {X : Cx} {T : Tb} {μ μ' : Mu} {H H' : Hp} {h : Bs} {σ : Sg} {ρ : Ev}
end
section
variable {prog : Program} {w : World} {A : Around} {E : Value → Shared → Prop} {s : Shared} {K : PySem.W.Frag} {x C f : Addr} {ox : Obj} {od : Option Obj} {b tb : Value}
end
section
variable {X : Cx} {T : Tb} {W : WX} {μ μ' : Mu} {H H' : Hp} {h : Bs} {σ : Sg} {ρ : Ev}
end
section
variable {Z : Cfg} {t : Tx} {k j : Nat} {N : List Str} {sc : Scope} {raw : Option Scope} {X : Cx} {W : WX} {pos p : Pos} {a b c : Expr} {sa sb s3 : SV} {l : MTab}
end
end VI
end
section
namespace VI
open PySem PySem.Spec PyProof.Rows L2
section
variable {X : Cx}
def tRevU (K : PySem.W.Frag) (te : TE) : TE := fun σ H Q => te σ H fun x H1 => ∃ a xs, x = .ref a ∧ SqT K H1 a xs ∧ ∀ p, H1 p = none → Q (.ref p) (upd H1 p (.tup xs.reverse))
theorem pe_revU {e : Expr} {te : TE} {k : Nat} {p1 p2 p3 pos : Pos} (he : PE X e te) : PE X (.Subscript e (.Slice none none (some (.UnaryOp .USub (.Constant (.int 1) k p1) p2)) p3) pos) (tRevU X.K te) := by
  refine ⟨fun pins s σ H Q I h => Subscript_ (thn (he.run pins s σ H _ I h) fun v s1 ⟨x, H1, I1, r1, q1⟩ => ?_)⟩
  obtain ⟨a, xs, ex, hx, q⟩ := q1
  subst ex
  cases r1
  have hst : PO X (some (.UnaryOp .USub (.Constant (.int 1) k p1) p2)) (tPart (tUn (rU fun i => .int (-i)) (tC (.int 1)))) := po_some (pe_un un_neg pe_int)
  refine wpAny_Slice (thn (po_none.run pins s1 σ H1 (fun o H2 => o = none ∧ H2 = H1) I1 ⟨rfl, rfl⟩) fun vl s2 ⟨l, H2, I2, pl, el, e2⟩ => ?_)
  subst el e2
  refine thn (po_none.run pins s2 σ H2 (fun o H3 => o = none ∧ H3 = H2) I2 ⟨rfl, rfl⟩) fun vu s3 ⟨u, H3, I3, pu, eu, e3⟩ => ?_
  subst eu e3
  refine thn (hst.run pins s3 σ H3 (fun o H4 => o = some (-1) ∧ H4 = H3) I3 ⟨1, rfl, -1, rfl, rfl, rfl⟩) fun vs s4 ⟨o, H4, I4, ps, eo, e4⟩ => ?_
  subst eo e4
  have I5 : Inv X pins σ H4 { s4 with heap := s4.heap.push { cls := .type "slice", data := .fields #[vl, vu, vs] } } := I4.kept (t' := s4.toks) fun b ob q => Heap.get?_push_of_some _ q
  obtain ⟨its, r, ht, hz⟩ := I5.tuple hx
  have hlen := r.length
  show wpAny (model X.prog X.w) X.A (subscriptTail e (.Slice none none (some (.UnaryOp .USub (.Constant (.int 1) k p1) p2)) p3) (.ref a) (.ref s4.heap.objs.size)) (EP X pins σ Q) X.xe { s4 with heap := s4.heap.push { cls := .type "slice", data := .fields #[vl, vu, vs] } }
  refine tail_any (ops := [.ref a, .ref s4.heap.objs.size]) ht.typeIs (PyProof.Rows.slot_tuple_getitem.lookup) ?_ (by with_unfolding_all rfl)
  refine getItem_tuple_rev ht (Heap.IsSliceOf.new _ vl vu vs) pl pu ps ?_ (by rw [List.size_toArray]; omega)
  refine ⟨.ref _, upd H4 _ (.tup xs.reverse), I5.laid (t' := s4.toks) (fun _ _ z => Heap.get?_push_of_some _ z) (Nat.le_refl _) ⟨by rw [List.length_reverse]; exact hz, its.reverse, r.reverse, ?_⟩, rfl, q _ (I5.hok.fresh (Nat.le_refl _))⟩
  have e : its.toArray.toList.reverse = its.reverse := by simp
  rw [e]
  exact IsTup.new _ _
variable {T : Tb} {W : WX}
def revY (bx : Bool) (d : D) (h : Bs) : R D := match d with
  | .tup xs => newT xs.reverse h
  | _ => revX bx d h
theorem pv_revY {bx : Bool} {e : Expr} {k : Nat} {p1 p2 p3 pos : Pos} {s : SV} (hK : X.K = T.K) (he : PE X e (tV T W s)) : PE X (.Subscript e (.Slice none none (some (.UnaryOp .USub (.Constant (.int 1) k p1) p2)) p3) pos) (tV T W (sUn (revY bx) s)) := by
  refine ⟨fun pins s' σ H Q I ⟨μ, ρ, h, r, e, o⟩ => ?_⟩
  have h1 := pv_revX (bx := bx) (k := k) (p1 := p1) (p2 := p2) (p3 := p3) (pos := pos) hK he
  have h2 := pe_revU (k := k) (p1 := p1) (p2 := p2) (p3 := p3) (pos := pos) he
  cases q : s ρ h with
  | no => exact h1.run pins s' σ H Q I ⟨μ, ρ, h, r, e, by unfold sUn at o ⊢; rw [q] at o ⊢; exact o⟩
  | ex x h' => exact h1.run pins s' σ H Q I ⟨μ, ρ, h, r, e, by unfold sUn at o ⊢; rw [q] at o ⊢; exact o⟩
  | ok d h' =>
    by_cases hd : ∃ xs, d = .tup xs
    · obtain ⟨xs, rfl⟩ := hd
      refine h2.run pins s' σ H Q I ⟨μ, ρ, h, r, e, ?_⟩
      have o1 := OutV.bind (show OutV T W σ μ H Q ((s ρ h).bind fun d h => revY bx d h) from o)
      rw [q] at o1 ⊢
      intro μ1 H1 v s1 r1 rv
      obtain ⟨a, vs, e1, e2, e4, e5⟩ := rv.tupOf
      have o2 : OutV T W σ μ1 H1 Q (newT xs.reverse h') := by
        unfold sUn at o
        rw [q] at o
        exact OutV.step (show OutV T W σ μ H Q (newT xs.reverse h') from o) s1
      exact ⟨a, vs, e1, .inl (.inl e2), (newT_ok r1 e5.reverse o2).2⟩
    · refine h1.run pins s' σ H Q I ⟨μ, ρ, h, r, e, ?_⟩
      unfold sUn at o ⊢
      rw [q] at o ⊢
      have e5 : revY bx d h' = revX bx d h' := by
        cases d with
        | tup xs => exact absurd ⟨xs, rfl⟩ hd
        | _ => rfl
      show OutV T W σ μ H Q (revX bx d h')
      rw [← e5]
      exact o
end
end VI
end
section
namespace VI
open PySem PySem.Spec PyProof.Rows L2
section
variable {prog : Program} {w : World} {A : Around} {E : Value → Shared → Prop} {s : Shared} {K : PySem.W.Frag} {x C f : Addr} {ox : Obj} {od : Option Obj} {b tb : Value}
end
section
variable {X : Cx} {T : Tb} {W : WX} {μ μ' : Mu} {H H' : Hp} {h : Bs} {σ : Sg} {ρ : Ev}
end
section
variable {Z : Cfg} {t : Tx} {k j : Nat} {N : List Str} {sc : Scope} {raw : Option Scope} {X : Cx} {W : WX} {pos p : Pos} {a b c : Expr} {sa sb s3 : SV} {l : MTab}
end
end VI
end
section
namespace VI
open PySem PySem.Spec PyProof.Rows L2
def freeL (i : Nat) (ρ : Ev) (h : Bs) : Option Nat := match ρ[i]? with
  | some (some (.ref b)) => (match h.bs[b]? with
    | some (.lst false _) => some b
    | _ => none)
  | _ => none
def unlLF (l : Option Nat) (f : F) : F := match f with
  | .nx ρ h => .nx ρ (unlO l h)
  | .bk ρ h => .bk ρ (unlO l h)
  | .ct ρ h => .ct ρ (unlO l h)
  | .rt d h => .rt d (unlO l h)
  | _ => .no
def unlLR (l : Option Nat) (f : R D) : R D := match f with
  | .ok d h => .ok d (unlO l h)
  | _ => .no
def ssLkL (i : Nat) (s : SS) : SS := fun ρ h => match freeL i ρ h with
  | some b => unlLF (some b) (s ρ (lockO (some b) h))
  | none => s ρ h
def sLkL (i : Nat) (s : SV) : SV := fun ρ h => match freeL i ρ h with
  | some b => unlLR (some b) (s ρ (lockO (some b) h))
  | none => s ρ h
section
variable {X : Cx} {T : Tb} {W : WX} {μ μ' : Mu} {H H' : Hp} {h : Bs} {σ : Sg} {ρ : Ev}
theorem freeL_ok (r : Rel T μ h H) (e : RepE T μ H ρ σ) {i b : Nat} (f : freeL i ρ h = some b) : ∃ a xs vs, h.bs[b]? = some (.lst false xs) ∧ μ.ad[b]? = some a ∧ H a = some (.lst vs) ∧ a ∉ μ.lk := by
  unfold freeL at f
  split at f
  · rename_i b' hρ
    split at f
    · rename_i xs hb
      cases f
      obtain ⟨v, _, rv⟩ := e.2 i _ hρ
      simp only [Rep] at rv
      obtain ⟨a, e1, _⟩ := rv
      obtain ⟨vs, e3, e5⟩ := r.at_ _ _ a hb e1
      exact ⟨a, xs, vs, hb, e1, by simpa using e3, r.free e1 fun x e => by rw [hb] at e; cases e; rfl⟩
    · cases f
  · cases f
theorem RepE.lkm (e : RepE T μ H ρ σ) {lk : List Addr} : RepE T { μ with lk := lk } H ρ σ := RepE.ad (μ := μ) (μ' := { μ with lk := lk }) rfl rfl e
theorem Rep.lkm {d : D} {v : V} (e : Rep T μ H d v) {lk : List Addr} : Rep T { μ with lk := lk } H d v := Rep.ad (μ := μ) (μ' := { μ with lk := lk }) rfl rfl _ _ e
theorem lockMu_some {b : Nat} {a : Addr} (e : μ.ad[b]? = some a) : ∃ lk, lockMu μ (some b) = { μ with lk := lk } := by
  unfold lockMu
  first
  | exact ⟨_, rfl⟩
  | (simp only [e]; exact ⟨_, rfl⟩)
theorem psv_lkL {st : Stmt} {s : SS} (i : Nat) (hp : PS X st (tS' T W s)) : PS X st (tS' T W (ssLkL i s)) :=
  PS.imp hp fun D σ H ⟨μ, ρ, h, r, e, o⟩ => by
    unfold ssLkL at o
    split at o
    · rename_i b hf
      obtain ⟨a, xs, vs, hb, ha, hv, na⟩ := freeL_ok r e hf
      obtain ⟨lk, el⟩ := lockMu_some ha
      have hl : ∀ c, some b = some c → ∃ a, μ.ad[c]? = some a ∧ a ∉ μ.lk ∧ ∃ vs, H a = some (.lst vs) := fun c z => by cases z; exact ⟨a, ha, na, vs, hv⟩
      have r' := r.lock (some b) (fun c z => by cases z; exact ⟨_, _, hb⟩)
      refine ⟨lockMu μ (some b), ρ, lockO (some b) h, r', by rw [el]; exact e.lkm, ?_⟩
      cases z : s ρ (lockO (some b) h) with
      | nx ρ1 h1 =>
        rw [z] at o
        intro μ1 H1 σ1 s1 r1 e1
        obtain ⟨g1, g2⟩ := Rel.unlock (some b) hl s1 r1
        exact o _ _ σ1 g2 g1 e1.lkm
      | bk ρ1 h1 =>
        rw [z] at o
        intro μ1 H1 σ1 s1 r1 e1
        obtain ⟨g1, g2⟩ := Rel.unlock (some b) hl s1 r1
        exact o _ _ σ1 g2 g1 e1.lkm
      | ct ρ1 h1 =>
        rw [z] at o
        intro μ1 H1 σ1 s1 r1 e1
        obtain ⟨g1, g2⟩ := Rel.unlock (some b) hl s1 r1
        exact o _ _ σ1 g2 g1 e1.lkm
      | rt d h1 =>
        rw [z] at o
        intro μ1 H1 v s1 r1 e1
        obtain ⟨g1, g2⟩ := Rel.unlock (some b) hl s1 r1
        exact o _ _ v g2 g1 e1.lkm
      | ex x ρ1 h1 => rw [z] at o; exact o.elim
      | no => rw [z] at o; exact o.elim
    · exact ⟨μ, ρ, h, r, e, o⟩
theorem pv_lkL {e : Expr} {s : SV} (i : Nat) (hp : PE X e (tV T W s)) : PE X e (tV T W (sLkL i s)) :=
  PE.imp hp fun σ H Q ⟨μ, ρ, h, r, e, o⟩ => by
    unfold sLkL at o
    split at o
    · rename_i b hf
      obtain ⟨a, xs, vs, hb, ha, hv, na⟩ := freeL_ok r e hf
      obtain ⟨lk, el⟩ := lockMu_some ha
      have hl : ∀ c, some b = some c → ∃ a, μ.ad[c]? = some a ∧ a ∉ μ.lk ∧ ∃ vs, H a = some (.lst vs) := fun c z => by cases z; exact ⟨a, ha, na, vs, hv⟩
      have r' := r.lock (some b) (fun c z => by cases z; exact ⟨_, _, hb⟩)
      refine ⟨lockMu μ (some b), ρ, lockO (some b) h, r', by rw [el]; exact e.lkm, ?_⟩
      cases z : s ρ (lockO (some b) h) with
      | ok d h1 =>
        rw [z] at o
        intro μ1 H1 v s1 r1 e1
        obtain ⟨g1, g2⟩ := Rel.unlock (some b) hl s1 r1
        exact o _ _ v g2 g1 e1.lkm
      | ex x h1 => rw [z] at o; exact o.elim
      | no => rw [z] at o; exact o.elim
    · exact ⟨μ, ρ, h, r, e, o⟩
end
end VI
end
section
namespace VI
open PySem PySem.Spec PyProof.Rows L2
section
variable {X : Cx} {pins : List (Addr × Obj)} {σ : Sg} {H : Hp} {sI s' : Shared} {B : Heap} {a : Addr} {oe : Obj} {vs : Array Value}
end
section
variable {X : Cx} {x n : Str} {c : Value} {i : Nat} {body suite : List Stmt} {b₀ : Stmt} {np pos pos' : Pos} {tb : WX → TS} {ts : TS} {Wout : WX}
end
section
variable {X : Cx} {T : Tb} {W : WX} {μ μ' : Mu} {H H' : Hp} {h : Bs} {σ : Sg} {ρ : Ev}
end
structure XH (Z : Cfg) (t : Tx) (k : Nat) (N₀ : List Str) (sc₀ : Scope) (raw : Option Scope) (X : Cx) : Prop where
  z : Z.Ok t
  prog : X.prog = Z.P
  w : X.w = Z.w
  K : X.K = Z.T.K
  mg : X.mg = Z.mg
  base : X.base = Z.base
  N : X.N = N₀
  nd : N₀.Nodup
  sc : X.env.scope = sc₀
  kd : sc₀.kind = .function
  fn : ∀ x, fnC raw x = true → X.fn x = true
  room : L2H.RoomH k X.A
section
variable {Z : Cfg} {t : Tx} {k : Nat} {N : List Str} {sc : Scope} {raw : Option Scope} {X : Cx} {W : WX} {pos p : Pos} {a b c : Expr} {sa sb s3 : SV} {x : Str}
theorem XO.suite (h : XO Z t k N sc raw X W) (a : Addr) (pn : List (Addr × Obj)) : XH Z t k N sc raw (X.suite a pn) :=
  ⟨h.z, h.prog, h.w, h.K, h.mg, h.base, h.N, h.nd, h.sc, h.kd, h.fn, ⟨h.room.dp, h.room.un⟩⟩
theorem XH.gl (h : XH Z t k N sc raw X) (g : glC sc x = true) : Gl X x ∧ (x == ("__debug__" : Str)) = false ∧ x ≠ "__name__" := by
  unfold glC at g
  simp only [Bool.and_eq_true, Bool.not_eq_true', beq_eq_false_iff_ne] at g
  obtain ⟨⟨g1, g2⟩, g3⟩ := g
  refine ⟨?_, by simpa using g2, g3⟩
  unfold Gl Env.kindOf
  rw [h.sc]
  split at g1
  · assumption
  · cases g1
theorem XH.vis (h : XH Z t k N sc raw X) {i : Nat} (g : visC N sc i x = true) : X.N[i]? = some x ∧ Vis X.env.scope x ∧ (x == ("__debug__" : Str)) = false ∧ (x == ("__classdict__" : Str)) = false := by
  unfold visC at g
  simp only [Bool.and_eq_true, Bool.not_eq_true', decide_eq_true_eq] at g
  obtain ⟨⟨⟨g1, g2⟩, g3⟩, g4⟩ := g
  refine ⟨by rw [h.N]; exact g1, ?_, g3, g4⟩
  unfold Vis
  rw [h.sc]
  split at g2
  · exact .inl (by assumption)
  · exact .inr (.inl (by assumption))
  · exact .inr (.inr (by assumption))
  · cases g2
theorem XH.loc (h : XH Z t k N sc raw X) {i : Nat} (g : locC N sc raw i x = true) : X.N[i]? = some x ∧ Loc X.env.scope x ∧ (X.fn x = true ∨ X.env.scope.names.lookup x = some .local) := by
  unfold locC at g
  simp only [Bool.and_eq_true, decide_eq_true_eq] at g
  obtain ⟨g1, g2⟩ := g
  rw [h.N]
  unfold L2.Loc
  rw [h.sc]
  split at g2
  · rename_i e; exact ⟨g1, .inl e, .inr e⟩
  · rename_i e; exact ⟨g1, .inr e, .inl (h.fn x g2)⟩
  · cases g2
theorem XH.fr (h : XH Z t k N sc raw X) (g : t.fr.contains x = true) : X.mg x = none := by rw [h.mg]; exact h.z.fr x g
theorem XH.nd' (h : XH Z t k N sc raw X) : X.N.Nodup := by rw [h.N]; exact h.nd
end
end VI
end
section
namespace VI
open PySem PySem.Spec PyProof.Rows L2
section
variable {Z : Cfg} {t : Tx} {k : Nat} {N : List Str} {sc : Scope} {raw : Option Scope} {X : Cx} {W : WX} {pos p : Pos} {a b c : Expr} {sa sb s3 : SV} {x : Str}
end
section
variable {X : Cx} {σ : Sg} {H : Hp} {s : Shared} {pins : List (Addr × Obj)}
end
section
variable {Z : Cfg} {t : Tx} {k : Nat} {N : List Str} {sc : Scope} {X : Cx} {W : WX} {pos p : Pos} {x : Str}
end
end VI
end
section
namespace VI
open PySem PySem.Spec PyProof.Rows L2
def obsCA (as : List Addr) (c : Ct) (fa : List He.Fa) (fn : List He.DefD) (g : Addr → Option Obj) : He.AlD := obsC c fa fn (He.frG g as)
def hookCA (as : List Addr) (c : Ct) (fa : List He.Fa) (fn : List He.DefD) : PySem.W.Hook where
  α := He.AlD
  obs := fun s => obsCA as c fa fn s.heap.get?
  val := fun _ => He.valD fn
  says := fun _ h => ∃ K : PySem.W.Frag, K.In h ∧ SaysC c fa fn K
  of := fun _ _ e => ⟨_, He.frG_in, e⟩
  keeps := fun _ _ _ ⟨K, hK, q⟩ k => ⟨K, PySem.W.Frag.In.keeps hK k, q⟩
theorem obsCA_eq {as : List Addr} {c : Ct} {fa : List He.Fa} {fn : List He.DefD} {g : Addr → Option Obj} {s : Shared} (h : ∀ a, g a = s.heap.get? a) : obsCA as c fa fn g = (hookCA as c fa fn).obs s := by
  rw [show g = s.heap.get? from funext h] <;> rfl
end VI
noncomputable section
namespace VI
open PySem PySem.W PySem.Calls PyProof.Rows HandSHeadRun
theorem map3 {α β γ δ : Type} {e : Option α} {f : α → β} {g : α → γ} {k : α → δ} {a : β} {b : γ} {c : δ} (h1 : e.map f = some a) (h2 : e.map g = some b) (h3 : e.map k = some c) : e.map (fun s => (f s, g s, k s)) = some (a, b, c) := by
  cases e with
  | none => cases h1
  | some s =>
    simp only [Option.map_some, Option.some.injEq] at h1 h2 h3 ⊢
    rw [h1, h2, h3]
abbrev endQ (r : OpenRow) (M : Nat) (w : World) (os : OsState) : Option SharedT := endF (stepQ (denQ tabQ) r.prog w) M r.prog w os
def Run1 (r : OpenRow) (M : Nat) : Prop := ∀ (w : World) (os : OsState), (endQ r M w os).map (fun s => looksF r.prog (boot_heap w.params) s.abs) = some true
def Run2 (r : OpenRow) (q : Program) (M : Nat) (loose : List PySem.Str) : Prop := ∀ (w : World) (os : OsState), (endQ r M w os).map (fun s => seenQ q loose (importedModules r.prog.main.body) (fun s => xlAt q [] s && recOk r.toRowW.records s) s.abs) = some (openGood q loose)
def Run3 (r : OpenRow) (H : Hook) (ob : SharedT → H.α) (M : Nat) : Prop := ∀ (w : World) (os : OsState), (endQ r M w os).map ob = some (H.val w)
theorem run_of {r : OpenRow} {q : Program} {H : Hook} {ob : SharedT → H.α} {M : Nat} {loose : List PySem.Str} (h1 : Run1 r M) (h2 : Run2 r q M loose) (h3 : Run3 r H ob M) (w : World) : RunEq r q H ob M loose w := fun os => map3 (h1 w os) (h2 w os) (h3 w os)
end VI
end
end
section
noncomputable section
namespace VI
open PySem PySem.W PySem.Calls PyProof.Rows HandSHeadRun PySem.Spec L2
def obF (as : List Addr) (fa : List He.Fa) (fn : List He.DefD) (g : Addr → Option Obj) : Bool := (fa.all fun f => f.ok (He.frT g as)) && fn.all fun d => d.ok (He.frT g as)
def obL (as : List Addr) (fn : List He.DefD) (g : Addr → Option Obj) : List He.FnW := fn.map fun d => He.fnW (He.frT g as) d.at_
def RunB (r : OpenRow) (M : Nat) (f : (Addr → Option Obj) → Bool) : Prop := ∀ (w : World) (os : OsState), (endQ r M w os).map (fun s => f (HandSHeadRun.getT s)) = some true
def RunL (r : OpenRow) (M : Nat) (as : List Addr) (fn : List He.DefD) : Prop := ∀ (w : World) (os : OsState), (endQ r M w os).map (fun s => obL as fn (HandSHeadRun.getT s)) = some (fn.map He.DefD.val)
theorem RunL.app {r : OpenRow} {M : Nat} {as : List Addr} {a b : List He.DefD} (h1 : RunL r M as a) (h2 : RunL r M as b) : RunL r M as (a ++ b) := fun w os => by
  have h1 := h1 w os
  have h2 := h2 w os
  cases e : endQ r M w os with
  | none => rw [e] at h1; cases h1
  | some s =>
    rw [e] at h1 h2
    simp only [Option.map_some, Option.some.injEq, obL, List.map_append] at h1 h2 ⊢
    rw [h1, h2]
theorem RunB.fa {r : OpenRow} {M : Nat} {as : List Addr} {fa fa' : List He.Fa} {fn fn' : List He.DefD} (h1 : RunB r M (obF as fa fn)) (h2 : RunB r M (obF as fa' fn')) : RunB r M (obF as (fa ++ fa') (fn ++ fn')) := fun w os => by
  have h1 := h1 w os
  have h2 := h2 w os
  cases e : endQ r M w os with
  | none => rw [e] at h1; cases h1
  | some s =>
    rw [e] at h1 h2
    simp only [Option.map_some, Option.some.injEq, obF, Bool.and_eq_true, List.all_append] at h1 h2 ⊢
    exact ⟨⟨h1.1, h2.1⟩, h1.2, h2.2⟩
theorem RunL.td {r : OpenRow} {M : Nat} {as : List Addr} {fn : List He.DefD} (k : Nat) (h1 : RunL r M as (fn.take k)) (h2 : RunL r M as (fn.drop k)) : RunL r M as fn := by
  have := h1.app h2
  rwa [List.take_append_drop] at this
theorem RunB.td {r : OpenRow} {M : Nat} {as : List Addr} {fa : List He.Fa} {fn : List He.DefD} (k : Nat) (h0 : RunB r M (obF as fa [])) (h1 : RunB r M (obF as [] (fn.take k))) (h2 : RunB r M (obF as [] (fn.drop k))) : RunB r M (obF as fa fn) := by
  have := h0.fa (h1.fa h2)
  rwa [List.take_append_drop, List.append_nil, List.append_nil, List.nil_append] at this
end VI
end
end
section
namespace VI
open PySem PySem.Spec PyProof.Rows L2
def supBody (s1 f par : Str) (c : Expr) (p0 p1 p2 p3 p4 q0 q1 q2 q3 : Pos) : List Stmt :=
  [.Expr (.Call (.Attribute (.Call (.Name "super" p0) [] [] p1) "__init__" p2) [c] [] p3) p4, .Assign [.Attribute (.Name s1 q0) f q1] (.Name par q2) q3]
section
variable {K : PySem.W.Frag} {prog : Program} {w : World}
variable {X : Cx} {pins : List (Addr × Obj)} {σ : Sg} {H : Hp} {s : Shared}
variable {a C fI cda cc : Addr} {name qual : Str} {params : Arguments} {scope : Scope} {dV kV doc pm ct oc : Value} {an od : Option Addr} {osl : Array (Option Value)}
variable {f par : Str} {txt : Str} {jk : Nat} {pc p0 p1 p2 p3 p4 q0 q1 q2 q3 : Pos} {vs : Array Value} {file : Str} {tf : Tok} {ccl cl : Value} {cdd cld : Option Addr} {ccs csl : Array (Option Value)} {cdC : ClassData} {y : V} {u : Value}
structure SupF (K : PySem.W.Frag) (P : Program) (C fI cda cc : Addr) (qual : Str) (params : Arguments) (scope : Scope) (par f : Str) : Prop where
  code : PySem.W.codeIn K (.ref cda) qual = true
  file : ∃ ccl cdd vs ccs file tf, K.lookup cda = some ⟨ccl, cdd, .fields vs, ccs⟩ ∧ vs[2]? = some (.str file tf) ∧ ((P.main.file : Str) == file) = true
  cell : ∃ cl cld csl, K.lookup cc = some ⟨cl, cld, .cell (some (.ref C)), csl⟩
  sub : PySem.W.mroIn K C (.ref C) = some true
  sup : PySem.W.ks_superIn K C C "__init__" = some (some (.builtin "ValueError.__init__"))
  ve : PySem.W.subIn K (.ref C) (.type "ValueError") = some true
  any : PySem.W.nsIn K PySem.cStatics "thirdparty.any" = some none
  top : (P.main.scope.names.lookup ("super" : Str)).isSome = false
  hp : ∃ ar : Arg, (params.posonlyargs ++ params.args).head? = some ar ∧ ar.arg = "self"
  kind : scope.kind = .function
  co : scope.isCoroutine = false
  gen : scope.isGenerator = false
  nocell : ∀ x ∈ scope.names, x.2 ≠ .cell
  l1 : scope.names.lookup ("self" : Str) = some .local
  l2 : scope.names.lookup par = some .local
  l3 : scope.names.lookup ("super" : Str) = some .globalImplicit
  l4 : scope.names.lookup ("__class__" : Str) = some .free
  ne : par ≠ ("self" : Str)
  nd : (par == ("__debug__" : Str)) = false
  fld : PySem.W.findIn K (.ref C) f = some none
end
structure SupC (K : PySem.W.Frag) (P : Program) (C : Addr) (f : Str) : Prop where
  T : OexC K C
  fn : ∃ (fI cda cc : Addr) (name qual : Str) (params : Arguments) (scope : Scope) (dV kV doc pm ct oc : Value) (an od : Option Addr) (osl : Array (Option Value)) (par txt : Str) (jk : Nat) (pc p0 p1 p2 p3 p4 q0 q1 q2 q3 : Pos),
    PySem.W.findIn K (.ref C) "__init__" = some (some (.ref fI)) ∧ PySem.W.typeIn K (.ref fI) = some (.type "function") ∧ SupF K P C fI cda cc qual params scope par f ∧
    K.lookup fI = some ⟨oc, od, .func (PySem.W.ksFn name qual params (supBody "self" f par (.Constant (.str txt) jk pc) p0 p1 p2 p3 p4 q0 q1 q2 q3) scope dV kV doc pm an (.ref cda) ct cc), osl⟩ ∧ (p2.endLine == p3.line) = true ∧
    Binds K (PySem.W.ksFn name qual params (supBody "self" f par (.Constant (.str txt) jk pc) p0 p1 p2 p3 p4 q0 q1 q2 q3) scope dV kV doc pm an (.ref cda) ct cc) [("self" : Str), par] []
end VI
end
section
namespace VI
open PySem PySem.Spec PyProof.Rows L2
end VI
noncomputable section
namespace VI
open PySem PySem.W PySem.Calls PyProof.Rows HandSHeadRun PySem.Spec L2
end VI
end
end
section
namespace VI
open PySem PySem.Spec PyProof.Rows L2
section
variable {Z : Cfg} {t : Tx} {k : Nat} {N : List Str} {sc : Scope} {raw : Option Scope} {X : Cx} {W : WX} {pos apos : Pos} {a e : Expr} {sa se : SV}
end
end VI
end
section
namespace VI
open PySem PySem.Spec PyProof.Rows L2
section
variable {Z : Cfg} {t : Tx} {k : Nat} {N : List Str} {sc : Scope} {raw : Option Scope} {X : Cx} {W : WX} {pos p : Pos} {sa : SA}
end
end VI
end
section
namespace VI
open PySem PySem.Spec PyProof.Rows L2
section
variable {Z : Cfg} {t : Tx} {k : Nat} {N : List Str} {sc : Scope} {raw : Option Scope} {X : Cx} {W : WX} {pos : Pos} {a b : Expr} {sa sb : SV}
end
end VI
end
section
namespace VI
open PySem PySem.Spec PyProof.Rows L2
structure Sr where
  it : Addr
  fp : List Addr
  us : List Value
  St : Nat → Heap → Prop
def Sr.Dr (prog : Program) (w : World) (A : Around) (r : Sr) : Prop := Draws prog w A r.it r.fp r.us.length (fun i v => r.us[i]? = some v) r.St
structure ZG (z TI TO : Addr) (rs : List Sr) : Prop where
  TIz : TI ≠ z
  TOz : TO ≠ z
  TITO : TI ≠ TO
  TIi : ∀ r ∈ rs, TI ≠ r.it
  mem : ∀ r ∈ rs, r.it ∈ r.fp
  zf : ∀ r ∈ rs, z ∉ r.fp
  Tf : ∀ r ∈ rs, TO ∉ r.fp
  sep : ∀ (j k : Nat) (a b : Sr), j ≠ k → rs[j]? = some a → rs[k]? = some b → a.it ∉ b.fp
abbrev IsTupL (h : Heap) (T : Addr) (vs : List Value) : Prop := h.get? T = some { cls := .type "tuple", data := .seq vs.toArray }
def AtJ (rs : List Sr) (i j : Nat) (h : Heap) : Prop := ∀ (m : Nat) (r : Sr), rs[m]? = some r → r.St (if m < j then i + 1 else i) h
section
variable {prog : Program} {w : World} {A : Around} {E : Value → Shared → Prop} {s : Shared} {z TI TO : Addr} {rs : List Sr} {i j : Nat} {h h' : Heap}
theorem AtJ.frame (D : ∀ r ∈ rs, r.Dr prog w A) (a : AtJ rs i j h) (k : ∀ r ∈ rs, ∀ b ∈ r.fp, ∀ o, h.get? b = some o → h'.get? b = some o) : AtJ rs i j h' := fun m b hb =>
  (D b (List.mem_of_getElem? hb)).frame _ _ _ (a m b hb) (k b (List.mem_of_getElem? hb))
theorem AtJ.all (a : AtJ rs i rs.length h) : AtJ rs (i + 1) 0 h := fun m b hb => by
  have q := a m b hb
  rw [if_pos (List.getElem?_eq_some_iff.mp hb).1] at q
  simpa using q
end
end VI
end
section
namespace VI
open PySem PySem.Spec PyProof.Rows L2
section
variable {prog : Program} {w : World} {A : Around} {E : Value → Shared → Prop} {s : Shared} {z TI TO : Addr} {rs : List Sr} {i j : Nat} {h h' : Heap} {vs0 : List Value}
abbrev IsZipX (h : Heap) (z TI TO : Addr) (f0 : Value) (f : Bool) : Prop := h.get? z = some { cls := .type "zip", dict := none, data := .fields #[f0, .bool f, .bool false, .ref TI, .ref TO], slots := #[] }
def ZAt (h : Heap) (z TI TO : Addr) (rs : List Sr) : Prop := ∃ f0 f vs, (f0 = .none ∨ ∃ T : Addr, f0 = rawInt T) ∧ IsZipX h z TI TO f0 f ∧ vs.length = rs.length ∧ IsTupL h TO vs
theorem ZAt.keep {rs : List Sr} (x : ZAt h z TI TO rs) (k1 : ∀ o, h.get? z = some o → h'.get? z = some o) (k2 : ∀ o, h.get? TO = some o → h'.get? TO = some o) : ZAt h' z TI TO rs := by
  obtain ⟨f0, f, vs, a, b, c, d⟩ := x
  exact ⟨f0, f, vs, a, k1 _ b, c, k2 _ d⟩
theorem ZAt.ty (zz : ZAt s.heap z TI TO rs) : s.TypeIs (.ref z) "zip" := by
  obtain ⟨f0, f, vs0, fr, zz, _⟩ := zz
  exact ⟨_, zz, rfl⟩
end
end VI
end
section
namespace VI
open PySem PySem.Spec PyProof.Rows L2
inductive Al {α β : Type} (R : α → β → Prop) : List α → List β → Prop
  | nil : Al R [] []
  | cons {a b as bs} : R a b → Al R as bs → Al R (a :: as) (b :: bs)
namespace Al
variable {α β γ : Type} {R : α → β → Prop} {as : List α} {bs : List β}
theorem length (h : Al R as bs) : as.length = bs.length := by induction h with | nil => rfl | cons _ _ ih => simp [ih]
theorem get (h : Al R as bs) : ∀ {m : Nat} {a : α} {b : β}, as[m]? = some a → bs[m]? = some b → R a b := by
  induction h with
  | nil => intro m a b e; simp at e
  | cons r _ ih =>
    intro m a b e f
    cases m with
    | zero => simp at e f; subst e f; exact r
    | succ m => exact ih (by simpa using e) (by simpa using f)
theorem mono {R' : α → β → Prop} (h : Al R as bs) (f : ∀ a b, R a b → R' a b) : Al R' as bs := by
  induction h with
  | nil => exact .nil
  | cons r _ ih => exact .cons (f _ _ r) ih
end Al
def ItQ (tp : Bool) (h : Heap) (it a : Addr) (i : Nat) : Prop := match tp with
  | true => h.IsTupleIter it a i
  | false => h.IsListIter it a i
def SeQ (tp : Bool) (h : Heap) (a : Addr) (us : List Value) : Prop := match tp with
  | true => h.IsTuple a us.toArray
  | false => h.IsList a us.toArray
def srQ (tp : Bool) (it a : Addr) (us : List Value) : Sr := ⟨it, [it, a], us, fun i h => ItQ tp h it a i ∧ SeQ tp h a us⟩
theorem ItQ.at {tp : Bool} {h h' : Heap} {it a : Addr} {i : Nat} (q : ItQ tp h it a i) (k : ∀ o, h.get? it = some o → h'.get? it = some o) : ItQ tp h' it a i := by
  cases tp with
  | false => exact Heap.IsListIter.at q k
  | true => exact Heap.IsTupleIter.at q k
theorem ItQ.obj {tp : Bool} {h : Heap} {it a : Addr} {i : Nat} (q : ItQ tp h it a i) : ∃ o, h.get? it = some o ∧ ∀ v, o.data ≠ .cell v := by
  cases tp with
  | false => obtain ⟨o, e, _, d⟩ := q; exact ⟨o, e, fun v q => by rw [d] at q; cases q⟩
  | true => obtain ⟨o, e, _, d⟩ := q; exact ⟨o, e, fun v q => by rw [d] at q; cases q⟩
section
variable {X : Cx} {pins : List (Addr × Obj)} {σ : Sg} {H : Hp} {s : Shared}
end
def srsK : Nat → List (Bool × Addr) → List (List Value) → List Sr
  | N, p :: ss, us :: uss => srQ p.1 N p.2 us :: srsK (N + 1) ss uss
  | _, _, _ => []
theorem srsK_length : ∀ (N : Nat) (ss : List (Bool × Addr)) (uss : List (List Value)), ss.length = uss.length → (srsK N ss uss).length = ss.length
  | N, p :: ss, us :: uss, h => by simp [srsK, srsK_length (N + 1) ss uss (by simpa using h)]
  | _, [], _, _ => rfl
  | _, _ :: _, [], h => by simp at h
end VI
end
section
namespace VI
open PySem PySem.Spec PyProof.Rows L2
section
variable {X : Cx} {T : Tb} {W : WX} {μ μ' : Mu} {H H' : Hp} {h : Bs} {σ : Sg} {ρ : Ev}
end
end VI
end
section
namespace PySem
open Sem (wp)
set_option maxHeartbeats 2000000 in
section
variable {prog : Program} {w : World} {A : Around} {E : Value → Shared → Prop} {s : Shared}
end
end PySem
namespace VI
open PySem PySem.Spec PyProof.Rows L2
section
variable {prog : Program} {w : World} {A : Around} {E : Value → Shared → Prop} {s : Shared} {p1 p2 p3 p4 : Bool × Addr} {u1 u2 u3 u4 : List Value}
end
section
variable {X : Cx} {T : Tb} {W : WX} {μ μ' : Mu} {H H' : Hp} {h : Bs} {σ : Sg} {ρ : Ev}
end
section
variable {Z : Cfg} {t : Tx} {k : Nat} {N : List Str} {sc : Scope} {raw : Option Scope} {X : Cx} {W : WX} {pos p : Pos} {a b c : Expr}
end
end VI
end
section
namespace VI
open PySem PySem.Spec PyProof.Rows L2
structure LZN (H H' : Hp) (L : Addr) (xss : List (List V)) (vs : List V) (n : Nat) : Prop where
  ext : ∀ a o, H a = some o → H' a = some o
  no : H L = none
  at_ : H' L = some (.lst vs)
  len : vs.length = n
  item : ∀ j, j < n → ∃ a ws, vs[j]? = some (.ref a) ∧ H a = none ∧ Al (fun (xs : List V) x => xs[j]? = some x) xss ws ∧ H' a = some (.tup ws)
section
variable {X : Cx} {pins : List (Addr × Obj)} {σ : Sg} {N L : Nat} {ss : List (Bool × Addr)} {uss : List (List Value)} {xss : List (List V)} {H0 : Hp} {A : Around} {R : Result → Shared → Prop} {n : Nat}
end
section
variable {X : Cx} {T : Tb} {W : WX} {μ μ' : Mu} {H H' : Hp} {h : Bs} {σ : Sg} {ρ : Ev}
end
section
variable {Z : Cfg} {t : Tx} {k : Nat} {N : List Str} {sc : Scope} {raw : Option Scope} {X : Cx} {W : WX} {pos p p2 pos2 : Pos} {a b c d : Expr} {sa : SA}
end
end VI
end
section
namespace VI
open PySem PySem.Spec PyProof.Rows L2
section
variable {prog : Program} {w : World} {A : Around} {E : Value → Shared → Prop} {s : Shared} {e z TI TO : Addr} {rs : List Sr} {i : Nat} {c : Int} {old f0 : Value}
end
end VI
end
section
namespace VI
open PySem PySem.Spec PyProof.Rows L2
def ZAtN (h : Heap) (N n : Nat) : Prop := ∃ f0 f vs, (f0 = .none ∨ ∃ T : Addr, f0 = rawInt T) ∧ IsZipX h (N + n + 2) (N + n) (N + n + 1) f0 f ∧ vs.length = n ∧ IsTupL h (N + n + 1) vs
theorem ZAtN.of {h : Heap} {N : Nat} {ss : List (Bool × Addr)} {uss : List (List Value)} (hl : ss.length = uss.length) (x : ZAt h (N + ss.length + 2) (N + ss.length) (N + ss.length + 1) (srsK N ss uss)) : ZAtN h N ss.length := by
  obtain ⟨f0, f, vs, a, b, c, d⟩ := x
  exact ⟨f0, f, vs, a, b, by rw [srsK_length N ss uss hl] at c; exact c, d⟩
theorem ZAtN.keep {h h' : Heap} {N n : Nat} (x : ZAtN h N n) (k : ∀ q, q < n + 3 → ∀ o, h.get? (N + q) = some o → h'.get? (N + q) = some o) : ZAtN h' N n := by
  obtain ⟨f0, f, vs, a, b, c, d⟩ := x
  exact ⟨f0, f, vs, a, k (n + 2) (by omega) _ b, c, k (n + 1) (by omega) _ d⟩
section
variable {prog : Program} {w : World} {A : Around} {E : Value → Shared → Prop} {s : Shared} {e z TI TO : Addr} {rs : List Sr} {i : Nat} {c : Int} {old f0 : Value}
end
section
variable {X : Cx} {T : Tb} {W : WX} {μ μ' : Mu} {H H' : Hp} {h : Bs} {σ : Sg} {ρ : Ev}
end
section
variable {Z : Cfg} {t : Tx} {k : Nat} {N : List Str} {sc : Scope} {raw : Option Scope} {X : Cx} {W : WX} {pos p p2 pos2 : Pos} {a b : Expr}
end
end VI
end
section
namespace VI.Lay
open PySem PySem.Spec PyProof.Rows L2 VI VI.Std
section
variable (T : Tb)
end
section
variable {K : PySem.W.Frag} {ct : Ct} {h : Bs} {X Y : List Int} {n : Nat}
theorem lt_ok {x y : Int} : ltS (.int x) (.int y) h = .ok (.bl (decide (x < y))) h := rfl
theorem ge_ok {x y : Int} : geS (.int x) (.int y) h = .ok (.bl (decide (y ≤ x))) h := rfl
theorem zipT {xs ys : List D} : itZipX [.tup xs, .tup ys] h = .ok (zipL xs ys, none) h := rfl
theorem slT_lo {n : Nat} (hl : X.length ≤ sizeLine) : slD false (tI X) (some (n : Int)) none h = .ok (tI (X.drop n)) h := by
  show newT (cutD _ _ _) h = _
  rw [cut_from, ← List.map_drop, newT_f (by rw [List.length_map, List.length_drop]; omega)]
theorem lenTI : lenD [tI X] h = .ok (.int X.length) h := by
  show R.ok (D.int ((X.map D.int).length : Nat)) h = _
  rw [List.length_map]
theorem all_emb {α : Type} {own : List Nat} {it : SI} {g : SG} {el : SV} {ρ : Ev} (E : α → D) (l : List α) (p : α → Bool) (e1 : it ρ h = .ok (l.map E, none) h) (H : ∀ a ∈ l, ∃ ρ1, g (E a) (wipeE ρ own) h = .ok ρ1 h ∧ el ρ1 h = .ok (.bl (p a)) h) (hl : l.length ≤ sizeLine) :
    (sCall allD' (saCons (sLc false own it g (fun _ h => .ok true h) el) saNil)) ρ h = .ok (.bl (l.all p)) h := by
  have c1 : sLc false own it g (fun _ h => .ok true h) el ρ h = .ok (.lst ((l.map p).map .bl)) h := by
    refine lc_ok e1 ?_ (by rw [List.length_map, List.length_map]; exact hl)
    rw [List.map_map]
    exact lc_emb1 E _ l H
  refine call_ok (cons_ok c1 rfl) ?_
  rw [all_bls, List.all_map]
  rfl
theorem any_emb {α : Type} {own : List Nat} {it : SI} {g : SG} {el : SV} {ρ : Ev} (E : α → D) (l : List α) (p : α → Bool) (e1 : it ρ h = .ok (l.map E, none) h) (H : ∀ a ∈ l, ∃ ρ1, g (E a) (wipeE ρ own) h = .ok ρ1 h ∧ el ρ1 h = .ok (.bl (p a)) h) (hl : l.length ≤ sizeLine) :
    (sCall anyD' (saCons (sLc false own it g (fun _ h => .ok true h) el) saNil)) ρ h = .ok (.bl (l.any p)) h := by
  have c1 : sLc false own it g (fun _ h => .ok true h) el ρ h = .ok (.lst ((l.map p).map .bl)) h := by
    refine lc_ok e1 ?_ (by rw [List.length_map, List.length_map]; exact hl)
    rw [List.map_map]
    exact lc_emb1 E _ l H
  refine call_ok (cons_ok c1 rfl) ?_
  rw [any_bls, List.any_map]
  rfl
theorem fil_emb {α : Type} {own : List Nat} {it : SI} {g : SG} {tt : SV} {el : SV} {ρ : Ev} (E : α → D) (l : List α) (p : α → Bool) (e1 : it ρ h = .ok (l.map E, none) h) (H : ∀ a ∈ l, ∃ ρ1, g (E a) (wipeE ρ own) h = .ok ρ1 h ∧ tt ρ1 h = .ok (.bl (p a)) h ∧ el ρ1 h = .ok (E a) h) (hl : l.length ≤ sizeLine) :
    sLc false own it g (sTru tt) el ρ h = .ok (.lst ((l.filter p).map E)) h := by
  refine lc_ok e1 ?_ (by rw [List.length_map]; exact Nat.le_trans (List.length_filter_le _ _) hl)
  exact lc_emb E p E l fun a ha => by
    obtain ⟨ρ1, e2, e3, e4⟩ := H a ha
    exact ⟨ρ1, e2, tru_ok e3, fun _ => e4⟩
abbrev It := List Int × Int
def itD (i : It) : D := .tup [tI i.1, .int i.2]
structure ItOk (n : Nat) (i : It) : Prop where
  set : SetN n i.1
  lo : 1 ≤ i.2
  hi : i.2 ≤ i.1.length
theorem SetN.len (hX : SetN n X) : X.length ≤ n := by
  have key : ∀ (l : List Int) (a b : Int), l.Pairwise (· < ·) → (∀ x ∈ l, a ≤ x ∧ x < b) → a ≤ b → (l.length : Int) ≤ b - a := by
    intro l
    induction l with
    | nil => intro a b _ _ h; simp; omega
    | cons x l ih =>
      intro a b hp hb hab
      rw [List.pairwise_cons] at hp
      have hx := hb x List.mem_cons_self
      have := ih (x + 1) b hp.2 (fun y hy => ⟨by have := hp.1 y hy; omega, (hb y (List.mem_cons_of_mem _ hy)).2⟩) (by omega)
      rw [List.length_cons]
      omega
  have := key X 0 n hX.up (fun x hx => hX.lo x hx) (by omega)
  omega
def rgI (n : Nat) : List Int := (List.range n).map fun (i : Nat) => (i : Int)
theorem rgI_len : (rgI n).length = n := by simp [rgI]
theorem mem_rgI {x : Int} : x ∈ rgI n ↔ 0 ≤ x ∧ x < n := by
  unfold rgI
  rw [List.mem_map]
  constructor
  · rintro ⟨a, ha, rfl⟩
    have := List.mem_range.mp ha
    omega
  · intro e
    exact ⟨x.toNat, List.mem_range.mpr (by omega), by omega⟩
theorem rng_I (hn : n < 2 ^ 24) : itRng1 [.int n] h = .ok ((rgI n).map .int, none) h := by
  rw [rng_ok hn]
  unfold rgI
  rw [List.map_map]
  rfl
def oth (n : Nat) (Y : List Int) : List Int := (rgI n).filter fun x => !decide (x ∈ Y)
end
end VI.Lay
end
section
namespace VI.Lay
open PySem PySem.Spec PyProof.Rows L2 VI VI.Std
def kX (X : List Int) : PyData := .tuple [.int (X.length : Nat), .tuple (X.map .int)]
def insX (X : List Int) : List (List Int) → List (List Int)
  | [] => [X]
  | Y :: Ys => if W.dataLt (kX Y) (kX X) then Y :: insX X Ys else X :: Y :: Ys
def srtX : List (List Int) → List (List Int)
  | [] => []
  | X :: Xs => insX X (srtX Xs)
theorem toks_ints : ∀ X Y : List Int, W.keyToksAll (X.map .int) = W.keyToksAll (Y.map .int) → X = Y
  | [], [], _ => rfl
  | [], y :: Y, e => by simp [W.keyToksAll] at e
  | x :: X, [], e => by simp [W.keyToksAll] at e
  | x :: X, y :: Y, e => by
    simp only [List.map_cons, W.keyToksAll, W.keyToks, List.cons_append, List.nil_append, List.cons.injEq, Sum.inl.injEq, true_and] at e
    rw [e.1, toks_ints X Y e.2]
abbrev lT (Xs : List (List Int)) : D := .lst (Xs.map fun X => tI X)
section
variable {h : Bs} {Xs : List (List Int)} {ti : Nat}
def subs : Nat → List (List Int)
  | 0 => [[]]
  | k + 1 => subs k ++ (subs k).map fun X => X ++ [(k : Int)]
def sets (n : Nat) : List (List Int) := srtX (subs n)
end
end VI.Lay
end
section
namespace VI.Lay
open PySem PySem.Spec PyProof.Rows L2 VI VI.Std
section
variable {h : Bs} {X Y : List Int} {n ti : Nat} {K : PySem.W.Frag} {ct : Ct}
theorem star_ok {sa : SV} {sr : SA} {ρ : Ev} {x : D} {xs ys : List D} (e1 : sa ρ h = .ok x h) (e2 : seqOf h x = some xs) (e3 : sr ρ h = .ok ys h) : saStar sa sr ρ h = .ok (xs ++ ys) h := by
  unfold saStar
  rw [e1, bind_ok]
  simp only [e2, e3, bind_ok]
def stB (h : Bs) (A : List (List Int)) : Bs := ⟨h.bs.length :: h.fbs, h.bs ++ [.lst false (A.map fun X => tI X)]⟩
def wi (X Y : List Int) : Bool := X.all fun x => decide (x ∈ Y)
end
end VI.Lay
end
section
namespace VI.Lay
open PySem PySem.Spec PyProof.Rows L2 VI VI.Std
end VI.Lay
end
section
namespace VI.Lay
open PySem PySem.Spec PyProof.Rows L2 VI VI.Std
structure LayT (T : Tb) : Prop where
  f0 : T.fok 0 0 = true
  f1 : T.fok 0 1 = true
  isc : T.isc 0 = true
  k7 : T.kit 7 7 = some true
def oL (n : Nat) (its : List It) : D := .obj 0 [0, 1] [.int n, .tup (its.map itD)]
section
variable (T : Tb)
end
structure LayOk (n : Nat) (its : List It) : Prop where
  lo : 1 ≤ n
  hi : n ≤ 8
  ne : 1 ≤ its.length
  few : its.length ≤ 10
  ok : ∀ i ∈ its, ItOk n i
def okU (up : List Int) (i : It) : Bool := decide (i.2 ≤ ((i.1.filter fun x => decide (x ∈ up)).length : Nat))
def rd (its : List It) (up : List Int) : List Int := (its.zipIdx.filter fun p => okU up p.1).map fun p => (p.2 : Int)
section
variable {K : PySem.W.Frag} {ct : Ct} {h : Bs} {X Y : List Int} {n : Nat} {its : List It}
theorem fld0 (L : LayT (tbC ct K)) : fldD (tbC ct K) 0 (oL n its) h = .ok (.int n) h := by
  show (if (tbC ct K).fok 0 0 = true then _ else _) = _
  rw [L.f0, if_pos rfl]
theorem fld1 (L : LayT (tbC ct K)) : fldD (tbC ct K) 1 (oL n its) h = .ok (.tup (its.map itD)) h := by
  show (if (tbC ct K).fok 0 1 = true then _ else _) = _
  rw [L.f1, if_pos rfl]
end
end VI.Lay
end
section
namespace VI.Lay
open PySem PySem.Spec PyProof.Rows L2 VI VI.Std
section
variable {K : PySem.W.Frag} {ct : Ct} {h : Bs} {X Y : List Int} {n : Nat} {its : List It} {l : List (Nat × (List D → Bs → R D))}
end
end VI.Lay
end
section
namespace VI.Lay
open PySem PySem.Spec PyProof.Rows L2 VI VI.Std
section
variable {K : PySem.W.Frag} {ct : Ct} {h : Bs} {X Y : List Int} {n : Nat} {its : List It}
end
end VI.Lay
end
section
namespace VI.Lay
open PySem PySem.Spec PyProof.Rows L2 VI VI.Std
section
variable {K : PySem.W.Frag} {ct : Ct} {h : Bs} {X Y : List Int} {n : Nat} {its : List It}
def stG (h : Bs) (xs : List D) : Bs := ⟨h.bs.length :: h.fbs, h.bs ++ [.lst false xs]⟩
theorem stG_at {xs : List D} : (stG h xs).bs[h.bs.length]? = some (.lst false xs) := by simp [stG]
theorem stG_new : newL true [] (inB h) = .ok (.ref h.bs.length) (stG h []) := by
  rw [newL_t' (Nat.zero_le _)]
  rfl
theorem stG_app {xs : List D} {d : D} (hA : xs.length < 1000) : appD (.ref h.bs.length) [d] (stG h xs) = .ok .non (stG h (xs ++ [d])) := by
  have sz : (1000 : Nat) ≤ sizeLine := by decide
  have ok : okW (stG h xs) h.bs.length d = true := by simp [okW, stG]
  have e3 : decide (xs.length < sizeLine) = true := by simp; omega
  simp only [appD, stG_at, ok, e3, Bool.and_self, if_true]
  simp [putL, stG]
theorem stG_end {xs : List D} (nd : noDs xs = true) : finF h (.rt (.ref h.bs.length) (stG h xs)) = .ok (.lst xs) h := by
  have f2 : outB h (stG h xs) = h := by simp [outB, stG]
  have f1 : frzD (frzR h.bs.length (stG h xs).bs 4) (.ref h.bs.length) = some (.lst xs) := by
    simp -implicitDefEqProofs only [frzD, frzR]
    rw [if_neg (by omega), stG_at]
    simp -implicitDefEqProofs only [frzDs_id _ _ nd]
  simp -implicitDefEqProofs only [finF, f1, f2]
end
end VI.Lay
end
section
namespace VI.Lay
open PySem PySem.Spec PyProof.Rows L2 VI VI.Std
section
variable {X Y Z : List Int} {n : Nat} {its : List It} {up : List Int}
theorem subl : ∀ (X Y : List Int), X.Pairwise (· < ·) → Y.Pairwise (· < ·) → (∀ x ∈ X, x ∈ Y) → X.Sublist Y
  | [], Y, _, _, _ => List.nil_sublist Y
  | x :: xs, [], _, _, h => by have := h x List.mem_cons_self; cases this
  | x :: xs, y :: ys, hX, hY, h => by
    rw [List.pairwise_cons] at hX hY
    by_cases e : x = y
    · subst e
      refine .cons₂ _ (subl xs ys hX.2 hY.2 fun z hz => ?_)
      rcases List.mem_cons.mp (h z (List.mem_cons_of_mem _ hz)) with q | q
      · have := hX.1 z hz; omega
      · exact q
    · have hx : x ∈ ys := by
        rcases List.mem_cons.mp (h x List.mem_cons_self) with q | q
        · exact absurd q e
        · exact q
      have lt := hY.1 x hx
      refine .cons _ (subl (x :: xs) ys (List.pairwise_cons.mpr hX) hY.2 fun z hz => ?_)
      rcases List.mem_cons.mp (h z hz) with q | q
      · rcases List.mem_cons.mp hz with w | w
        · exact absurd (w.symm.trans q) e
        · have := hX.1 z w; omega
      · exact q
theorem wi_iff : wi X Y = true ↔ ∀ x ∈ X, x ∈ Y := by
  unfold wi
  rw [List.all_eq_true]
  simp only [decide_eq_true_eq]
theorem wi_len (hX : SetN n X) (hY : SetN n Y) (h : wi X Y = true) : X.length ≤ Y.length ∧ (X.length = Y.length → X = Y) := by
  have s := subl X Y hX.up hY.up (wi_iff.mp h)
  exact ⟨s.length_le, fun e => s.eq_of_length e⟩
theorem wi_refl : wi X X = true := wi_iff.mpr fun _ h => h
theorem wi_trans (h1 : wi X Y = true) (h2 : wi Y Z = true) : wi X Z = true := wi_iff.mpr fun x hx => wi_iff.mp h2 x (wi_iff.mp h1 x hx)
def isMin (l : List (List Int)) (X : List Int) : Prop := ∀ Y ∈ l, Y ≠ X → wi Y X = true → False
theorem below {l : List (List Int)} (hl : ∀ X ∈ l, SetN n X) : ∀ (k : Nat) (X : List Int), X.length ≤ k → X ∈ l → ∃ Y ∈ l, wi Y X = true ∧ isMin l Y
  | k, X, hk, hX => by
    by_cases q : isMin l X
    · exact ⟨X, hX, wi_refl, q⟩
    · unfold isMin at q
      obtain ⟨Y, hY, ne, w⟩ : ∃ Y ∈ l, Y ≠ X ∧ wi Y X = true := Classical.byContradiction fun z => q fun Y hY ne w => z ⟨Y, hY, ne, w⟩
      have := wi_len (hl Y hY) (hl X hX) w
      have lt : Y.length < X.length := by
        rcases Nat.lt_or_eq_of_le this.1 with z | z
        · exact z
        · exact absurd (this.2 z) ne
      cases k with
      | zero => omega
      | succ k =>
        obtain ⟨Z, hZ, w2, m⟩ := below hl k Y (by omega) hY
        exact ⟨Z, hZ, wi_trans w2 w, m⟩
open Classical in
open Classical in
end
end VI.Lay
end
section
namespace VI.Lay
open PySem PySem.Spec PyProof.Rows L2 VI VI.Std
section
variable {X Y Z : List Int} {n : Nat} {its : List It} {up : List Int}
theorem take_set (hX : SetN n X) (k : Nat) : SetN n (X.take k) := ⟨hX.up.sublist (List.take_sublist _ _), fun x hx => hX.lo x (List.mem_of_mem_take hx)⟩
end
end VI.Lay
end
section
namespace VI.Lay
open PySem PySem.Spec PyProof.Rows L2 VI VI.Std
section
variable {h : Bs} {ns : List Int} {n : Nat}
theorem num2 (hl : ns.length ≤ 63) (h : Bs) : ∃ z : Int → Int, ∀ i : Int, 0 ≤ i → i < 2 ^ 63 → Std2.fNumber [.scr ns, .int i] h = .ok (.int (z i)) h := by
  refine ⟨fun i => if hh : 0 ≤ i ∧ i < 2 ^ 63 then Classical.choose (Std2.number_ok hl hh.1 (by omega) h) else 0, fun i h0 h1 => ?_⟩
  have hh : 0 ≤ i ∧ i < 2 ^ 63 := ⟨h0, h1⟩
  simp only [dif_pos hh]
  exact Classical.choose_spec (Std2.number_ok hl hh.1 (by omega) h)
end
end VI.Lay
end
section
namespace VI.Lay
open PySem PySem.Spec PyProof.Rows L2 VI VI.Std
section
variable (T : Tb) (mR ti : Nat)
end
section
variable {K : PySem.W.Frag} {ct : Ct} {h : Bs} {X Y : List Int} {n mR ti : Nat} {its : List It}
end
end VI.Lay
end
section
namespace VI.Lay
open PySem PySem.Spec PyProof.Rows L2 VI VI.Std
end VI.Lay
end
section
namespace VI.Fl
open PySem PySem.Spec PyProof.Rows L2 VI VI.Std
open VI.Lay (itD ItOk LayT LayOk oL rgI sets oth lT)
abbrev Im := Lay.It
abbrev d0 : Im := ([], 0)
def Rws (P : List Int → Im → Prop) (C : List (List Int)) (its : List Im) : Prop := C.length = its.length ∧ ∀ i < its.length, P (C.getD i []) (its.getD i d0)
theorem rws_cons {P : List Int → Im → Prop} {r : List Int} {i : Im} {C : List (List Int)} {its : List Im} : Rws P (r :: C) (i :: its) ↔ P r i ∧ Rws P C its := by
  constructor
  · rintro ⟨h1, h2⟩
    refine ⟨h2 0 (by simp), by simpa using h1, fun k hk => ?_⟩
    have := h2 (k + 1) (by simpa using hk)
    simpa using this
  · rintro ⟨h1, h2, h3⟩
    refine ⟨by simpa using h2, fun k hk => ?_⟩
    cases k with
    | zero => simpa using h1
    | succ k => simpa using h3 k (by simpa using hk)
def ld (C : List (List Int)) (t : Int) : Nat := C.countP fun r => decide (t ∈ r)
def Wk (r : List Int) (i : Im) : Prop := r.Nodup ∧ ∀ x ∈ r, x ∈ i.1
def Fu (r : List Int) (i : Im) : Prop := Wk r i ∧ (r.length : Int) = i.2
def Va (r : List Int) (i : Im) : Prop := Wk r i ∧ (r.length : Int) ≤ i.2
def frc (V : List Int) : List Im → Int
  | [] => 0
  | i :: its => max 0 (i.2 - (i.1.filter fun x => !decide (x ∈ V)).length) + frc V its
theorem sub_len {r h : List Int} (hr : r.Nodup) (hs : ∀ x ∈ r, x ∈ h) (hh : h.Nodup) : r.length ≤ h.length := by
  have e : r.Perm (h.filter fun x => decide (x ∈ r)) := (List.perm_ext_iff_of_nodup hr (hh.sublist List.filter_sublist)).mpr fun a => by
    rw [List.mem_filter, decide_eq_true_eq]
    exact ⟨fun z => ⟨hs a z, z⟩, fun z => z.2⟩
  rw [e.length_eq]
  exact List.length_filter_le _ _
def cv (V r : List Int) : Nat := (V.filter fun t => decide (t ∈ r)).length
theorem cv_eq {V r : List Int} (hV : V.Nodup) (hr : r.Nodup) : cv V r = (r.filter fun t => decide (t ∈ V)).length := by
  unfold cv
  refine ((List.perm_ext_iff_of_nodup (hV.sublist List.filter_sublist) (hr.sublist List.filter_sublist)).mpr fun a => ?_).length_eq
  rw [List.mem_filter, List.mem_filter, decide_eq_true_eq, decide_eq_true_eq]
  exact And.comm
theorem split_len (V : List Int) : ∀ r : List Int, (r.filter fun t => decide (t ∈ V)).length + (r.filter fun t => !decide (t ∈ V)).length = r.length
  | [] => rfl
  | x :: r => by
    have := split_len V r
    rw [List.filter_cons, List.filter_cons, List.length_cons]
    by_cases q : x ∈ V
    · rw [if_pos (by simpa using q), if_neg (by simpa using q), List.length_cons]; omega
    · rw [if_neg (by simpa using q), if_pos (by simpa using q), List.length_cons]; omega
theorem add_sum {α : Type} (f g : α → Nat) : ∀ l : List α, (l.map fun x => f x + g x).sum = (l.map f).sum + (l.map g).sum
  | [] => rfl
  | x :: l => by simp only [List.map_cons, List.sum_cons, add_sum f g l]; omega
theorem ld_cons {r : List Int} {C : List (List Int)} {t : Int} : ld (r :: C) t = ld C t + if t ∈ r then 1 else 0 := by
  unfold ld
  rw [List.countP_cons]
  by_cases q : t ∈ r
  · rw [if_pos (decide_eq_true q), if_pos q]
  · rw [if_neg (by simpa using q), if_neg q]
theorem cnt_one (r : List Int) : ∀ V : List Int, (V.map fun t => if t ∈ r then 1 else 0).sum = cv V r
  | [] => rfl
  | t :: V => by
    have := cnt_one r V
    unfold cv at this ⊢
    rw [List.map_cons, List.sum_cons, this, List.filter_cons]
    by_cases q : t ∈ r
    · rw [if_pos q, if_pos (decide_eq_true q), List.length_cons]; omega
    · rw [if_neg q, if_neg (by simpa using q)]; omega
theorem sum_ld (V : List Int) : ∀ C : List (List Int), (V.map (ld C)).sum = (C.map (cv V)).sum
  | [] => by
    have : ∀ V : List Int, (V.map (ld [])).sum = 0 := fun V => by
      induction V with
      | nil => rfl
      | cons t V ih => rw [List.map_cons, List.sum_cons, ih]; rfl
    exact this V
  | r :: C => by
    have e : V.map (ld (r :: C)) = V.map fun t => ld C t + if t ∈ r then 1 else 0 := List.map_congr_left fun t _ => ld_cons
    rw [e, add_sum, sum_ld V C, cnt_one, List.map_cons, List.sum_cons]
    omega
theorem forced_row {V r : List Int} {i : Im} (hV : V.Nodup) (hi : i.1.Nodup) (h : Fu r i) : max 0 (i.2 - ((i.1.filter fun x => !decide (x ∈ V)).length : Int)) ≤ (cv V r : Int) := by
  obtain ⟨⟨h1, h2⟩, h3⟩ := h
  rw [cv_eq hV h1]
  have s := split_len V r
  have le : (r.filter fun t => !decide (t ∈ V)).length ≤ (i.1.filter fun x => !decide (x ∈ V)).length := sub_len (h1.sublist List.filter_sublist) (fun x hx => by
    obtain ⟨a, b⟩ := List.mem_filter.mp hx
    exact List.mem_filter.mpr ⟨h2 x a, b⟩) (hi.sublist List.filter_sublist)
  omega
theorem forced_le {V : List Int} (hV : V.Nodup) : ∀ (D : List (List Int)) (its : List Im), (∀ i ∈ its, i.1.Nodup) → Rws Fu D its → frc V its ≤ (((V.map (ld D)).sum : Nat) : Int)
  | [], [], _, _ => by rw [sum_ld]; exact Int.le_refl _
  | r :: D, i :: its, hi, h => by
    obtain ⟨h1, h2⟩ := rws_cons.mp h
    have ih := forced_le hV D its (fun j hj => hi j (List.mem_cons_of_mem _ hj)) h2
    have e := forced_row hV (hi i List.mem_cons_self) h1
    rw [sum_ld] at ih ⊢
    rw [List.map_cons, List.sum_cons, frc]
    push_cast
    omega
  | [], i :: its, _, h => by have := h.1; simp at this
  | r :: D, [], _, h => by have := h.1; simp at this
theorem cert_row {V r : List Int} {i : Im} (hV : V.Nodup) (hi : i.1.Nodup) (h : Va r i) (c2 : (∃ t ∈ V, t ∈ r) → ∀ x ∈ i.1, x ∉ r → x ∈ V) : (cv V r : Int) ≤ max 0 (i.2 - ((i.1.filter fun x => !decide (x ∈ V)).length : Int)) := by
  obtain ⟨⟨h1, h2⟩, h3⟩ := h
  by_cases q : ∃ t ∈ V, t ∈ r
  · have s := split_len V r
    rw [cv_eq hV h1]
    have le : (i.1.filter fun x => !decide (x ∈ V)).length ≤ (r.filter fun t => !decide (t ∈ V)).length := sub_len (hi.sublist List.filter_sublist) (fun x hx => by
      obtain ⟨a, b⟩ := List.mem_filter.mp hx
      have nv : x ∉ V := by simpa using b
      refine List.mem_filter.mpr ⟨Classical.byContradiction fun z => nv (c2 q x a z), b⟩) (h1.sublist List.filter_sublist)
    omega
  · have : cv V r = 0 := by
      unfold cv
      rw [List.length_eq_zero_iff, List.filter_eq_nil_iff]
      exact fun t ht z => q ⟨t, ht, by simpa using z⟩
    omega
theorem cert_row1 {V r : List Int} {i : Im} (hV : V.Nodup) (hi : i.1.Nodup) (h : Wk r i) (h3 : (r.length : Int) < i.2) (c3 : ∀ x ∈ i.1, x ∉ r → x ∈ V) : (cv V r : Int) + 1 ≤ max 0 (i.2 - ((i.1.filter fun x => !decide (x ∈ V)).length : Int)) := by
  obtain ⟨h1, h2⟩ := h
  have s := split_len V r
  rw [cv_eq hV h1]
  have le : (i.1.filter fun x => !decide (x ∈ V)).length ≤ (r.filter fun t => !decide (t ∈ V)).length := sub_len (hi.sublist List.filter_sublist) (fun x hx => by
    obtain ⟨a, b⟩ := List.mem_filter.mp hx
    have nv : x ∉ V := by simpa using b
    exact List.mem_filter.mpr ⟨Classical.byContradiction fun z => nv (c3 x a z), b⟩) (h1.sublist List.filter_sublist)
  omega
theorem cert_sum {V : List Int} (hV : V.Nodup) : ∀ (C : List (List Int)) (its : List Im), (∀ i ∈ its, i.1.Nodup) → Rws Va C its → (∀ k < its.length, (∃ t ∈ V, t ∈ C.getD k []) → ∀ x ∈ (its.getD k d0).1, x ∉ C.getD k [] → x ∈ V) → ((((C.map (cv V)).sum : Nat) : Int) ≤ frc V its)
  | [], [], _, _, _ => Int.le_refl _
  | r :: C, i :: its, hi, h, c2 => by
    obtain ⟨h1, h2⟩ := rws_cons.mp h
    have ih := cert_sum hV C its (fun j hj => hi j (List.mem_cons_of_mem _ hj)) h2 fun k hk => by
      have := c2 (k + 1) (by simpa using hk)
      simpa using this
    have e := cert_row hV (hi i List.mem_cons_self) h1 (by have := c2 0 (by simp); simpa using this)
    rw [List.map_cons, List.sum_cons, frc]
    push_cast
    omega
  | [], i :: its, _, h, _ => by have := h.1; simp at this
  | r :: C, [], _, h, _ => by have := h.1; simp at this
theorem cert {V : List Int} (hV : V.Nodup) : ∀ (C : List (List Int)) (its : List Im) (j : Nat), (∀ i ∈ its, i.1.Nodup) → Rws Va C its → j < its.length → ((C.getD j []).length : Int) < (its.getD j d0).2 → (∀ k < its.length, (∃ t ∈ V, t ∈ C.getD k []) → ∀ x ∈ (its.getD k d0).1, x ∉ C.getD k [] → x ∈ V) → (∀ x ∈ (its.getD j d0).1, x ∉ C.getD j [] → x ∈ V) → ((((C.map (cv V)).sum : Nat) : Int) + 1 ≤ frc V its)
  | [], i :: its, _, _, h, _, _, _, _ => by have := h.1; simp at this
  | _, [], j, _, _, hj, _, _, _ => by simp at hj
  | r :: C, i :: its, 0, hi, h, _, hs, c2, c3 => by
    obtain ⟨h1, h2⟩ := rws_cons.mp h
    have ih := cert_sum hV C its (fun j hj => hi j (List.mem_cons_of_mem _ hj)) h2 fun k hk => by
      have := c2 (k + 1) (by simpa using hk)
      simpa using this
    have e := cert_row1 hV (hi i List.mem_cons_self) h1.1 (by simpa using hs) (by simpa using c3)
    rw [List.map_cons, List.sum_cons, frc]
    push_cast
    omega
  | r :: C, i :: its, j + 1, hi, h, hj, hs, c2, c3 => by
    obtain ⟨h1, h2⟩ := rws_cons.mp h
    have ih := cert hV C its j (fun j hj => hi j (List.mem_cons_of_mem _ hj)) h2 (by simpa using hj) (by simpa using hs) (fun k hk => by
      have := c2 (k + 1) (by simpa using hk)
      simpa using this) (by simpa using c3)
    have e := cert_row hV (hi i List.mem_cons_self) h1 (by have := c2 0 (by simp); simpa using this)
    rw [List.map_cons, List.sum_cons, frc]
    push_cast
    omega
theorem sum_le {V : List Int} {C : List (List Int)} {L : Int} (h : ∀ t ∈ V, (ld C t : Int) ≤ L) : (((V.map (ld C)).sum : Nat) : Int) ≤ L * V.length := by
  induction V with
  | nil => simp
  | cons t V ih =>
    have h1 := h t List.mem_cons_self
    have h2 := ih fun s hs => h s (List.mem_cons_of_mem _ hs)
    rw [List.map_cons, List.sum_cons, List.length_cons]
    push_cast
    rw [Int.mul_add]
    omega
end VI.Fl
end
section
namespace VI.Fl
open PySem PySem.Spec PyProof.Rows L2 VI VI.Std
open VI.Lay (itD ItOk LayT LayOk oL rgI sets oth lT)
abbrev Par := Option (Nat × Int)
abbrev Mp := List (Int × Par)
abbrev St := Mp × List Int
def ks (M : Mp) : List Int := M.map (·.1)
def add1 (i : Nat) (sv : Int) (r : List Int) (s : St) (t : Int) : St := if t ∉ r ∧ t ∉ ks s.1 then (s.1 ++ [(t, some (i, sv))], s.2 ++ [t]) else s
def scan1 (its : List Im) (sv : Int) (s : St) (p : List Int × Nat) : St := if sv ∈ p.1 then (its.getD p.2 d0).1.foldl (add1 p.2 sv p.1) s else s
def scan (its : List Im) (C : List (List Int)) (sv : Int) (s : St) : St := C.zipIdx.foldl (scan1 its sv) s
def bfs (its : List Im) (C : List (List Int)) (L : Int) : Nat → St → Option (Option (Mp × Int))
  | 0, _ => none
  | _ + 1, (_, []) => some none
  | f + 1, (M, sv :: Q) => if (ld C sv : Int) < L then some (some (M, sv)) else bfs its C L f (scan its C sv (M, Q))
def OkS (its : List Im) (C : List (List Int)) (i : Nat) (o t : Int) : Prop := i < its.length ∧ o ∈ C.getD i [] ∧ t ∉ C.getD i [] ∧ t ∈ (its.getD i d0).1
inductive ParM (its : List Im) (C : List (List Int)) (st : Int) : Mp → Prop
  | one : ParM its C st [(st, none)]
  | snoc {M : Mp} {t : Int} {i : Nat} {o : Int} : ParM its C st M → o ∈ ks M → t ∉ ks M → OkS its C i o t → ParM its C st (M ++ [(t, some (i, o))])
theorem ks_snoc {M : Mp} {t : Int} {p : Par} : ks (M ++ [(t, p)]) = ks M ++ [t] := by simp [ks]
theorem ParM.nodup {its : List Im} {C : List (List Int)} {st : Int} {M : Mp} (h : ParM its C st M) : (ks M).Nodup := by
  induction h with
  | one => simp [ks]
  | snoc h ho ht ok ih =>
    rw [ks_snoc, List.nodup_append]
    refine ⟨ih, by simp, fun a ha b hb => ?_⟩
    rw [List.mem_singleton.mp hb]
    intro z; exact ht (z ▸ ha)
def Cov (its : List Im) (C : List (List Int)) (p : Int) (V : List Int) : Prop := ∀ k < its.length, p ∈ C.getD k [] → ∀ x ∈ (its.getD k d0).1, x ∉ C.getD k [] → x ∈ V
theorem Cov.mono {its : List Im} {C : List (List Int)} {p : Int} {V W : List Int} (h : Cov its C p V) (s : ∀ x ∈ V, x ∈ W) : Cov its C p W := fun k hk hp x hx hn => s x (h k hk hp x hx hn)
structure Ext (its : List Im) (C : List (List Int)) (st : Int) (s s' : St) : Prop where
  par : ParM its C st s'.1
  grow : ∃ E, ks s'.1 = ks s.1 ++ E ∧ s'.2 = s.2 ++ E
theorem Ext.refl {its : List Im} {C : List (List Int)} {st : Int} {s : St} (h : ParM its C st s.1) : Ext its C st s s := ⟨h, [], by simp, by simp⟩
theorem Ext.trans {its : List Im} {C : List (List Int)} {st : Int} {a b c : St} (h1 : Ext its C st a b) (h2 : Ext its C st b c) : Ext its C st a c := by
  obtain ⟨E, e1, e2⟩ := h1.grow
  obtain ⟨F, f1, f2⟩ := h2.grow
  exact ⟨h2.par, E ++ F, by rw [f1, e1, List.append_assoc], by rw [f2, e2, List.append_assoc]⟩
theorem Ext.sub {its : List Im} {C : List (List Int)} {st : Int} {a b : St} (h : Ext its C st a b) : ∀ x ∈ ks a.1, x ∈ ks b.1 := fun x hx => by
  obtain ⟨E, e1, _⟩ := h.grow
  rw [e1]
  exact List.mem_append.mpr (.inl hx)
structure Wk_ (its : List Im) (C : List (List Int)) (L : Int) (st : Int) (n : Nat) (P : List Int) (s : St) : Prop where
  par : ParM its C st s.1
  keys : ks s.1 = P ++ s.2
  full : ∀ p ∈ P, L ≤ (ld C p : Int)
  cov : ∀ p ∈ P, Cov its C p (ks s.1)
def Found (its : List Im) (C : List (List Int)) (L st : Int) : Option (Mp × Int) → Prop
  | some (M, sv) => ParM its C st M ∧ sv ∈ ks M ∧ (ld C sv : Int) < L
  | none => ∃ V : List Int, V.Nodup ∧ st ∈ V ∧ (∀ p ∈ V, L ≤ (ld C p : Int)) ∧ ∀ p ∈ V, Cov its C p V
theorem start_ok {its : List Im} {C : List (List Int)} {L st : Int} {n : Nat} : Wk_ its C L st n [] ([(st, none)], [st]) := ⟨.one, rfl, fun _ z => (nomatch z), fun _ z => (nomatch z)⟩
def lk (M : Mp) (t : Int) : Option Par := (M.find? fun p => decide (p.1 = t)).map (·.2)
def stp (M : Mp) : Nat → Int → List (Nat × Int × Int)
  | 0, _ => []
  | f + 1, t => match lk M t with
    | some (some (i, o)) => (i, o, t) :: stp M f o
    | _ => []
def Lnk : List (Nat × Int × Int) → Int → Int → Prop
  | [], e, st => e = st
  | (_, o, t) :: l, e, st => e = t ∧ Lnk l o st
def olds (l : List (Nat × Int × Int)) : List Int := l.map (·.2.1)
theorem lk_old {M : Mp} {t u : Int} {p : Par} (h : t ∈ ks M) : lk (M ++ [(u, p)]) t = lk M t := by
  unfold lk
  rw [List.find?_append]
  have : (M.find? fun p => decide (p.1 = t)).isSome = true := by
    rw [List.find?_isSome]
    obtain ⟨p, hp, e⟩ := List.mem_map.mp h
    exact ⟨p, hp, by simpa using e⟩
  cases q : M.find? fun p => decide (p.1 = t) with
  | none => rw [q] at this; cases this
  | some x => rfl
theorem lk_new {M : Mp} {t : Int} {p : Par} (h : t ∉ ks M) : lk (M ++ [(t, p)]) t = some p := by
  unfold lk
  rw [List.find?_append]
  have : (M.find? fun p => decide (p.1 = t)) = none := by
    rw [List.find?_eq_none]
    intro p hp z
    exact h (List.mem_map.mpr ⟨p, hp, by simpa using z⟩)
  rw [this]
  simp
theorem par_in {its : List Im} {C : List (List Int)} {st : Int} {M : Mp} (h : ParM its C st M) : ∀ t ∈ ks M, ∀ i o, lk M t = some (some (i, o)) → o ∈ ks M := by
  induction h with
  | one => intro t ht i o e; simp [ks] at ht; subst ht; simp [lk] at e
  | snoc h ho ht ok ih =>
    intro t' ht' i' o' e
    rw [ks_snoc] at ht' ⊢
    rcases List.mem_append.mp ht' with z | z
    · rw [lk_old z] at e
      exact List.mem_append.mpr (.inl (ih t' z i' o' e))
    · rw [List.mem_singleton.mp z, lk_new ht] at e
      cases e
      exact List.mem_append.mpr (.inl ho)
theorem stp_old {its : List Im} {C : List (List Int)} {st : Int} {M : Mp} (h : ParM its C st M) {u : Int} {p : Par} : ∀ (f : Nat) (t : Int), t ∈ ks M → stp (M ++ [(u, p)]) f t = stp M f t
  | 0, _, _ => rfl
  | f + 1, t, ht => by
    unfold stp
    rw [lk_old ht]
    match q : lk M t with
    | some (some (i, o)) =>
      show (i, o, t) :: stp (M ++ [(u, p)]) f o = (i, o, t) :: stp M f o
      rw [stp_old h f o (par_in h t ht i o q)]
    | some none => rfl
    | none => rfl
theorem stp_ok {its : List Im} {C : List (List Int)} {st : Int} {M : Mp} (h : ParM its C st M) : ∀ t ∈ ks M, ∀ f, M.length ≤ f → Lnk (stp M f t) t st ∧ (∀ x ∈ olds (stp M f t), x ∈ ks M) ∧ (t :: olds (stp M f t)).Nodup ∧ (∀ s ∈ stp M f t, OkS its C s.1 s.2.1 s.2.2) ∧ (stp M f t).length < M.length := by
  induction h with
  | one =>
    intro t ht f hf
    simp [ks] at ht
    subst ht
    obtain ⟨g, rfl⟩ : ∃ g, f = g + 1 := ⟨f - 1, by simp at hf; omega⟩
    have : stp [(t, none)] (g + 1) t = [] := by simp [stp, lk]
    rw [this]
    exact ⟨rfl, fun _ z => (nomatch z), by simp [olds], fun _ z => (nomatch z), by simp⟩
  | snoc h ho ht ok ih =>
    rename_i M t i o
    intro t' ht' f hf
    rw [ks_snoc] at ht'
    rw [List.length_append, List.length_singleton] at hf
    rcases List.mem_append.mp ht' with z | z
    · rw [stp_old h f t' z]
      obtain ⟨a1, a2, a3, a4, a5⟩ := ih t' z f (by omega)
      exact ⟨a1, fun x hx => by rw [ks_snoc]; exact List.mem_append.mpr (.inl (a2 x hx)), a3, a4, by rw [List.length_append]; omega⟩
    · rw [List.mem_singleton.mp z]
      obtain ⟨g, rfl⟩ : ∃ g, f = g + 1 := ⟨f - 1, by omega⟩
      have e : stp (M ++ [(t, some (i, o))]) (g + 1) t = (i, o, t) :: stp M g o := by
        simp only [stp, lk_new ht]
        rw [stp_old h g o ho]
      rw [e]
      obtain ⟨a1, a2, a3, a4, a5⟩ := ih o ho g (by omega)
      have nin : t ∉ o :: olds (stp M g o) := fun w => by
        rcases List.mem_cons.mp w with w | w
        · exact ht (w ▸ ho)
        · exact ht (a2 t w)
      refine ⟨⟨rfl, a1⟩, fun x hx => ?_, ?_, fun s hs => ?_, by rw [List.length_append, List.length_cons, List.length_singleton]; omega⟩
      · rw [ks_snoc]
        rcases List.mem_cons.mp hx with w | w
        · rw [w]; exact List.mem_append.mpr (.inl ho)
        · exact List.mem_append.mpr (.inl (a2 x w))
      · show (t :: o :: olds (stp M g o)).Nodup
        exact List.nodup_cons.mpr ⟨nin, a3⟩
      · rcases List.mem_cons.mp hs with w | w
        · rw [w]; exact ok
        · exact a4 s w
end VI.Fl
end
section
namespace VI.Fl
open PySem PySem.Spec PyProof.Rows L2 VI VI.Std
open VI.Lay (itD ItOk LayT LayOk oL rgI sets oth lT)
abbrev Sp := Nat × Int × Int
def mv1 (C : List (List Int)) (s : Sp) : List (List Int) := C.set s.1 (((C.getD s.1 []).filter fun x => !decide (x = s.2.1)) ++ [s.2.2])
def mvs (C : List (List Int)) (l : List Sp) : List (List Int) := l.foldl mv1 C
def mvd (C : List (List Int)) (l : List Sp) : List (List Int) := (mvs C l).map sortI
def more (C : List (List Int)) (j : Nat) (st : Int) (l : List Sp) : List (List Int) := (mvd C l).set j (sortI ((mvd C l).getD j [] ++ [st]))
def Vs (r : List Int) (i : Im) : Prop := r.Pairwise (· < ·) ∧ (∀ x ∈ r, x ∈ i.1) ∧ (r.length : Int) ≤ i.2
theorem Vs.wk {r : List Int} {i : Im} (h : Vs r i) : Wk r i := ⟨List.nodup_iff_pairwise_ne.mpr (h.1.imp fun a => by omega), h.2.1⟩
theorem Vs.va {r : List Int} {i : Im} (h : Vs r i) : Va r i := ⟨h.wk, h.2.2⟩
theorem rws_imp {P Q : List Int → Im → Prop} (hPQ : ∀ r i, P r i → Q r i) {C : List (List Int)} {its : List Im} (h : Rws P C its) : Rws Q C its := ⟨h.1, fun k hk => hPQ _ _ (h.2 k hk)⟩
theorem mem_sortI {l : List Int} {x : Int} : x ∈ sortI l ↔ x ∈ l := (sortI_perm l).mem_iff
theorem len_sortI {l : List Int} : (sortI l).length = l.length := (sortI_perm l).length_eq
end VI.Fl
end
section
namespace VI.Fl
open PySem PySem.Spec PyProof.Rows L2 VI VI.Std
open VI.Lay (itD ItOk LayT LayOk oL rgI sets oth lT)
inductive Rch (its : List Im) (C : List (List Int)) (s : Int) : Int → Prop
  | refl : Rch its C s s
  | step {p x : Int} {k : Nat} : Rch its C s p → k < its.length → p ∈ C.getD k [] → x ∈ (its.getD k d0).1 → x ∉ C.getD k [] → Rch its C s x
theorem Rch.mem {its : List Im} {C : List (List Int)} {s x : Int} {V : List Int} (h : Rch its C s x) (hs : s ∈ V) (cl : ∀ p ∈ V, Cov its C p V) : x ∈ V := by
  induction h with
  | refl => exact hs
  | step h hk hp hx hn ih => exact cl _ ih _ hk hp _ hx hn
structure Itz (n : Nat) (its : List Im) : Prop where
  nd : ∀ i ∈ its, i.1.Nodup
  rg : ∀ i ∈ its, ∀ x ∈ i.1, 0 ≤ x ∧ x < n
  one : ∀ i ∈ its, 1 ≤ i.2
  fit : ∀ i ∈ its, i.2 ≤ i.1.length
theorem getD_mem {its : List Im} {k : Nat} (h : k < its.length) : its.getD k d0 ∈ its := by
  rw [List.getD_eq_getElem?_getD, List.getElem?_eq_getElem h]
  exact List.getElem_mem _
def path (its : List Im) (C : List (List Int)) (L st : Int) : Option (Mp × Int) := (bfs its C L 1000 ([(st, none)], [st])).getD none
theorem SetN.nd {n : Nat} {X : List Int} (h : SetN n X) : X.Nodup := List.nodup_iff_pairwise_ne.mpr (h.up.imp fun a => by omega)
def wom (its : List Im) (C : List (List Int)) (j : Nat) (L : Int) : Option (List (List Int)) := (its.getD j d0).1.findSome? fun s => if s ∈ C.getD j [] then none else (path its C L s).map fun p => more C j s (stp p.1 1000 p.2)
def Cert (n : Nat) (its : List Im) (L : Int) : Prop := ∃ V : List Int, SetN n V ∧ V ≠ [] ∧ L * V.length + 1 ≤ frc V its
def grow (its : List Im) (L : Int) (j : Nat) : Nat → List (List Int) → List (List Int)
  | 0, C => C
  | f + 1, C => if ((C.getD j []).length : Int) < (its.getD j d0).2 then match wom its C j L with
    | some C' => grow its L j f C'
    | none => C
    else C
def fillA (its : List Im) (L : Int) : Nat → Nat → List (List Int) → List (List Int)
  | 0, _, C => C
  | m + 1, a, C => fillA its L m (a + 1) (grow its L a 900 C)
def fill (its : List Im) (L : Int) : List (List Int) := fillA its L its.length 0 (its.map fun _ => [])
def Full (C : List (List Int)) (its : List Im) : Prop := ∀ k < its.length, ((C.getD k []).length : Int) = (its.getD k d0).2
def whole (its : List Im) : Int := (its.map (·.2)).sum
theorem cnt_fu {C : List (List Int)} {its : List Im} (h : Rws Va C its) (f : Full C its) : Rws Fu C its := ⟨h.1, fun k hk => ⟨(h.2 k hk).1, f k hk⟩⟩
theorem no_cert {n : Nat} {its : List Im} {L : Int} {D : List (List Int)} (I : Itz n its) (hD : Rws Fu D its) (hL : ∀ x : Int, 0 ≤ x ∧ x < n → (ld D x : Int) ≤ L) : ¬ Cert n its L := by
  rintro ⟨V, h1, h2, h3⟩
  have a := forced_le (SetN.nd h1) D its I.nd hD
  have b := sum_le (V := V) (C := D) (L := L) fun t ht => hL t (h1.lo t ht)
  omega
structure Least (n : Nat) (its : List Im) (L : Int) (C : List (List Int)) : Prop where
  rows : Rws Vs C its
  full : Full C its
  le : ∀ x, (ld C x : Int) ≤ L
  cert : Cert n its (L - 1)
theorem Least.most {n : Nat} {its : List Im} {L : Int} {C : List (List Int)} (I : Itz n its) (h : Least n its L C) {D : List (List Int)} (hD : Rws Fu D its) : ∃ x : Int, (0 ≤ x ∧ x < n) ∧ L ≤ (ld D x : Int) := by
  refine Classical.byContradiction fun z => no_cert (L := L - 1) I hD (fun x hx => ?_) h.cert
  have : ¬ L ≤ (ld D x : Int) := fun w => z ⟨x, hx, w⟩
  omega
theorem Least.fu {n : Nat} {its : List Im} {L : Int} {C : List (List Int)} (h : Least n its L C) : Rws Fu C its := cnt_fu (rws_imp (fun _ _ h => Vs.va h) h.rows) h.full
end VI.Fl
end
section
namespace VI.Fl
open PySem PySem.Spec PyProof.Rows L2 VI VI.Std
open VI.Lay (itD ItOk LayT LayOk oL rgI sets oth lT)
end VI.Fl
end
section
namespace VI.Fl
open PySem PySem.Spec PyProof.Rows L2 VI VI.Std
open VI.Lay (itD ItOk LayT LayOk oL rgI sets oth lT lt_ok ge_ok fld0 fld1 lenTI stG stG_at stG_new stG_app stG_end)
def l1_steps_to (T : Tb) : SS := (ssCons (ssAsg (sOp ixX (sVar 0) (sVar 1)) (sgTup 2 (sgCons (sgName 3) (sgCons (sgName 4) sgNil))))
  (ssCons (ssExpr (sBm appD (sVar 2) (saCons (sTup (saCons (sVar 3) (saCons (sVar 4) (saCons (sVar 1) saNil)))) saNil)))
  (ssCons (ssAsg (sVar 4) (sgName 1))
  ssNil)))
def s_steps_to (T : Tb) : SS := (ssCons (ssAsg (sLst true saNil) (sgName 2))
  (ssCons (whileS (sUn (isN true) (sOp ixX (sVar 0) (sVar 1)))
  (l1_steps_to T) 1000)
  (ssCons (ssRet (sVar 2))
  ssNil)))
def f_steps_to (T : Tb) : List D → Bs → R D := runFn 2 5 (s_steps_to T)
def l1_path_from (T : Tb) : SS := (ssCons (ssIf (sAnd (sOp (inX true) (sVar 10) (sVar 9)) (sOp (inX true) (sVar 10) (sVar 5)))
  (ssCons (ssPutX (sVar 5) (sVar 10) (sTup (saCons (sVar 8) (saCons (sVar 7) saNil))))
  (ssCons (ssExpr (sBm appD (sVar 6) (saCons (sVar 10) saNil)))
  ssNil))
  ssNil)
  ssNil)
def l2_path_from (T : Tb) : SS := (ssCons (ssFor (siX (sIte (sOp (inX false) (sVar 7) (sVar 9)) (sOp ixX (sOp ixX (sUn (fldD T 1) (sVar 0)) (sVar 8)) (sK (.int 0))) (sTup saNil))) (sgName 10)
  (l1_path_from T))
  ssNil)
def l3_path_from (T : Tb) : SS := (ssCons (ssAsg (sTup (saCons (sOp ixX (sVar 6) (sK (.int 0))) (saCons (sSl true (sVar 6) (soSome (sK (.int 1))) soNone) saNil))) (sgTup 2 (sgCons (sgName 7) (sgCons (sgName 6) sgNil))))
  (ssCons (ssIf (sOp ltS (sOp ixX (sVar 4) (sVar 7)) (sOp ixX (sVar 3) (sVar 7)))
  (ssCons (ssRet (sCall (f_steps_to T) (saCons (sVar 5) (saCons (sVar 7) saNil))))
  ssNil)
  ssNil)
  (ssCons (ssFor (siArg itEnum2 (saCons (sVar 1) saNil)) (sgTup 2 (sgCons (sgName 8) (sgCons (sgName 9) sgNil)))
  (l2_path_from T))
  ssNil)))
section
variable {K : PySem.W.Frag} {ct : Ct} {h : Bs} {n : Nat} {its : List Im} {C : List (List Int)} {L st : Int}
theorem take_end {h hh : Bs} (e1 : hh.bs.take h.bs.length = h.bs) : outB h hh = h := by
  unfold outB
  rw [e1]
theorem run_preN {np ns : Nat} {s : SS} {ds : List D} {ρ : Ev} {hh : Bs} (hl : ds.length = np) (hs : s (slots ns ds) (inB h) = .nx ρ hh) (hp : hh.bs.take h.bs.length = h.bs) : runFn np ns s ds h = .ok .non h := by
  unfold runFn
  rw [if_pos hl, hs]
  simp only [finF, take_end hp]
theorem set_same {b : Nat} {x : Bx} {l : List Bx} (hb : l[b]? = some x) : l.set b x = l := by
  refine List.ext_getElem? fun i => ?_
  by_cases q : b = i
  · subst q
    rw [List.getElem?_set_self (List.getElem?_eq_some_iff.mp hb).1, hb]
  · rw [List.getElem?_set_ne q]
theorem lock_eq {b : Nat} {xs : List D} (hb : h.bs[b]? = some (.lst false xs)) : lockB b h = ⟨h.fbs, h.bs.set b (.lst true xs)⟩ := by
  unfold lockB
  simp only [hb]
theorem unl_eq {b : Nat} {xs : List D} (hb : h.bs[b]? = some (.lst true xs)) : unlB b h = ⟨h.fbs, h.bs.set b (.lst false xs)⟩ := by
  unfold unlB
  simp only [hb]
def Chv (h : Bs) (d : D) (xs : List D) : Prop := d = .lst xs ∨ ∃ b, d = .ref b ∧ h.bs[b]? = some (.lst false xs)
theorem Chv.inB {d : D} {xs : List D} (c : Chv h d xs) : Chv (inB h) d xs := c
def chD (C : List (List Int)) : List D := C.map fun r => tI r
def lds (n : Nat) (C : List (List Int)) : List Int := (rgI n).map fun x => (ld C x : Int)
theorem rng_I {n : Nat} (hn : n < 2 ^ 24) : itRng1 [.int n] h = .ok ((rgI n).map .int, none) h := by
  rw [rng_ok hn]
  unfold rgI
  rw [List.map_map]
  rfl
def mkK (M : Mp) : List Key := M.map fun p => .inl p.1
def pD : Par → D
  | none => .non
  | some (i, o) => .tup [.int i, .int o]
def mvD (M : Mp) : List D := M.map fun p => pD p.2
def spD (s : Sp) : D := .tup [.int s.1, .int s.2.1, .int s.2.2]
theorem look_m {t : Int} : ∀ M : Mp, lookK (mkK M) (mvD M) (.inl t : Key) = (lk M t).map pD
  | [] => rfl
  | (x, p) :: M => by
    have ih := look_m (t := t) M
    unfold lk at ih ⊢
    unfold mkK mvD at ih ⊢
    rw [List.map_cons, List.map_cons, lookK, List.find?_cons]
    by_cases q : x = t
    · subst q
      simp
    · rw [if_neg (by simp [q]), ih]
      simp [q]
theorem lk_in {M : Mp} {t : Int} : (lk M t).isSome = decide (t ∈ ks M) := by
  unfold lk ks
  rw [Option.isSome_map, Bool.eq_iff_iff, List.find?_isSome, decide_eq_true_eq, List.mem_map]
  simp
def Dat (h : Bs) (b : Nat) (M : Mp) : Prop := h.bs[b]? = some (.dct false (.k (mkK M)) (mvD M))
theorem dat_dk {b : Nat} {M : Mp} (e : Dat h b M) : isDk (.ref b) h = true := by
  have e : h.bs[b]? = some (.dct false (.k (mkK M)) (mvD M)) := e
  simp only [isDk, dctO, e]; rfl
theorem ix_m {b : Nat} {M : Mp} {t : Int} {p : Par} (e : Dat h b M) (e2 : lk M t = some p) : ixX (.ref b) (.int t) h = .ok (pD p) h := by
  show (if isDk (.ref b) h = true then dgetD (.ref b) (.int t) h else ixD (.ref b) (.int t) h) = _
  rw [if_pos (dat_dk e)]
  have e : h.bs[b]? = some (.dct false (.k (mkK M)) (mvD M)) := e
  simp only [dgetD, dctO, e, koD, keyD, Option.map_some, Ks.look, look_m, e2]
theorem in_m {b : Nat} {M : Mp} {t : Int} (e : Dat h b M) : inX true (.int t) (.ref b) h = .ok (.bl (decide (t ∉ ks M))) h := by
  show (if isDk (.ref b) h = true then dinD true (.int t) (.ref b) h else inD true (.int t) (.ref b) h) = _
  rw [if_pos (dat_dk e)]
  have e : h.bs[b]? = some (.dct false (.k (mkK M)) (mvD M)) := e
  simp only [dinD, dctO, e, koD, keyD, Option.map_some, Ks.look, look_m, Option.isSome_map, lk_in]
  by_cases q : t ∈ ks M <;> simp [q]
def Ch (M : Mp) : Int → List Sp → Prop
  | t, [] => lk M t = some none
  | t, (i, o, t') :: l => t' = t ∧ lk M t = some (some (i, o)) ∧ Ch M o l
theorem ch_stp {its : List Im} {C : List (List Int)} {st : Int} {M : Mp} (h : ParM its C st M) : ∀ (f : Nat) (t : Int), t ∈ ks M → (stp M f t).length < f → Ch M t (stp M f t)
  | 0, t, _, hl => absurd hl (by omega)
  | f + 1, t, ht, hl => by
    have hs : (lk M t).isSome = true := by rw [lk_in]; exact decide_eq_true ht
    unfold stp at hl ⊢
    match q : lk M t with
    | none => rw [q] at hs; cases hs
    | some none => exact q
    | some (some (i, o)) =>
      rw [q] at hl
      have hl : (stp M f o).length + 1 < f + 1 := hl
      exact ⟨rfl, q, ch_stp h f o (par_in h t ht i o q) (by omega)⟩
theorem steps_loop {b : Nat} {M : Mp} (hb : Dat h b M) : ∀ (l : List Sp) (t : Int) (A : List D) (f : Nat) (x3 x4 : Option D), Ch M t l → l.length < f → A.length + l.length ≤ 900 → ∃ y1 y3 y4,
    whileS (sUn (isN true) (sOp ixX (sVar 0) (sVar 1))) (l1_steps_to (tbC ct K)) f [some (.ref b), some (.int t), some (.ref h.bs.length), x3, x4] (stG h A) = .nx [some (.ref b), y1, some (.ref h.bs.length), y3, y4] (stG h (A ++ l.map spD))
  | [], t, A, f, x3, x4, hc, hf, _ => by
    obtain ⟨g, rfl⟩ : ∃ g, f = g + 1 := ⟨f - 1, by simp at hf; omega⟩
    have hd : Dat (stG h A) b M := by
      have hb : h.bs[b]? = some (.dct false (.k (mkK M)) (mvD M)) := hb
      show (h.bs ++ _)[b]? = _
      rw [List.getElem?_append_left (List.getElem?_eq_some_iff.mp hb).1, hb]
    have c1 : (sUn (isN true) (sOp ixX (sVar 0) (sVar 1))) [some (.ref b), some (.int t), some (.ref h.bs.length), x3, x4] (stG h A) = .ok (.bl false) (stG h A) := un_ok (x := .non) (op_ok (x := .ref b) (y := .int t) rfl rfl (ix_m hd hc)) rfl
    refine ⟨some (.int t), x3, x4, ?_⟩
    rw [List.map_nil, List.append_nil]
    simp only [whileS, sTru, c1, bind_ok, truth, toF_ok, Bool.false_eq_true, if_false]
  | (i, o, t') :: l, t, A, f, x3, x4, hc, hf, hA => by
    obtain ⟨rfl, hc1, hc2⟩ := hc
    obtain ⟨g, rfl⟩ : ∃ g, f = g + 1 := ⟨f - 1, by simp at hf; omega⟩
    have hd : Dat (stG h A) b M := by
      have hb : h.bs[b]? = some (.dct false (.k (mkK M)) (mvD M)) := hb
      show (h.bs ++ _)[b]? = _
      rw [List.getElem?_append_left (List.getElem?_eq_some_iff.mp hb).1, hb]
    have c1 : (sUn (isN true) (sOp ixX (sVar 0) (sVar 1))) [some (.ref b), some (.int t'), some (.ref h.bs.length), x3, x4] (stG h A) = .ok (.bl true) (stG h A) := un_ok (x := .tup [.int i, .int o]) (op_ok (x := .ref b) (y := .int t') rfl rfl (ix_m hd hc1)) rfl
    have hA' : A.length + l.length + 1 ≤ 900 := by rw [List.length_cons] at hA; omega
    obtain ⟨y1, y3, y4, e⟩ := steps_loop hb l o (A ++ [spD (i, o, t')]) g (some (.int i)) (some (.int o)) hc2 (by rw [List.length_cons] at hf; omega) (by rw [List.length_append, List.length_singleton]; omega)
    refine ⟨y1, y3, y4, ?_⟩
    have body : l1_steps_to (tbC ct K) [some (.ref b), some (.int t'), some (.ref h.bs.length), x3, x4] (stG h A) = .nx [some (.ref b), some (.int o), some (.ref h.bs.length), some (.int i), some (.int o)] (stG h (A ++ [spD (i, o, t')])) := by
      unfold l1_steps_to
      refine (cons_nx (ρ1 := [some (.ref b), some (.int t'), some (.ref h.bs.length), some (.int i), some (.int o)]) (h1 := stG h A) (asg_ok (d := .tup [.int i, .int o]) (op_ok (x := .ref b) (y := .int t') rfl rfl (ix_m hd hc1)) rfl)).trans ?_
      refine (cons_nx (h1 := stG h (A ++ [spD (i, o, t')])) (expr_ok (d := .non) (bm_ok (o := .ref h.bs.length) (xs := [spD (i, o, t')]) rfl (by simp only [lstOf, stG_at]; rfl) rfl (stG_app (by omega))))).trans ?_
      exact (cons_nx (asg_ok rfl rfl)).trans rfl
    have w : whileS (sUn (isN true) (sOp ixX (sVar 0) (sVar 1))) (l1_steps_to (tbC ct K)) (g + 1) [some (.ref b), some (.int t'), some (.ref h.bs.length), x3, x4] (stG h A) = whileS (sUn (isN true) (sOp ixX (sVar 0) (sVar 1))) (l1_steps_to (tbC ct K)) g [some (.ref b), some (.int o), some (.ref h.bs.length), some (.int i), some (.int o)] (stG h (A ++ [spD (i, o, t')])) := by
      conv => lhs; simp only [whileS, sTru, c1, bind_ok, truth, toF_ok, if_true, body]
    rw [w, e, List.map_cons, List.append_assoc]
    rfl
theorem noD_sp : ∀ l : List Sp, noDs (l.map spD) = true
  | [] => rfl
  | s :: l => by
    rw [List.map_cons]
    simp [noDs, noD, spD, noD_sp l]
theorem steps_to_ok {b : Nat} {M : Mp} {t : Int} (hb : Dat h b M) (P : ParM its C st M) (ht : t ∈ ks M) (hM : M.length ≤ 900) : f_steps_to (tbC ct K) [.ref b, .int t] h = .ok (.lst ((stp M 1000 t).map spD)) h := by
  obtain ⟨a1, a2, a3, a4, a5⟩ := stp_ok P t ht 1000 (by omega)
  obtain ⟨y1, y3, y4, e⟩ := steps_loop (K := K) (ct := ct) hb (stp M 1000 t) t [] 1000 none none (ch_stp P 1000 t ht (by omega)) (by omega) (by simp; omega)
  unfold f_steps_to runFn
  rw [if_pos (by rfl)]
  have hb' : s_steps_to (tbC ct K) [some (.ref b), some (.int t), none, none, none] (inB h) = .rt (.ref h.bs.length) (stG h ((stp M 1000 t).map spD)) := by
    unfold s_steps_to
    refine (cons_nx (ρ1 := [some (.ref b), some (.int t), some (.ref h.bs.length), none, none]) (h1 := stG h []) (asg_ok stG_new rfl)).trans ?_
    exact (cons_nx e).trans (ret_ok rfl)
  show finF h (s_steps_to (tbC ct K) [some (.ref b), some (.int t), none, none, none] (inB h)) = _
  rw [hb', stG_end (noD_sp _)]
end
end VI.Fl
end
section
namespace VI.Fl
open PySem PySem.Spec PyProof.Rows L2 VI VI.Std
open VI.Lay (itD ItOk LayT LayOk oL rgI sets oth lT lt_ok ge_ok fld0 fld1 lenTI stG stG_at stG_new stG_app stG_end)
section
variable {K : PySem.W.Frag} {ct : Ct} {h : Bs} {n : Nat} {its : List Im} {C : List (List Int)} {L st : Int}
structure StQ (B : List Bx) (fb : List Nat) (s : St) (q : Nat) (h : Bs) : Prop where
  fbs : h.fbs = B.length :: fb
  pre : h.bs.take B.length = B
  dct : Dat h B.length s.1
  gt : B.length < q
  que : h.bs[q]? = some (.lst false (s.2.map .int))
structure Inv (n : Nat) (s : St) : Prop where
  nd : (ks s.1).Nodup
  rg : ∀ x ∈ ks s.1, 0 ≤ x ∧ x < n
  le : s.2.length ≤ s.1.length
  sub : ∀ x ∈ s.2, x ∈ ks s.1
theorem Inv.len {n : Nat} {s : St} (v : Inv n s) : s.1.length ≤ n ∧ s.2.length ≤ n := by
  have := sub_len v.nd (h := rgI n) (fun x hx => Lay.mem_rgI.mpr (v.rg x hx)) (rng_nodup n)
  rw [Lay.rgI_len] at this
  have e : (ks s.1).length = s.1.length := by simp [ks]
  have := v.le
  omega
theorem Inv.add {n : Nat} {s : St} {i : Nat} {sv t : Int} {r : List Int} (v : Inv n s) (ht : 0 ≤ t ∧ t < n) : Inv n (add1 i sv r s t) := by
  unfold add1
  by_cases q : t ∉ r ∧ t ∉ ks s.1
  · rw [if_pos q]
    refine ⟨?_, ?_, ?_, ?_⟩
    · show (ks (s.1 ++ [(t, some (i, sv))])).Nodup
      rw [ks_snoc, List.nodup_append]
      refine ⟨v.nd, by simp, fun a ha b hb => ?_⟩
      rw [List.mem_singleton.mp hb]
      intro z; exact q.2 (z ▸ ha)
    · intro x hx
      have hx : x ∈ ks (s.1 ++ [(t, some (i, sv))]) := hx
      rw [ks_snoc] at hx
      rcases List.mem_append.mp hx with z | z
      · exact v.rg x z
      · rw [List.mem_singleton.mp z]; exact ht
    · have := v.le
      show (s.2 ++ [t]).length ≤ (s.1 ++ [(t, some (i, sv))]).length
      rw [List.length_append, List.length_append, List.length_singleton, List.length_singleton]
      omega
    · intro x hx
      show x ∈ ks (s.1 ++ [(t, some (i, sv))])
      rw [ks_snoc]
      rcases List.mem_append.mp hx with z | z
      · exact List.mem_append.mpr (.inl (v.sub x z))
      · exact List.mem_append.mpr (.inr z)
  · rw [if_neg q]; exact v
theorem has_no {x : Int} {M : Mp} (h : x ∉ ks M) : hasK (mkK M) (.inl x : Key) = false := by
  unfold hasK mkK
  rw [List.any_eq_false]
  intro k hk
  obtain ⟨p, hp, rfl⟩ := List.mem_map.mp hk
  have : p.1 ≠ x := fun z => h (z ▸ List.mem_map_of_mem hp)
  simp [this]
theorem take_set {l : List Bx} {k i : Nat} {x : Bx} (h : k ≤ i) : (l.set i x).take k = l.take k := by
  refine List.ext_getElem? fun j => ?_
  rw [List.getElem?_take, List.getElem?_take]
  split
  · rw [List.getElem?_set_ne (by omega)]
  · rfl
theorem StQ.put {B : List Bx} {fb : List Nat} {s : St} {q : Nat} {h : Bs} (S : StQ B fb s q h) {t i o : Int} {k : Nat} (ek : i = k) (ht : t ∉ ks s.1) (hl : s.1.length ≤ 900) : ∃ h1, dputD (.ref B.length) (.int t) (.tup [.int i, .int o]) h = .ok .non h1 ∧ StQ B fb (s.1 ++ [(t, some (k, o))], s.2) q h1 := by
  have sz : (1000 : Nat) ≤ sizeLine := by decide
  have hB : B.length < h.bs.length := (List.getElem?_eq_some_iff.mp S.dct).1
  refine ⟨⟨h.fbs, h.bs.set B.length (.dct false (.k (mkK (s.1 ++ [(t, some (k, o))]))) (mvD (s.1 ++ [(t, some (k, o))])))⟩, ?_, ⟨S.fbs, (take_set (Nat.le_refl _)).trans S.pre, List.getElem?_set_self hB, S.gt, (List.getElem?_set_ne (by have := S.gt; omega)).trans S.que⟩⟩
  have d : h.bs[B.length]? = some (.dct false (.k (mkK s.1)) (mvD s.1)) := S.dct
  have e := has_no ht
  have ok : okW h B.length (.tup [.int i, .int o]) = true := by simp [okW, S.fbs]
  have ll : decide ((Ks.k (mkK s.1)).len < sizeLine) = true := by
    rw [decide_eq_true_eq]
    show (mkK s.1).length < sizeLine
    unfold mkK
    rw [List.length_map]; omega
  simp only [dputD, d, koD, keyD, Option.map_some, ll, ok, Bool.and_self, if_true, Ks.add, Ks.putV, addK, putV, e]
  simp [mkK, mvD, pD, ek]
theorem StQ.push {B : List Bx} {fb : List Nat} {s : St} {q : Nat} {h : Bs} (S : StQ B fb s q h) {t : Int} (hl : s.2.length ≤ 900) : ∃ h1, appD (.ref q) [.int t] h = .ok .non h1 ∧ StQ B fb (s.1, s.2 ++ [t]) q h1 := by
  have sz : (1000 : Nat) ≤ sizeLine := by decide
  have hB : q < h.bs.length := (List.getElem?_eq_some_iff.mp S.que).1
  refine ⟨⟨h.fbs, h.bs.set q (.lst false ((s.2 ++ [t]).map .int))⟩, ?_, ⟨S.fbs, (take_set (by have := S.gt; omega)).trans S.pre, (List.getElem?_set_ne (by have := S.gt; omega)).trans S.dct, S.gt, List.getElem?_set_self hB⟩⟩
  have ok : okW h q (.int t) = true := by
    have := S.gt
    simp [okW, S.fbs]
    omega
  have e3 : decide ((s.2.map D.int).length < sizeLine) = true := by rw [List.length_map]; simp; omega
  have e := S.que
  simp only [appD, e, ok, e3, Bool.and_self, if_true, putL]
  simp
theorem pick_f {c : D → D → Bs → Bool} {f g : D → D → Bs → R D} {d e : D} (z : c d e h = false) : pick c f g d e h = g d e h := by
  unfold pick
  rw [if_neg (by rw [z]; simp)]
theorem ixX_f {d e : D} (z : isDk d h = false) : ixX d e h = ixD d e h := pick_f (c := fun d _ h => isDk d h) z
theorem inX_f {neg : Bool} {d e : D} (z : isDk e h = false) : inX neg d e h = inD neg d e h := pick_f (c := fun _ e h => isDk e h) z
def ev_ (x0 x1 x2 x3 x4 : Option D) (b q : Nat) (x7 x8 x9 x10 : Option D) : Ev := [x0, x1, x2, x3, x4, some (.ref b), some (.ref q), x7, x8, x9, x10]
theorem l1_ok {B : List Bx} {fb : List Nat} {s : St} {q : Nat} (S : StQ B fb s q h) {k : Nat} {sv t : Int} {r : List Int} (hl : s.1.length ≤ 900 ∧ s.2.length ≤ 900) {x0 x1 x2 x3 x4 : Option D} : ∃ h1,
    l1_path_from (tbC ct K) (ev_ x0 x1 x2 x3 x4 B.length q (some (.int sv)) (some (.int k)) (some (tI r)) (some (.int t))) h = .nx (ev_ x0 x1 x2 x3 x4 B.length q (some (.int sv)) (some (.int k)) (some (tI r)) (some (.int t))) h1 ∧ StQ B fb (add1 k sv r s t) q h1 := by
  have cond : (sAnd (sOp (inX true) (sVar 10) (sVar 9)) (sOp (inX true) (sVar 10) (sVar 5))) (ev_ x0 x1 x2 x3 x4 B.length q (some (.int sv)) (some (.int k)) (some (tI r)) (some (.int t))) h = .ok (.bl (decide (t ∉ r) && decide (t ∉ ks s.1))) h := by
    refine and_ok (op_ok (x := .int t) (y := tI r) rfl rfl ((inX_f (by rfl)).trans (in_tI (neg := true) |>.trans ?_))) fun _ => op_ok (x := .int t) (y := .ref B.length) rfl rfl (in_m S.dct)
    by_cases q : t ∈ r <;> simp [q]
  unfold l1_path_from
  by_cases z : t ∉ r ∧ t ∉ ks s.1
  · have zb : (decide (t ∉ r) && decide (t ∉ ks s.1)) = true := by simp [z]
    rw [zb] at cond
    obtain ⟨h1, p1, S1⟩ := S.put (i := (k : Int)) (o := sv) rfl z.2 hl.1
    obtain ⟨h2, p2, S2⟩ := S1.push (t := t) hl.2
    refine ⟨h2, ?_, by unfold add1; rw [if_pos z]; exact S2⟩
    refine (cons_nx (h1 := h2) ((if_t cond).trans ?_)).trans rfl
    refine (cons_nx (ρ1 := ev_ x0 x1 x2 x3 x4 B.length q (some (.int sv)) (some (.int k)) (some (tI r)) (some (.int t))) (h1 := h1) ?_).trans ?_
    · show (if isDk (.ref B.length) h then (dputD (.ref B.length) (.int t) (.tup [.int k, .int sv]) h).toF _ _ else _) = _
      rw [if_pos (dat_dk S.dct), p1]
      rfl
    · refine (cons_nx (h1 := h2) (expr_ok (d := .non) (bm_ok (o := .ref q) (xs := [.int t]) rfl (by simp only [lstOf, S1.que]; rfl) rfl p2))).trans rfl
  · have zb : (decide (t ∉ r) && decide (t ∉ ks s.1)) = false := by
      rw [Bool.and_eq_false_iff, decide_eq_false_iff_not, decide_eq_false_iff_not]
      by_cases w : t ∈ r
      · exact .inl fun z => z w
      · exact .inr fun v => z ⟨w, v⟩
    rw [zb] at cond
    exact ⟨h, (cons_nx (if_f cond)).trans rfl, by unfold add1; rw [if_neg z]; exact S⟩
theorem l1_loop {B : List Bx} {fb : List Nat} {q : Nat} (hn : n ≤ 800) {k : Nat} {sv : Int} {r : List Int} {x0 x1 x2 x3 x4 : Option D} : ∀ (l : List Int) (s : St) (h : Bs) (x10 : Option D), StQ B fb s q h → Inv n s → (∀ x ∈ l, 0 ≤ x ∧ x < n) → ∃ h1 y10,
    loopS (sgName 10) (l1_path_from (tbC ct K)) (l.map .int) (ev_ x0 x1 x2 x3 x4 B.length q (some (.int sv)) (some (.int k)) (some (tI r)) x10) h = .nx (ev_ x0 x1 x2 x3 x4 B.length q (some (.int sv)) (some (.int k)) (some (tI r)) y10) h1 ∧ StQ B fb (l.foldl (add1 k sv r) s) q h1 ∧ Inv n (l.foldl (add1 k sv r) s)
  | [], s, h, x10, S, v, _ => ⟨h, x10, rfl, S, v⟩
  | t :: l, s, h, x10, S, v, hl => by
    obtain ⟨h1, e1, S1⟩ := l1_ok (K := K) (ct := ct) S (k := k) (sv := sv) (t := t) (r := r) (x0 := x0) (x1 := x1) (x2 := x2) (x3 := x3) (x4 := x4) (by have := v.len; omega)
    obtain ⟨h2, y10, e2, S2, v2⟩ := l1_loop hn (k := k) (sv := sv) (r := r) (x0 := x0) (x1 := x1) (x2 := x2) (x3 := x3) (x4 := x4) l _ h1 (some (.int t)) S1 (v.add (hl t List.mem_cons_self)) fun x hx => hl x (List.mem_cons_of_mem _ hx)
    exact ⟨h2, y10, (loop_step rfl e1).trans e2, S2, v2⟩
def eR (p : List Int × Nat) : D := .tup [.int p.2, tI p.1]
theorem enum_R : ∀ (C : List (List Int)) (k : Nat), enumL k (chD C) = (C.zipIdx k).map eR
  | [], _ => rfl
  | X :: C, k => by
    have := enum_R C (k + 1)
    unfold chD at this ⊢
    rw [List.map_cons, enumL, this, List.zipIdx_cons, List.map_cons]
    rfl
theorem atI_get {xs : List D} {i : Nat} {x : D} (e : xs[i]? = some x) : atI xs (i : Int) = some x := by
  have := (List.getElem?_eq_some_iff.mp e).1
  unfold atI
  rw [show ixN xs.length (i : Int) = some i by unfold ixN; rw [if_pos (by omega), if_pos (by omega)]; simp]
  exact e
theorem holders_ok {x0 : Option D} (T : LayT (tbC ct K)) {k : Nat} (hk : k < its.length) {so sk : SV} {ρ : Ev} (e0 : so ρ h = .ok (oL n its) h) (ek : sk ρ h = .ok (.int k) h) : (sOp ixX (sOp ixX (sUn (fldD (tbC ct K) 1) so) sk) (sK (.int 0))) ρ h = .ok (tI (its.getD k d0).1) h := by
  have e : (its.map itD)[k]? = some (itD (its.getD k d0)) := by
    rw [List.getElem?_map, List.getD_eq_getElem?_getD, List.getElem?_eq_getElem hk]; rfl
  refine op_ok (x := itD (its.getD k d0)) (y := .int 0) (op_ok (x := .tup (its.map itD)) (y := .int k) (un_ok e0 (fld1 T)) ek ((ixX_f (by rfl)).trans ?_)) rfl rfl
  show (match atI (its.map itD) (k : Int) with | some x => R.ok x h | none => .no) = _
  rw [atI_get e]
theorem l2_ok (T : LayT (tbC ct K)) {B : List Bx} {fb : List Nat} {s : St} {q : Nat} (hn : n ≤ 800) (I : Itz n its) (S : StQ B fb s q h) (v : Inv n s) {k : Nat} (hk : k < its.length) {sv : Int} {r : List Int} {x1 x2 x3 x4 x10 : Option D} : ∃ h1 y10,
    l2_path_from (tbC ct K) (ev_ (some (oL n its)) x1 x2 x3 x4 B.length q (some (.int sv)) (some (.int k)) (some (tI r)) x10) h = .nx (ev_ (some (oL n its)) x1 x2 x3 x4 B.length q (some (.int sv)) (some (.int k)) (some (tI r)) y10) h1 ∧ StQ B fb (scan1 its sv s (r, k)) q h1 ∧ Inv n (scan1 its sv s (r, k)) := by
  have ti : (sTru (sOp (inX false) (sVar 7) (sVar 9))) (ev_ (some (oL n its)) x1 x2 x3 x4 B.length q (some (.int sv)) (some (.int k)) (some (tI r)) x10) h = .ok (decide (sv ∈ r)) h := tru_ok (op_ok (x := .int sv) (y := tI r) rfl rfl ((inX_f (by rfl)).trans (in_tI (neg := false))))
  unfold l2_path_from scan1
  by_cases z : sv ∈ r
  · rw [if_pos z]
    obtain ⟨h1, y10, e, S1, v1⟩ := l1_loop (K := K) (ct := ct) hn (k := k) (sv := sv) (r := r) (x0 := some (oL n its)) (x1 := x1) (x2 := x2) (x3 := x3) (x4 := x4) (its.getD k d0).1 s h x10 S v (I.rg _ (getD_mem hk))
    refine ⟨h1, y10, (cons_nx (for_ok (xs := (its.getD k d0).1.map .int) (h1 := h) ?_ e)).trans rfl, S1, v1⟩
    have ev : (sIte (sOp (inX false) (sVar 7) (sVar 9)) (sOp ixX (sOp ixX (sUn (fldD (tbC ct K) 1) (sVar 0)) (sVar 8)) (sK (.int 0))) (sTup saNil)) (ev_ (some (oL n its)) x1 x2 x3 x4 B.length q (some (.int sv)) (some (.int k)) (some (tI r)) x10) h = .ok (tI (its.getD k d0).1) h := by
      unfold sIte
      rw [ti, bind_ok, decide_eq_true z, if_pos rfl]
      exact holders_ok T hk rfl rfl (x0 := x1)
    unfold siX
    rw [ev]
    rfl
  · rw [if_neg z]
    refine ⟨h, x10, (cons_nx (for_ok (xs := []) (h1 := h) ?_ rfl)).trans rfl, S, v⟩
    have ev : (sIte (sOp (inX false) (sVar 7) (sVar 9)) (sOp ixX (sOp ixX (sUn (fldD (tbC ct K) 1) (sVar 0)) (sVar 8)) (sK (.int 0))) (sTup saNil)) (ev_ (some (oL n its)) x1 x2 x3 x4 B.length q (some (.int sv)) (some (.int k)) (some (tI r)) x10) h = .ok (.tup []) h := by
      unfold sIte
      rw [ti, bind_ok, decide_eq_false z, if_neg (by simp)]
      rfl
    unfold siX
    rw [ev]
    rfl
theorem l2_loop (T : LayT (tbC ct K)) {B : List Bx} {fb : List Nat} {q : Nat} (hn : n ≤ 800) (I : Itz n its) {sv : Int} {x1 x2 x3 x4 : Option D} : ∀ (l : List (List Int × Nat)) (s : St) (h : Bs) (x8 x9 x10 : Option D), StQ B fb s q h → Inv n s → (∀ p ∈ l, p.2 < its.length) → ∃ h1 y8 y9 y10,
    loopS (sgTup 2 (sgCons (sgName 8) (sgCons (sgName 9) sgNil))) (l2_path_from (tbC ct K)) (l.map eR) (ev_ (some (oL n its)) x1 x2 x3 x4 B.length q (some (.int sv)) x8 x9 x10) h = .nx (ev_ (some (oL n its)) x1 x2 x3 x4 B.length q (some (.int sv)) y8 y9 y10) h1 ∧ StQ B fb (l.foldl (scan1 its sv) s) q h1 ∧ Inv n (l.foldl (scan1 its sv) s)
  | [], s, h, x8, x9, x10, S, v, _ => ⟨h, x8, x9, x10, rfl, S, v⟩
  | (r, k) :: l, s, h, x8, x9, x10, S, v, hl => by
    obtain ⟨h1, z10, e1, S1, v1⟩ := l2_ok (K := K) (ct := ct) T hn I S v (k := k) (hl _ List.mem_cons_self) (sv := sv) (r := r) (x1 := x1) (x2 := x2) (x3 := x3) (x4 := x4) (x10 := x10)
    obtain ⟨h2, y8, y9, y10, e2, S2, v2⟩ := l2_loop T hn I (sv := sv) (x1 := x1) (x2 := x2) (x3 := x3) (x4 := x4) l _ h1 (some (.int k)) (some (tI r)) z10 S1 v1 fun p hp => hl p (List.mem_cons_of_mem _ hp)
    refine ⟨h2, y8, y9, y10, ?_, S2, v2⟩
    rw [List.map_cons]
    exact (loop_step (ρ1 := ev_ (some (oL n its)) x1 x2 x3 x4 B.length q (some (.int sv)) (some (.int k)) (some (tI r)) x10) rfl e1).trans e2
theorem set_take {l : List Bx} {k i : Nat} {x : Bx} : (l.set i x).take k = (l.take k).set i x := by
  refine List.ext_getElem? fun j => ?_
  rw [List.getElem?_take, List.getElem?_set, List.getElem?_set, List.getElem?_take, List.length_take]
  by_cases q : j < k
  · rw [if_pos q]
    by_cases q2 : i = j
    · subst q2
      rw [if_pos rfl, if_pos rfl]
      by_cases q3 : i < l.length
      · rw [if_pos q3, if_pos (by omega)]
      · rw [if_neg q3, if_neg (by omega)]
    · rw [if_neg q2, if_neg q2, if_pos q]
  · rw [if_neg q]
    by_cases q2 : i = j
    · subst q2
      rw [if_pos rfl, if_neg (by omega)]
    · rw [if_neg q2, if_neg q]
theorem StQ.at_ {B : List Bx} {fb : List Nat} {s : St} {q b : Nat} {x : Bx} (S : StQ B fb s q h) (hb : B[b]? = some x) : h.bs[b]? = some x := by
  have hlt : b < B.length := (List.getElem?_eq_some_iff.mp hb).1
  rw [← S.pre, List.getElem?_take, if_pos hlt] at hb
  exact hb
theorem StQ.lock {B : List Bx} {fb : List Nat} {s : St} {q b : Nat} {xs : List D} (S : StQ B fb s q h) (hb : B[b]? = some (.lst false xs)) : StQ (B.set b (.lst true xs)) fb s q (lockB b h) := by
  have hlt : b < B.length := (List.getElem?_eq_some_iff.mp hb).1
  rw [lock_eq (S.at_ hb)]
  refine ⟨by rw [List.length_set]; exact S.fbs, ?_, ?_, by rw [List.length_set]; exact S.gt, ?_⟩
  · rw [List.length_set]
    show (h.bs.set b _).take B.length = _
    rw [set_take, S.pre]
  · rw [List.length_set]
    exact (List.getElem?_set_ne (by omega)).trans S.dct
  · exact (List.getElem?_set_ne (by have := S.gt; omega)).trans S.que
theorem StQ.unlock {B : List Bx} {fb : List Nat} {s : St} {q b : Nat} {xs : List D} (hb : B[b]? = some (.lst false xs)) (S : StQ (B.set b (.lst true xs)) fb s q h) : StQ B fb s q (unlB b h) := by
  have hlt : b < B.length := (List.getElem?_eq_some_iff.mp hb).1
  obtain ⟨s1, s2, s3, s4, s5⟩ := S
  rw [List.length_set] at s1 s2 s3 s4
  have hb' : h.bs[b]? = some (.lst true xs) := by
    have : (h.bs.take B.length)[b]? = some (.lst true xs) := by rw [s2, List.getElem?_set_self hlt]
    rwa [List.getElem?_take, if_pos hlt] at this
  rw [unl_eq hb']
  refine ⟨s1, ?_, (List.getElem?_set_ne (by omega)).trans s3, s4, (List.getElem?_set_ne (by omega)).trans s5⟩
  show (h.bs.set b _).take B.length = B
  rw [set_take, s2, List.set_set, set_same hb]
theorem for_lk {it : SI} {g : SG} {b : SS} {ρ ρ1 : Ev} {h1 h2 : Bs} {xs : List D} {k : Nat} (e1 : it ρ h = .ok (xs, some k) h1) (e2 : loopS g b xs ρ (lockB k h1) = .nx ρ1 h2) : ssFor it g b ρ h = .nx ρ1 (unlB k h2) := by
  unfold ssFor
  rw [e1, toF_ok]
  show unlF (some k) (loopS g b xs ρ (lockB k h1)) = _
  rw [e2]
  rfl
theorem scan_ok (T : LayT (tbC ct K)) {B : List Bx} {fb : List Nat} {s : St} {q : Nat} {d : D} (hn : n ≤ 800) (I : Itz n its) (c : Chv ⟨fb, B⟩ d (chD C)) (hC : C.length = its.length) (S : StQ B fb s q h) (v : Inv n s) {sv : Int} {x2 x3 x4 x8 x9 x10 : Option D} : ∃ h1 y8 y9 y10,
    ssFor (siArg itEnum2 (saCons (sVar 1) saNil)) (sgTup 2 (sgCons (sgName 8) (sgCons (sgName 9) sgNil))) (l2_path_from (tbC ct K)) (ev_ (some (oL n its)) (some d) x2 x3 x4 B.length q (some (.int sv)) x8 x9 x10) h = .nx (ev_ (some (oL n its)) (some d) x2 x3 x4 B.length q (some (.int sv)) y8 y9 y10) h1 ∧ StQ B fb (scan its C sv s) q h1 ∧ Inv n (scan its C sv s) := by
  have hp : ∀ p ∈ C.zipIdx, p.2 < its.length := fun p hp => by
    have := List.mem_zipIdx hp
    omega
  rcases c with rfl | ⟨b, rfl, hb⟩
  · obtain ⟨h1, y8, y9, y10, e, S1, v1⟩ := l2_loop (K := K) (ct := ct) T hn I (sv := sv) (x1 := some (.lst (chD C))) (x2 := x2) (x3 := x3) (x4 := x4) C.zipIdx s h x8 x9 x10 S v hp
    refine ⟨h1, y8, y9, y10, for_ok (h1 := h) (arg_ok (h1 := h) (xs := [.lst (chD C)]) rfl ?_) e, S1, v1⟩
    show R.ok (enumL 0 (chD C), none) h = _
    rw [enum_R]
  · have hb : B[b]? = some (.lst false (chD C)) := hb
    obtain ⟨h1, y8, y9, y10, e, S1, v1⟩ := l2_loop (K := K) (ct := ct) T hn I (sv := sv) (x1 := some (.ref b)) (x2 := x2) (x3 := x3) (x4 := x4) C.zipIdx s (lockB b h) x8 x9 x10 (S.lock hb) v hp
    rw [List.length_set] at e
    refine ⟨unlB b h1, y8, y9, y10, for_lk (h1 := h) (arg_ok (h1 := h) (xs := [.ref b]) rfl ?_) e, StQ.unlock hb S1, v1⟩
    have hb' := S.at_ hb
    have : itSeq (.ref b) h = .ok (chD C, some b) h := by simp only [itSeq, hb']
    unfold itEnum2
    simp only [this, enum_R]
theorem StQ.pop {B : List Bx} {fb : List Nat} {M : Mp} {sv : Int} {Q : List Int} {q : Nat} (S : StQ B fb (M, sv :: Q) q h) (hl : Q.length ≤ 900) : slD true (.ref q) (some 1) none h = .ok (.ref h.bs.length) ⟨h.fbs, h.bs ++ [.lst false (Q.map .int)]⟩ ∧ StQ B fb (M, Q) h.bs.length ⟨h.fbs, h.bs ++ [.lst false (Q.map .int)]⟩ := by
  have sz : (1000 : Nat) ≤ sizeLine := by decide
  have hq := S.que
  have hB : B.length < h.bs.length := (List.getElem?_eq_some_iff.mp S.dct).1
  constructor
  · have e : cutD ((sv :: Q).map D.int) (some 1) none = Q.map .int := by
      have := cut_from (xs := (sv :: Q).map D.int) 1
      simpa using this
    simp only [slD, lstOf, hq, e, newL]
    rw [if_pos (by rw [List.length_map]; omega)]
    rfl
  · refine ⟨S.fbs, ?_, ?_, hB, by simp⟩
    · show (h.bs ++ _).take B.length = B
      rw [List.take_append_of_le_length (by omega)]
      exact S.pre
    · show (h.bs ++ _)[B.length]? = _
      rw [List.getElem?_append_left hB]
      exact S.dct
theorem lds_at {x : Int} (hx : 0 ≤ x ∧ x < n) : ixX (lI (lds n C)) (.int x) h = .ok (.int (ld C x)) h := by
  obtain ⟨i, rfl⟩ : ∃ i : Nat, x = i := ⟨x.toNat, by omega⟩
  rw [ixX_f (by rfl)]
  show (match atI ((lds n C).map D.int) (i : Int) with | some x => R.ok x h | none => .no) = _
  rw [atI_get (x := .int (ld C i)) (by
    unfold lds rgI
    rw [List.getElem?_map, List.getElem?_map, List.getElem?_map, List.getElem?_range (by omega)]
    rfl)]
theorem lim_at {x : Int} (hx : 0 ≤ x ∧ x < n) : ixX (lI (List.replicate n L)) (.int x) h = .ok (.int L) h := by
  obtain ⟨i, rfl⟩ : ∃ i : Nat, x = i := ⟨x.toNat, by omega⟩
  rw [ixX_f (by rfl)]
  show (match atI ((List.replicate n L).map D.int) (i : Int) with | some x => R.ok x h | none => .no) = _
  rw [atI_get (x := .int L) (by
    rw [List.getElem?_map, List.getElem?_replicate, if_pos (by omega)]
    rfl)]
theorem que_ne {B : List Bx} {fb : List Nat} {s : St} {q : Nat} (S : StQ B fb s q h) : neX (.ref q) (.lst []) h = .ok (.bl (!decide (s.2 = []))) h := by
  have e := S.que
  have p1 : py pyN h (.ref q) = some (.list (s.2.map .int)) := by
    have : py pyN h (.ref q) = py pyN h (lI s.2) := by
      show (match h.bs[q]? with | some (.lst _ xs) => (mapO (py _ h) xs).map PyData.list | _ => none) = (mapO (py _ h) (s.2.map D.int)).map PyData.list
      rw [e]
    rw [this, py_lI]
  have p2 : py pyN h (.lst []) = some (.list []) := rfl
  have pb : plainB (.ref q) (.lst []) h = true := by unfold plainB; rw [p1, p2]; rfl
  show (if plainB (.ref q) (.lst []) h = true then eqD true (.ref q) (.lst []) h else _) = _
  rw [if_pos pb]
  simp only [eqD, p1, p2]
  cases s.2 <;> rfl
def pathD : Option (Mp × Int) → D
  | none => .non
  | some p => .lst ((stp p.1 1000 p.2).map spD)
theorem l3_ok (T : LayT (tbC ct K)) {B : List Bx} {fb : List Nat} {M : Mp} {sv : Int} {Q : List Int} {q : Nat} {d : D} (hn : n ≤ 800) (I : Itz n its) (c : Chv ⟨fb, B⟩ d (chD C)) (hC : C.length = its.length) (S : StQ B fb (M, sv :: Q) q h) (v : Inv n (M, sv :: Q)) (hsv : 0 ≤ sv ∧ sv < n) {x2 x7 x8 x9 x10 : Option D} :
    ((ld C sv : Int) < L → ParM its C st M → sv ∈ ks M → ∃ h1, l3_path_from (tbC ct K) (ev_ (some (oL n its)) (some d) x2 (some (lI (List.replicate n L))) (some (lI (lds n C))) B.length q x7 x8 x9 x10) h = .rt (pathD (some (M, sv))) h1 ∧ h1.bs.take B.length = B) ∧
    (¬ (ld C sv : Int) < L → ∃ h1 q1 y8 y9 y10, l3_path_from (tbC ct K) (ev_ (some (oL n its)) (some d) x2 (some (lI (List.replicate n L))) (some (lI (lds n C))) B.length q x7 x8 x9 x10) h = .nx (ev_ (some (oL n its)) (some d) x2 (some (lI (List.replicate n L))) (some (lI (lds n C))) B.length q1 (some (.int sv)) y8 y9 y10) h1 ∧ StQ B fb (scan its C sv (M, Q)) q1 h1 ∧ Inv n (scan its C sv (M, Q))) := by
  have vl := v.len
  have vl2 : Q.length + 1 ≤ n := vl.2
  obtain ⟨p1, S1⟩ := S.pop (by omega)
  have v1 : Inv n (M, Q) := ⟨v.nd, v.rg, by have := v.le; simp at this; show Q.length ≤ M.length; omega, fun x hx => v.sub x (List.mem_cons_of_mem _ hx)⟩
  have first : (ssAsg (sTup (saCons (sOp ixX (sVar 6) (sK (.int 0))) (saCons (sSl true (sVar 6) (soSome (sK (.int 1))) soNone) saNil))) (sgTup 2 (sgCons (sgName 7) (sgCons (sgName 6) sgNil)))) (ev_ (some (oL n its)) (some d) x2 (some (lI (List.replicate n L))) (some (lI (lds n C))) B.length q x7 x8 x9 x10) h = .nx (ev_ (some (oL n its)) (some d) x2 (some (lI (List.replicate n L))) (some (lI (lds n C))) B.length h.bs.length (some (.int sv)) x8 x9 x10) ⟨h.fbs, h.bs ++ [.lst false (Q.map .int)]⟩ := by
    refine asg_ok (d := .tup [.int sv, .ref h.bs.length]) (tup_ok (cons_ok (x := .int sv) (h1 := h) (op_ok (x := .ref q) (y := .int 0) rfl rfl ?_) (cons_ok (x := .ref h.bs.length) ?_ rfl)) two_le) rfl
    · have nk : isDk (.ref q) h = false := by have e := S.que; simp only [isDk, dctO, e]; rfl
      rw [ixX_f nk]
      have e := S.que
      have e0 := atI_get (xs := (sv :: Q).map D.int) (i := 0) (x := .int sv) rfl
      simp only [ixD, seqOf, lstOf, e]
      rw [show (0 : Int) = ((0 : Nat) : Int) from rfl, e0]
    · show (sSl true (sVar 6) (soSome (sK (.int 1))) soNone) _ h = _
      unfold sSl
      show (slD true (.ref q) (some 1) none h) = _
      rw [p1]
  have cond : ∀ {z8 z9 z10 : Option D}, (sOp ltS (sOp ixX (sVar 4) (sVar 7)) (sOp ixX (sVar 3) (sVar 7))) (ev_ (some (oL n its)) (some d) x2 (some (lI (List.replicate n L))) (some (lI (lds n C))) B.length h.bs.length (some (.int sv)) z8 z9 z10) ⟨h.fbs, h.bs ++ [.lst false (Q.map .int)]⟩ = .ok (.bl (decide ((ld C sv : Int) < L))) ⟨h.fbs, h.bs ++ [.lst false (Q.map .int)]⟩ := fun {z8 z9 z10} => op_ok (x := .int (ld C sv)) (y := .int L) (op_ok (x := lI (lds n C)) (y := .int sv) rfl rfl (lds_at hsv)) (op_ok (x := lI (List.replicate n L)) (y := .int sv) rfl rfl (lim_at hsv)) lt_ok
  unfold l3_path_from
  constructor
  · intro lt P hk
    rw [decide_eq_true lt] at cond
    refine ⟨⟨h.fbs, h.bs ++ [.lst false (Q.map .int)]⟩, (cons_nx first).trans (cons_rt ((if_t cond).trans ?_)), S1.pre⟩
    exact ret_ok (call_ok (xs := [.ref B.length, .int sv]) rfl (steps_to_ok S1.dct P hk (by have := vl.1; show M.length ≤ 900; have : M.length ≤ n := vl.1; omega)))
  · intro nlt
    rw [decide_eq_false nlt] at cond
    obtain ⟨h1, y8, y9, y10, e, S2, v2⟩ := scan_ok (K := K) (ct := ct) T hn I c hC S1 v1 (sv := sv) (x2 := x2) (x3 := some (lI (List.replicate n L))) (x4 := some (lI (lds n C))) (x8 := x8) (x9 := x9) (x10 := x10)
    exact ⟨h1, h.bs.length, y8, y9, y10, (cons_nx first).trans ((cons_nx (if_f cond)).trans ((cons_nx e).trans rfl)), S2, v2⟩
theorem walk_ok (T : LayT (tbC ct K)) {B : List Bx} {fb : List Nat} {d : D} {r : Option (Mp × Int)} (hn : n ≤ 800) (I : Itz n its) (c : Chv ⟨fb, B⟩ d (chD C)) (hC : C.length = its.length) (F : Found its C L st r) {x2 : Option D} : ∀ (f : Nat) (s : St) (h : Bs) (q : Nat) (x7 x8 x9 x10 : Option D), StQ B fb s q h → Inv n s → bfs its C L f s = some r →
    (r = none → ∃ ρ1 h1, whileS (sOp neX (sVar 6) (sLst false saNil)) (l3_path_from (tbC ct K)) f (ev_ (some (oL n its)) (some d) x2 (some (lI (List.replicate n L))) (some (lI (lds n C))) B.length q x7 x8 x9 x10) h = .nx ρ1 h1 ∧ h1.bs.take B.length = B) ∧
    (∀ p, r = some p → ∃ h1, whileS (sOp neX (sVar 6) (sLst false saNil)) (l3_path_from (tbC ct K)) f (ev_ (some (oL n its)) (some d) x2 (some (lI (List.replicate n L))) (some (lI (lds n C))) B.length q x7 x8 x9 x10) h = .rt (pathD (some p)) h1 ∧ h1.bs.take B.length = B)
  | 0, s, h, q, x7, x8, x9, x10, S, v, e => by cases e
  | f + 1, (M, []), h, q, x7, x8, x9, x10, S, v, e => by
    have e : some none = some r := e
    cases e
    have c0 : (sOp neX (sVar 6) (sLst false saNil)) (ev_ (some (oL n its)) (some d) x2 (some (lI (List.replicate n L))) (some (lI (lds n C))) B.length q x7 x8 x9 x10) h = .ok (.bl false) h := op_ok (x := .ref q) (y := .lst []) rfl rfl ((que_ne S).trans rfl)
    refine ⟨fun _ => ⟨(ev_ (some (oL n its)) (some d) x2 (some (lI (List.replicate n L))) (some (lI (lds n C))) B.length q x7 x8 x9 x10), h, ?_, S.pre⟩, fun p z => by cases z⟩
    simp only [whileS, sTru, c0, bind_ok, truth, toF_ok, Bool.false_eq_true, if_false]
  | f + 1, (M, sv :: Q), h, q, x7, x8, x9, x10, S, v, e => by
    have c0 : (sOp neX (sVar 6) (sLst false saNil)) (ev_ (some (oL n its)) (some d) x2 (some (lI (List.replicate n L))) (some (lI (lds n C))) B.length q x7 x8 x9 x10) h = .ok (.bl true) h := op_ok (x := .ref q) (y := .lst []) rfl rfl ((que_ne S).trans rfl)
    have hsv : 0 ≤ sv ∧ sv < n := v.rg sv (v.sub sv List.mem_cons_self)
    obtain ⟨k1, k2⟩ := l3_ok (K := K) (ct := ct) (L := L) (st := st) T hn I c hC S v hsv (x2 := x2) (x7 := x7) (x8 := x8) (x9 := x9) (x10 := x10)
    unfold bfs at e
    by_cases lt : (ld C sv : Int) < L
    · rw [if_pos lt] at e
      cases e
      obtain ⟨P, hk, _⟩ := F
      obtain ⟨h1, e1, e2⟩ := k1 lt P hk
      refine ⟨fun z => (by cases z), fun p z => ?_⟩
      cases z
      refine ⟨h1, ?_, e2⟩
      simp only [whileS, sTru, c0, bind_ok, truth, toF_ok, if_true, e1]
    · rw [if_neg lt] at e
      obtain ⟨h1, q1, y8, y9, y10, e1, S1, v1⟩ := k2 lt
      have ih := walk_ok T hn I c hC F (x2 := x2) f _ h1 q1 (some (.int sv)) y8 y9 y10 S1 v1 e
      have w : whileS (sOp neX (sVar 6) (sLst false saNil)) (l3_path_from (tbC ct K)) (f + 1) (ev_ (some (oL n its)) (some d) x2 (some (lI (List.replicate n L))) (some (lI (lds n C))) B.length q x7 x8 x9 x10) h = whileS (sOp neX (sVar 6) (sLst false saNil)) (l3_path_from (tbC ct K)) f (ev_ (some (oL n its)) (some d) x2 (some (lI (List.replicate n L))) (some (lI (lds n C))) B.length q1 (some (.int sv)) y8 y9 y10) h1 := by
        conv => lhs; simp only [whileS, sTru, c0, bind_ok, truth, toF_ok, if_true, e1]
      rw [w]
      exact ih
end
end VI.Fl
end
section
namespace VI.Fl
open PySem PySem.Spec PyProof.Rows L2 VI VI.Std
open VI.Lay (itD ItOk LayT LayOk oL rgI sets oth lT lt_ok ge_ok fld0 fld1 lenTI stG stG_at stG_new stG_app stG_end)
section
variable {K : PySem.W.Frag} {ct : Ct} {h : Bs} {n : Nat} {its : List Im} {C : List (List Int)} {L st : Int}
def bxI (r : List Int) : Bx := .lst false (r.map .int)
theorem newL_t {xs : List D} (e : xs.length ≤ sizeLine) : newL true xs h = .ok (.ref h.bs.length) ⟨h.fbs, h.bs ++ [.lst false xs]⟩ := by
  unfold newL
  rw [if_pos e, if_pos rfl]
structure StM (B : List Bx) (fb : List Nat) (C : List (List Int)) (o : Nat) (rs : List Nat) (h : Bs) : Prop where
  fbs : h.fbs = B.length :: fb
  pre : h.bs.take B.length = B
  le : B.length ≤ o
  len : rs.length = C.length
  out : h.bs[o]? = some (.lst false (rs.map .ref))
  row : ∀ k < C.length, ∃ r, rs[k]? = some r ∧ B.length ≤ r ∧ r ≠ o ∧ h.bs[r]? = some (bxI (C.getD k []))
end
end VI.Fl
end
section
namespace VI.Fl
open PySem PySem.Spec PyProof.Rows L2 VI VI.Std
open VI.Lay (itD ItOk LayT LayOk oL rgI sets oth lT lt_ok ge_ok fld0 fld1 lenTI stG stG_at stG_new stG_app stG_end)
section
variable {K : PySem.W.Frag} {ct : Ct} {h : Bs} {n : Nat} {its : List Im} {C : List (List Int)} {L st : Int}
end
end VI.Fl
end
section
namespace VI.Fl
open PySem PySem.Spec PyProof.Rows L2 VI VI.Std
open VI.Lay (itD ItOk LayT LayOk oL rgI sets oth lT lt_ok ge_ok fld0 fld1 lenTI stG stG_at stG_new stG_app stG_end fil_emb)
section
variable {K : PySem.W.Frag} {ct : Ct} {h : Bs} {n : Nat} {its : List Im} {C : List (List Int)} {L st : Int}
def evl (n : Nat) (its : List Im) (L : Int) (x3 x4 x5 : Option D) : Ev := [some (oL n its), some (.int (whole its)), some (.int L), x3, x4, x5]
end
end VI.Fl
end
section
namespace VI.Fl
open PySem PySem.Spec PyProof.Rows L2 VI VI.Std
open VI.Lay (itD ItOk LayT LayOk oL rgI sets oth lT lt_ok ge_ok fld0 fld1 lenTI stG stG_at stG_new stG_app stG_end fil_emb all_emb slT_lo zipT)
section
variable {K : PySem.W.Frag} {ct : Ct} {h : Bs} {n : Nat} {its : List Im} {C : List (List Int)} {L st : Int}
end
end VI.Fl
end
section
namespace VI.Fl
open PySem PySem.Spec PyProof.Rows L2 VI VI.Std
open VI.Lay
section
variable {K : PySem.W.Frag} {ct : Ct} {h : Bs} {n : Nat} {its : List Im} {X Y : List Int} {A B C E : List (List Int)}
theorem py_lT (A : List (List Int)) : py pyN h (lT A) = some (.list (A.map fun X => .tuple (X.map .int))) := by
  show (mapO (py 11 h) (A.map fun X => tI X)).map PyData.list = _
  have : mapO (py 11 h) (A.map fun X => tI X) = some (A.map fun X => .tuple (X.map .int)) := by
    induction A with
    | nil => rfl
    | cons Y l ih =>
      have e1 : py 11 h (tI Y) = some (.tuple (Y.map .int)) := py_tI Y
      simp only [List.map_cons, mapO, e1, ih]
  rw [this]
  rfl
theorem eqvA : ∀ A C : List (List Int), PyData.eqvAll (A.map fun X => .tuple (X.map .int)) (C.map fun X => .tuple (X.map .int)) = decide (A = C)
  | [], [] => by simp [PyData.eqvAll]
  | [], _ :: _ => by simp [PyData.eqvAll]
  | _ :: _, [] => by simp [PyData.eqvAll]
  | X :: A, Y :: C => by
    simp only [List.map_cons, PyData.eqvAll, PyData.eqv, eqvAll_ints, eqvA A C]
    by_cases h1 : X = Y <;> by_cases h2 : A = C <;> simp [h1, h2]
def maxI : List Int → Int
  | [] => 0
  | x :: xs => maxFold x xs
theorem maxF_ok : ∀ (xs : List Int) (x : Int), maxFold x xs ∈ x :: xs ∧ ∀ q ∈ x :: xs, q ≤ maxFold x xs
  | [], x => ⟨List.mem_cons_self, fun q hq => by rw [List.mem_singleton.mp hq]; exact Int.le_refl _⟩
  | y :: xs, x => by
    obtain ⟨a, b⟩ := maxF_ok xs (max x y)
    have e : maxFold x (y :: xs) = maxFold (max x y) xs := rfl
    rw [e]
    have b0 := b _ List.mem_cons_self
    refine ⟨?_, fun q hq => ?_⟩
    · rcases List.mem_cons.mp a with z | z
      · rw [z]
        by_cases q : x ≤ y
        · rw [Int.max_eq_right q]; exact List.mem_cons_of_mem _ List.mem_cons_self
        · rw [Int.max_eq_left (by omega)]; exact List.mem_cons_self
      · exact List.mem_cons_of_mem _ (List.mem_cons_of_mem _ z)
    · rcases List.mem_cons.mp hq with z | z
      · rw [z]; omega
      · rcases List.mem_cons.mp z with z | z
        · rw [z]; omega
        · exact b q (List.mem_cons_of_mem _ z)
theorem maxL_k (hX : X ≠ []) : maxD [lI X] h = .ok (.int (maxI X)) h := by
  match X, hX with
  | x :: xs, _ =>
    simp only [maxD, mmD, seqOf, lstOf, intsD_map]
    rfl
theorem maxI_mem (hX : X ≠ []) : maxI X ∈ X := by
  match X, hX with
  | x :: xs, _ => exact (maxF_ok xs x).1
theorem maxI_le {q : Int} (hq : q ∈ X) : q ≤ maxI X := by
  match X, hq with
  | x :: xs, hq => exact (maxF_ok xs x).2 q hq
theorem eq_lTn {neg : Bool} : eqD neg (lT A) (lT C) h = .ok (.bl (if neg then !decide (A = C) else decide (A = C))) h := by
  simp only [eqD, py_lT, PyData.eqv, eqvA]
end
end VI.Fl
end
section
namespace VI.Fl
open PySem PySem.Spec PyProof.Rows L2 VI VI.Std
open VI.Lay (itD ItOk LayT LayOk oL rgI sets oth lT)
section
variable {K : PySem.W.Frag} {h : Bs} {n : Nat} {X : List Int}
theorem lst_to {xs : List D} {j : Nat} (hl : xs.length ≤ 1000) : slD false (.lst xs) none (some (j : Int)) h = .ok (.lst (xs.take j)) h := by
  have sz : (1000 : Nat) ≤ sizeLine := by decide
  show newL false (cutD xs none (some (j : Int))) h = _
  rw [Std.cut_hi, newL_f (by rw [List.length_take]; omega)]
theorem lst_rev {xs : List D} (hl : xs.length ≤ 1000) : revY false (.lst xs) h = .ok (.lst xs.reverse) h := by
  have sz : (1000 : Nat) ≤ sizeLine := by decide
  show newL false xs.reverse h = _
  rw [newL_f (by rw [List.length_reverse]; omega)]
end
end VI.Fl
end
section
namespace VI.Fl
open PySem PySem.Spec PyProof.Rows L2 VI VI.Std
open VI.Lay (itD ItOk LayT LayOk oL rgI sets oth lT)
structure Tgt (n : Nat) (its : List Im) (L : Int) (a : Nat) (C : List (List Int)) (V : Int → Prop) : Prop where
  clo : ∀ p, V p → ∀ k < its.length, p ∈ C.getD k [] → ∀ x ∈ (its.getD k d0).1, x ∉ C.getD k [] → V x
  lim : ∀ p, V p → L ≤ (ld C p : Int)
  cov : ∀ k < a, k < its.length → ((C.getD k []).length : Int) < (its.getD k d0).2 → ∀ x ∈ (its.getD k d0).1, x ∉ C.getD k [] → V x
theorem Tgt.out {n : Nat} {its : List Im} {L : Int} {a : Nat} {C : List (List Int)} {V : Int → Prop} (T : Tgt n its L a C V) : ∀ (l : List Sp) (e st : Int), ¬ V e → Lnk l e st → (∀ s ∈ l, OkS its C s.1 s.2.1 s.2.2) → ¬ V st ∧ ∀ s ∈ l, ¬ V s.2.1 ∧ ¬ V s.2.2
  | [], e, st, he, hl, _ => ⟨fun z => he (by rw [show e = st from hl]; exact z), fun _ z => (nomatch z)⟩
  | (i, o, t) :: l, e, st, he, hl, ok => by
    obtain ⟨h1, h2⟩ := hl
    obtain ⟨k1, k2, k3, k4⟩ := ok _ List.mem_cons_self
    have ht : ¬ V t := fun z => he (by rw [show e = t from h1]; exact z)
    have ho : ¬ V o := fun z => ht (T.clo o z i k1 k2 t k4 k3)
    obtain ⟨r1, r2⟩ := T.out l o st ho h2 fun s hs => ok s (List.mem_cons_of_mem _ hs)
    refine ⟨r1, fun s hs => ?_⟩
    rcases List.mem_cons.mp hs with z | z
    · rw [z]; exact ⟨ho, ht⟩
    · exact r2 s z
end VI.Fl
end
section
namespace VI.Fl
open PySem PySem.Spec PyProof.Rows L2 VI VI.Std
open VI.Lay (itD ItOk LayT LayOk oL rgI sets oth lT lt_ok ge_ok fld0 fld1 lenTI fil_emb all_emb slT_lo zipT)
section
variable {K : PySem.W.Frag} {ct : Ct} {h : Bs} {n : Nat} {its : List Im} {X Y : List Int} {A B C E : List (List Int)} {L : Int}
theorem min2 {i j : Int} : minDS [.int i, .int j] h = .ok (.int (min i j)) h := by
  rw [minD2]
  have : (if j < i then j else i) = min i j := by split <;> omega
  rw [this]
end
end VI.Fl
end
section
namespace VI
open PySem PySem.Spec PyProof.Rows L2
section
variable {X : Cx} {T : Tb} {WW : WX} {μ μ' : Mu} {H H' : Hp} {h : Bs} {σ : Sg} {ρ : Ev} {pins : List (Addr × Obj)} {s : Shared}
end
end VI
end
section
namespace VI.Dk
open PySem PySem.Spec PyProof.Rows L2 VI VI.Std
open VI.Lay (lT)
section
variable {h : Bs} {S R : List (List Int)} {X : List Int} {f f' : List Int → D}
def KV (X : List Int) : List Key := X.map .inl
theorem KV_inj : ∀ {X Y : List Int}, KV X = KV Y → X = Y
  | [], [], _ => rfl
  | [], _ :: _, e => by simp [KV] at e
  | _ :: _, [], e => by simp [KV] at e
  | x :: X, y :: Y, e => by
    unfold KV at e
    rw [List.map_cons, List.map_cons] at e
    obtain ⟨e1, e2⟩ := List.cons.inj e
    rw [KV_inj (X := X) (Y := Y) e2, Sum.inl.inj e1]
def dT (S : List (List Int)) (f : List Int → D) : D := .dct (.t (S.map KV)) (S.map f)
def bT (S : List (List Int)) (f : List Int → D) : Bx := .dct false (.t (S.map KV)) (S.map f)
def Is (h : Bs) (d : D) (S : List (List Int)) (f : List Int → D) : Prop := d = dT S f ∨ ∃ b, d = .ref b ∧ h.bs[b]? = some (bT S f)
theorem Is.dct {d : D} (i : Is h d S f) : dctO h d = some (.t (S.map KV), S.map f) := by
  rcases i with rfl | ⟨b, rfl, hb⟩
  · rfl
  · have hb : h.bs[b]? = some (.dct false (.t (S.map KV)) (S.map f)) := hb
    simp only [dctO, hb]
theorem Is.py {d : D} (i : Is h d S f) : VI.py pyN h d = none := by
  rcases i with rfl | ⟨b, rfl, hb⟩
  · rfl
  · have hb : h.bs[b]? = some (.dct false (.t (S.map KV)) (S.map f)) := hb
    show (match h.bs[b]? with | some (.lst _ xs) => (mapO (VI.py _ h) xs).map PyData.list | _ => none) = none
    rw [hb]
theorem Is.dk {d : D} (i : Is h d S f) : isDk d h = true := by
  unfold isDk
  rw [i.dct]
  rfl
theorem look : ∀ S : List (List Int), lookK (S.map KV) (S.map f) (KV X) = if X ∈ S then some (f X) else none
  | [] => rfl
  | Y :: S => by
    rw [List.map_cons, List.map_cons, lookK, look S]
    by_cases q : Y = X
    · subst q; simp
    · have : ¬ KV Y = KV X := fun z => q (KV_inj z)
      rw [if_neg this]
      by_cases w : X ∈ S
      · rw [if_pos w, if_pos (List.mem_cons_of_mem _ w)]
      · rw [if_neg w, if_neg]
        intro z
        rcases List.mem_cons.mp z with z | z
        · exact q z.symm
        · exact w z
theorem keys_ok : keyDL (.t (S.map KV)) = S.map fun X => tI X := by
  show (S.map KV).map (fun k => D.tup (k.map keyV)) = _
  rw [List.map_map]
  refine List.map_congr_left fun X _ => ?_
  show D.tup ((X.map _).map keyV) = D.tup (X.map D.int)
  rw [List.map_map]
  rfl
theorem Is.list {d : D} (i : Is h d S f) (hl : S.length ≤ 1000) : listX false [d] h = .ok (lT S) h := by
  have sz : (1000 : Nat) ≤ sizeLine := by decide
  show (if isDk d h = true then dlistD false [d] h else listD false [d] h) = _
  rw [if_pos i.dk]
  simp only [dlistD, i.dct, keys_ok]
  rw [newL_f (by rw [List.length_map]; omega)]
theorem walk_ok {s : SV} {ρ : Ev} (e : s ρ h = .ok (dT S f) h) : siX s ρ h = .ok (S.map fun X => tI X, none) h := by
  unfold siX
  rw [e, bind_ok]
  show (match dwalk h (dT S f) with | some (ks, xs) => R.ok (fK ks xs, none) h | none => .no) = _
  show R.ok (keyDL (.t (S.map KV)), none) h = _
  rw [keys_ok]
theorem Is.mw {d : D} {g : List Int → Int} {ff : Int → List Int → Int} (i : Is h d S fun X => .int (g X)) {x : Int} {xs : List Int} (e : S.map g = x :: xs) : mwD ff d h = .ok (.int (ff x xs)) h := by
  have e2 : intsD (S.map fun X => D.int (g X)) = some (x :: xs) := by
    have := intsD_map (S.map g)
    rw [List.map_map, e] at this
    exact this
  simp only [mwD, i.dct, e2]
def eK (X : List Int) : VI.D × PyData := (tI X, .tuple (X.map .int))
end
end VI.Dk
end
section
namespace PySem.W
open PySem PySem.Calls PyProof.Rows PySem.SeqAt
section
variable {prog : Program} {w : World} {A : Around} {s : Shared}
end
end PySem.W
namespace VI
open PySem PySem.Spec PyProof.Rows L2
section
variable {X : Cx} {T : Tb} {WW : WX} {μ μ' : Mu} {H H' : Hp} {h : Bs} {σ : Sg} {ρ : Ev} {pins : List (Addr × Obj)} {s : Shared}
end
end VI
end
section
namespace VI.Dk
open PySem PySem.Spec PyProof.Rows L2 VI VI.Std
open VI.Lay (lT)
section
variable {h : Bs} {A C S R : List (List Int)} {X Y : List Int} {f f' : List Int → D}
theorem ite_t {sc sa sb : SV} {ρ : Ev} {h1 : Bs} (e : sc ρ h = .ok (.bl true) h1) : sIte sc sa sb ρ h = sa ρ h1 := by
  simp -implicitDefEqProofs only [sIte, sTru, e, bind_ok, truth, if_true]
theorem ite_f {sc sa sb : SV} {ρ : Ev} {h1 : Bs} (e : sc ρ h = .ok (.bl false) h1) : sIte sc sa sb ρ h = sb ρ h1 := by
  simp -implicitDefEqProofs only [sIte, sTru, e, bind_ok, truth, Bool.false_eq_true, if_false]
theorem frzDs_id {g : Nat → Option D} : ∀ l : List D, noDs l = true → frzDs g l = some l
  | [], _ => rfl
  | d :: l, e => by
    rw [noDs, Bool.and_eq_true] at e
    rw [frzDs, frzD_id g d e.1]
    simp only [frzDs_id l e.2]
theorem Is.len {d : D} (i : Is h d S f) : lenX [d] h = .ok (.int S.length) h := by
  show (if isDk d h = true then dlenD [d] h else lenD [d] h) = _
  rw [if_pos i.dk]
  simp only [dlenD, i.dct, List.length_map]
def hD (B : List Bx) (fb : List Nat) (S : List (List Int)) (f : List Int → D) : Bs := ⟨B.length :: fb, B ++ [bT S f]⟩
end
end VI.Dk
end
section
namespace VI.Mk
open PySem PySem.Spec PyProof.Rows L2 VI VI.Std VI.Fl
open VI.Lay (lT)
section
variable {K : PySem.W.Frag} {ct : Ct} {h : Bs} {A : List (List Int)} {X : List Int}
theorem while_f {c : SV} {b : SS} {fu : Nat} {ρ : Ev} (e : c ρ h = .ok (.bl false) h) : whileS c b (fu + 1) ρ h = .nx ρ h := by
  simp -implicitDefEqProofs only [whileS, sTru, e, bind_ok, truth, toF_ok, Bool.false_eq_true, if_false]
theorem while_t {c : SV} {b : SS} {fu : Nat} {ρ ρ1 : Ev} {h1 : Bs} (e : c ρ h = .ok (.bl true) h) (e2 : b ρ h = .nx ρ1 h1) : whileS c b (fu + 1) ρ h = whileS c b fu ρ1 h1 := by
  simp -implicitDefEqProofs only [whileS, sTru, e, bind_ok, truth, toF_ok, if_true, e2]
def Nr (d : D) (h hh : Bs) : Prop := ∀ j, d ≠ .ref j → hh.bs[j]? = h.bs[j]?
theorem Nr.tbl {d : D} {hh : Bs} {xs : List D} {t : Nat} (c : Chv h d xs) (n : Nr d h hh) {j : Nat} (e : h.bs[j]? = some (.tbl t)) : hh.bs[j]? = some (.tbl t) := by
  rw [n j ?_, e]
  rcases c with rfl | ⟨b, rfl, hb⟩
  · exact fun z => (nomatch z)
  · intro z
    cases z
    rw [hb] at e
    cases e
end
end VI.Mk
end
section
namespace VI
open PySem PySem.Spec PyProof.Rows L2
section
variable {X : Cx} {T : Tb} {W : WX} {μ μ' : Mu} {H H' : Hp} {h : Bs} {σ : Sg} {ρ : Ev} {ta tb tc td : TE}
variable {a b c d : Expr} {sa sb sc sd : SV} {pos : Pos}
variable {Z : Cfg} {t : Tx} {k : Nat} {N : List Str} {scp : Scope} {raw : Option Scope}
end
end VI
end
section
namespace VI
open PySem PySem.Spec PyProof.Rows L2
section
variable {X : Cx} {σ : Sg} {H : Hp} {s : Shared} {pins : List (Addr × Obj)}
end
section
variable {X : Cx} {T : Tb} {W : WX} {μ μ' : Mu} {H H' : Hp} {h : Bs} {σ : Sg} {ρ : Ev}
end
section
variable {Z : Cfg} {t : Tx} {k : Nat} {N : List Str} {sc : Scope} {raw : Option Scope} {X : Cx} {W : WX} {pos p : Pos} {a : Expr} {sa : SV} {x y : Str}
end
end VI
end
section
namespace VI
open PySem PySem.Spec PyProof.Rows L2
section
variable {X : Cx} {T : Tb} {W : WX} {μ μ' : Mu} {H H' : Hp} {h : Bs} {σ : Sg} {ρ : Ev} {p q p2 pos : Pos} {a : Expr} {sa : SV}
variable {Z : Cfg} {t : Tx} {k : Nat} {N : List Str} {sc : Scope} {raw : Option Scope}
end
end VI
end
section
namespace VI.Q
open PySem PySem.Spec PyProof.Rows L2 VI VI.Std VI.Fl
open VI.Lay (lT)
open VI.Dk (eK)
section
variable {h : Bs} {n b k : Nat} {X Y : List Int} {R P : List (List Int)} {ρ : Ev} {d : D}
def nt (X : List Int) (k : Nat) : Int := X.getD k 0
def IsS (d : D) (X : List Int) : Prop := d = pI X ∨ d = tI X ∨ d = lI X
theorem IsS.seq (i : IsS d X) : seqOf h d = some (X.map .int) := by rcases i with rfl | rfl | rfl <;> rfl
theorem IsS.it (i : IsS d X) : itSeq d h = .ok (X.map .int, none) h := by rcases i with rfl | rfl | rfl <;> rfl
theorem IsS.len (i : IsS d X) : lenD [d] h = .ok (.int X.length) h := by
  rcases i with rfl | rfl | rfl <;> simp only [lenD, seqOf, lstOf, List.length_map]
theorem IsS.sum (i : IsS d X) : sumD [d] h = .ok (.int X.sum) h := by
  rcases i with rfl | rfl | rfl <;> simp only [sumD, seqOf, lstOf, intsD_map]
theorem IsS.max (i : IsS d X) (hX : X ≠ []) : maxD [d] h = .ok (.int (maxI X)) h := by
  match X, hX with
  | x :: xs, _ => rcases i with rfl | rfl | rfl <;> simp only [maxD, mmD, seqOf, lstOf, intsD_map] <;> rfl
theorem IsS.min (i : IsS d X) (hX : X ≠ []) : minDS [d] h = .ok (.int (minI X)) h := by
  match X, hX with
  | x :: xs, _ => rcases i with rfl | rfl | rfl <;> simp only [minDS, minD, mmD, seqOf, lstOf, intsD_map] <;> rfl
theorem IsS.lst (i : IsS d X) (hl : X.length ≤ 1000) : listD false [d] h = .ok (lI X) h := by
  have sz : (1000 : Nat) ≤ sizeLine := by decide
  rcases i with rfl | rfl | rfl <;> exact newL_f (by rw [List.length_map]; omega)
def IsR (d : D) (R : List (List Int)) : Prop := d = lT R ∨ d = .tup (R.map fun X => tI X)
theorem IsR.seq (i : IsR d R) : seqOf h d = some (R.map fun X => tI X) := by rcases i with rfl | rfl <;> rfl
theorem IsR.it (i : IsR d R) : itSeq d h = .ok (R.map fun X => tI X, none) h := by rcases i with rfl | rfl <;> rfl
theorem IsR.len (i : IsR d R) : lenD [d] h = .ok (.int R.length) h := by
  rcases i with rfl | rfl <;> simp only [lenD, seqOf, lstOf, List.length_map]
theorem enum_map {α : Type} (E : α → D) : ∀ (l : List α) (k : Nat), enumL k (l.map E) = (l.zipIdx k).map fun p => D.tup [.int p.2, E p.1]
  | [], _ => rfl
  | x :: l, k => by
    have := enum_map E l (k + 1)
    rw [List.map_cons, enumL, this]
    rfl
theorem mem_zipIdx {α : Type} {l : List α} {p : α × Nat} (hp : p ∈ l.zipIdx) : ∃ h : p.2 < l.length, p.1 = l[p.2] := by
  obtain ⟨x, i⟩ := p
  have := List.mem_zipIdx hp
  exact ⟨by omega, by simpa using this.2.2⟩
def b1 (q : Bs) (xs : List D) : Bs := ⟨q.fbs, q.bs ++ [.lst false xs]⟩
def b2 (q : Bs) (xs ys : List D) : Bs := ⟨q.fbs, q.bs ++ [.lst false xs, .lst false ys]⟩
variable {xs ys : List D} {v : D}
theorem b1_at : (b1 h xs).bs[h.bs.length]? = some (.lst false xs) := by unfold b1; simp
theorem okW_n (e : noR v = true) : okW h b v = true := by
  unfold okW
  split
  · rfl
  · rw [e, Bool.or_true]
theorem app_at (e : h.bs[b]? = some (.lst false xs)) (hl : xs.length ≤ 10000) (nr : noR v = true) : appD (.ref b) [v] h = .ok .non (putL b (xs ++ [v]) h) := by
  have sz : (10000 : Nat) < sizeLine := by decide
  have e3 : decide (xs.length < sizeLine) = true := decide_eq_true (by omega)
  simp only [appD, e, okW_n nr, e3, Bool.and_self, if_true]
theorem seq_at (e : h.bs[b]? = some (.lst false xs)) : seqOf h (.ref b) = some xs := by simp only [seqOf, lstOf, e]
theorem lst_at' (e : h.bs[b]? = some (.lst false xs)) : (lstOf h (.ref b)).isSome = true := by simp only [lstOf, e]; rfl
theorem b1_put : putL h.bs.length ys (b1 h xs) = b1 h ys := by unfold putL b1; simp
theorem new_box (hl : xs.length ≤ 10000) : newL true xs h = .ok (.ref h.bs.length) (b1 h xs) := by
  have sz : (10000 : Nat) ≤ sizeLine := by decide
  rw [newL_t' (by omega)]
  rfl
theorem lst_box {sa : SA} (e : sa ρ h = .ok xs h) (hl : xs.length ≤ 10000) : sLst true sa ρ h = .ok (.ref h.bs.length) (b1 h xs) := by
  unfold sLst
  rw [e, bind_ok]
  exact new_box hl
theorem take_b1 : (b1 (inB h) xs).bs.take h.bs.length = h.bs := by show (h.bs ++ _).take _ = _; simp
theorem run_box {np nl : Nat} {s : SS} {ds : List D} {hh : Bs} {b : Nat} (hl : ds.length = np) (hs : s (slots nl ds) (inB h) = .rt (.ref b) hh) (hp : hh.bs.take h.bs.length = h.bs) (hb : h.bs.length ≤ b) (e : hh.bs[b]? = some (.lst false xs)) (nd : noDs xs = true) : runFn np nl s ds h = .ok (.lst xs) h := by
  have fz : frzR h.bs.length hh.bs 4 b = some (.lst xs) := by
    simp -implicitDefEqProofs only [frzR]
    rw [if_neg (by omega), e]
    simp -implicitDefEqProofs only [VI.Dk.frzDs_id _ nd]
  unfold runFn
  rw [if_pos hl, hs]
  simp only [finF, frzD, fz, Fl.take_end hp]
end
end VI.Q
end
section
namespace VI.Fl.G
open PySem PySem.Spec PyProof.Rows L2 VI VI.Std
open VI.Lay (itD ItOk LayT LayOk oL rgI sets oth lT lt_ok ge_ok fld0 fld1 lenTI stG stG_at stG_new stG_app stG_end fil_emb)
structure Itw (n : Nat) (its : List Im) : Prop where
  nd : ∀ i ∈ its, i.1.Nodup
  rg : ∀ i ∈ its, ∀ x ∈ i.1, 0 ≤ x ∧ x < n
  low : ∀ i ∈ its, 0 ≤ i.2
  top : ∀ i ∈ its, i.2 ≤ 900
def bfs (its : List Im) (C : List (List Int)) (L : Int → Int) : Nat → St → Option (Option (Mp × Int))
  | 0, _ => none
  | _ + 1, (_, []) => some none
  | f + 1, (M, sv :: Q) => if (ld C sv : Int) < L sv then some (some (M, sv)) else bfs its C L f (scan its C sv (M, Q))
structure Wk_ (its : List Im) (C : List (List Int)) (L : Int → Int) (st : Int) (n : Nat) (P : List Int) (s : St) : Prop where
  par : ParM its C st s.1
  keys : ks s.1 = P ++ s.2
  full : ∀ p ∈ P, L p ≤ (ld C p : Int)
  cov : ∀ p ∈ P, Cov its C p (ks s.1)
def Found (its : List Im) (C : List (List Int)) (L : Int → Int) (st : Int) : Option (Mp × Int) → Prop
  | some (M, sv) => ParM its C st M ∧ sv ∈ ks M ∧ (ld C sv : Int) < L sv
  | none => ∃ V : List Int, V.Nodup ∧ st ∈ V ∧ (∀ p ∈ V, L p ≤ (ld C p : Int)) ∧ ∀ p ∈ V, Cov its C p V
theorem start_ok {its : List Im} {C : List (List Int)} {L : Int → Int} {st : Int} {n : Nat} : Wk_ its C L st n [] ([(st, none)], [st]) := ⟨.one, rfl, fun _ z => (nomatch z), fun _ z => (nomatch z)⟩
def path (its : List Im) (C : List (List Int)) (L : Int → Int) (st : Int) : Option (Mp × Int) := (bfs its C L 1000 ([(st, none)], [st])).getD none
def wom (its : List Im) (C : List (List Int)) (j : Nat) (L : Int → Int) : Option (List (List Int)) := (its.getD j d0).1.findSome? fun s => if s ∈ C.getD j [] then none else (path its C L s).map fun p => more C j s (stp p.1 1000 p.2)
def grow (its : List Im) (L : Int → Int) (j : Nat) : Nat → List (List Int) → List (List Int)
  | 0, C => C
  | f + 1, C => if ((C.getD j []).length : Int) < (its.getD j d0).2 then match wom its C j L with
    | some C' => grow its L j f C'
    | none => C
    else C
def fillA (its : List Im) (L : Int → Int) : Nat → Nat → List (List Int) → List (List Int)
  | 0, _, C => C
  | m + 1, a, C => fillA its L m (a + 1) (grow its L a 900 C)
def fill (its : List Im) (L : Int → Int) : List (List Int) := fillA its L its.length 0 (its.map fun _ => [])
structure Tgt (n : Nat) (its : List Im) (L : Int → Int) (a : Nat) (C : List (List Int)) (V : Int → Prop) : Prop where
  clo : ∀ p, V p → ∀ k < its.length, p ∈ C.getD k [] → ∀ x ∈ (its.getD k d0).1, x ∉ C.getD k [] → V x
  lim : ∀ p, V p → L p ≤ (ld C p : Int)
  cov : ∀ k < a, k < its.length → ((C.getD k []).length : Int) < (its.getD k d0).2 → ∀ x ∈ (its.getD k d0).1, x ∉ C.getD k [] → V x
theorem Tgt.out {n : Nat} {its : List Im} {L : Int → Int} {a : Nat} {C : List (List Int)} {V : Int → Prop} (T : Tgt n its L a C V) : ∀ (l : List Sp) (e st : Int), ¬ V e → Lnk l e st → (∀ s ∈ l, OkS its C s.1 s.2.1 s.2.2) → ¬ V st ∧ ∀ s ∈ l, ¬ V s.2.1 ∧ ¬ V s.2.2
  | [], e, st, he, hl, _ => ⟨fun z => he (by rw [show e = st from hl]; exact z), fun _ z => (nomatch z)⟩
  | (i, o, t) :: l, e, st, he, hl, ok => by
    obtain ⟨h1, h2⟩ := hl
    obtain ⟨k1, k2, k3, k4⟩ := ok _ List.mem_cons_self
    have ht : ¬ V t := fun z => he (by rw [show e = t from h1]; exact z)
    have ho : ¬ V o := fun z => ht (T.clo o z i k1 k2 t k4 k3)
    obtain ⟨r1, r2⟩ := T.out l o st ho h2 fun s hs => ok s (List.mem_cons_of_mem _ hs)
    refine ⟨r1, fun s hs => ?_⟩
    rcases List.mem_cons.mp hs with z | z
    · rw [z]; exact ⟨ho, ht⟩
    · exact r2 s z
end VI.Fl.G
end
section
namespace VI.Fl.G
open PySem PySem.Spec PyProof.Rows L2 VI VI.Std
open VI.Lay (itD ItOk LayT LayOk oL rgI sets oth lT lt_ok ge_ok fld0 fld1 lenTI stG stG_at stG_new stG_app stG_end fil_emb)
section
variable {K : PySem.W.Frag} {ct : Ct} {h : Bs} {n : Nat} {its : List Im} {C : List (List Int)} {L : Int → Int} {st : Int} {o : D}
structure Ob (T : Tb) (o : D) (n : Nat) (its : List Im) : Prop where
  f0 : ∀ h, fldD T 0 o h = .ok (.int n) h
  f1 : ∀ h, fldD T 1 o h = .ok (.tup (its.map itD)) h
def lims (n : Nat) (L : Int → Int) : List Int := (rgI n).map L
theorem holders_ok {x0 : Option D} (O : Ob (tbC ct K) o n its) {k : Nat} (hk : k < its.length) {so sk : SV} {ρ : Ev} (e0 : so ρ h = .ok o h) (ek : sk ρ h = .ok (.int k) h) : (sOp ixX (sOp ixX (sUn (fldD (tbC ct K) 1) so) sk) (sK (.int 0))) ρ h = .ok (tI (its.getD k d0).1) h := by
  have e : (its.map itD)[k]? = some (itD (its.getD k d0)) := by
    rw [List.getElem?_map, List.getD_eq_getElem?_getD, List.getElem?_eq_getElem hk]; rfl
  refine op_ok (x := itD (its.getD k d0)) (y := .int 0) (op_ok (x := .tup (its.map itD)) (y := .int k) (un_ok e0 (O.f1 _)) ek ((ixX_f (by rfl)).trans ?_)) rfl rfl
  show (match atI (its.map itD) (k : Int) with | some x => R.ok x h | none => .no) = _
  rw [atI_get e]
theorem l2_ok (O : Ob (tbC ct K) o n its) {B : List Bx} {fb : List Nat} {s : St} {q : Nat} (hn : n ≤ 800) (I : Itw n its) (S : StQ B fb s q h) (v : Inv n s) {k : Nat} (hk : k < its.length) {sv : Int} {r : List Int} {x1 x2 x3 x4 x10 : Option D} : ∃ h1 y10,
    l2_path_from (tbC ct K) (ev_ (some o) x1 x2 x3 x4 B.length q (some (.int sv)) (some (.int k)) (some (tI r)) x10) h = .nx (ev_ (some o) x1 x2 x3 x4 B.length q (some (.int sv)) (some (.int k)) (some (tI r)) y10) h1 ∧ StQ B fb (scan1 its sv s (r, k)) q h1 ∧ Inv n (scan1 its sv s (r, k)) := by
  have ti : (sTru (sOp (inX false) (sVar 7) (sVar 9))) (ev_ (some o) x1 x2 x3 x4 B.length q (some (.int sv)) (some (.int k)) (some (tI r)) x10) h = .ok (decide (sv ∈ r)) h := tru_ok (op_ok (x := .int sv) (y := tI r) rfl rfl ((inX_f (by rfl)).trans (in_tI (neg := false))))
  unfold l2_path_from scan1
  by_cases z : sv ∈ r
  · rw [if_pos z]
    obtain ⟨h1, y10, e, S1, v1⟩ := l1_loop (K := K) (ct := ct) hn (k := k) (sv := sv) (r := r) (x0 := some o) (x1 := x1) (x2 := x2) (x3 := x3) (x4 := x4) (its.getD k d0).1 s h x10 S v (I.rg _ (getD_mem hk))
    refine ⟨h1, y10, (cons_nx (for_ok (xs := (its.getD k d0).1.map .int) (h1 := h) ?_ e)).trans rfl, S1, v1⟩
    have ev : (sIte (sOp (inX false) (sVar 7) (sVar 9)) (sOp ixX (sOp ixX (sUn (fldD (tbC ct K) 1) (sVar 0)) (sVar 8)) (sK (.int 0))) (sTup saNil)) (ev_ (some o) x1 x2 x3 x4 B.length q (some (.int sv)) (some (.int k)) (some (tI r)) x10) h = .ok (tI (its.getD k d0).1) h := by
      unfold sIte
      rw [ti, bind_ok, decide_eq_true z, if_pos rfl]
      exact holders_ok O hk rfl rfl (x0 := x1)
    unfold siX
    rw [ev]
    rfl
  · rw [if_neg z]
    refine ⟨h, x10, (cons_nx (for_ok (xs := []) (h1 := h) ?_ rfl)).trans rfl, S, v⟩
    have ev : (sIte (sOp (inX false) (sVar 7) (sVar 9)) (sOp ixX (sOp ixX (sUn (fldD (tbC ct K) 1) (sVar 0)) (sVar 8)) (sK (.int 0))) (sTup saNil)) (ev_ (some o) x1 x2 x3 x4 B.length q (some (.int sv)) (some (.int k)) (some (tI r)) x10) h = .ok (.tup []) h := by
      unfold sIte
      rw [ti, bind_ok, decide_eq_false z, if_neg (by simp)]
      rfl
    unfold siX
    rw [ev]
    rfl
theorem l2_loop (O : Ob (tbC ct K) o n its) {B : List Bx} {fb : List Nat} {q : Nat} (hn : n ≤ 800) (I : Itw n its) {sv : Int} {x1 x2 x3 x4 : Option D} : ∀ (l : List (List Int × Nat)) (s : St) (h : Bs) (x8 x9 x10 : Option D), StQ B fb s q h → Inv n s → (∀ p ∈ l, p.2 < its.length) → ∃ h1 y8 y9 y10,
    loopS (sgTup 2 (sgCons (sgName 8) (sgCons (sgName 9) sgNil))) (l2_path_from (tbC ct K)) (l.map eR) (ev_ (some o) x1 x2 x3 x4 B.length q (some (.int sv)) x8 x9 x10) h = .nx (ev_ (some o) x1 x2 x3 x4 B.length q (some (.int sv)) y8 y9 y10) h1 ∧ StQ B fb (l.foldl (scan1 its sv) s) q h1 ∧ Inv n (l.foldl (scan1 its sv) s)
  | [], s, h, x8, x9, x10, S, v, _ => ⟨h, x8, x9, x10, rfl, S, v⟩
  | (r, k) :: l, s, h, x8, x9, x10, S, v, hl => by
    obtain ⟨h1, z10, e1, S1, v1⟩ := l2_ok (K := K) (ct := ct) O hn I S v (k := k) (hl _ List.mem_cons_self) (sv := sv) (r := r) (x1 := x1) (x2 := x2) (x3 := x3) (x4 := x4) (x10 := x10)
    obtain ⟨h2, y8, y9, y10, e2, S2, v2⟩ := l2_loop O hn I (sv := sv) (x1 := x1) (x2 := x2) (x3 := x3) (x4 := x4) l _ h1 (some (.int k)) (some (tI r)) z10 S1 v1 fun p hp => hl p (List.mem_cons_of_mem _ hp)
    refine ⟨h2, y8, y9, y10, ?_, S2, v2⟩
    rw [List.map_cons]
    exact (loop_step (ρ1 := ev_ (some o) x1 x2 x3 x4 B.length q (some (.int sv)) (some (.int k)) (some (tI r)) x10) rfl e1).trans e2
theorem scan_ok (O : Ob (tbC ct K) o n its) {B : List Bx} {fb : List Nat} {s : St} {q : Nat} {d : D} (hn : n ≤ 800) (I : Itw n its) (c : Chv ⟨fb, B⟩ d (chD C)) (hC : C.length = its.length) (S : StQ B fb s q h) (v : Inv n s) {sv : Int} {x2 x3 x4 x8 x9 x10 : Option D} : ∃ h1 y8 y9 y10,
    ssFor (siArg itEnum2 (saCons (sVar 1) saNil)) (sgTup 2 (sgCons (sgName 8) (sgCons (sgName 9) sgNil))) (l2_path_from (tbC ct K)) (ev_ (some o) (some d) x2 x3 x4 B.length q (some (.int sv)) x8 x9 x10) h = .nx (ev_ (some o) (some d) x2 x3 x4 B.length q (some (.int sv)) y8 y9 y10) h1 ∧ StQ B fb (scan its C sv s) q h1 ∧ Inv n (scan its C sv s) := by
  have hp : ∀ p ∈ C.zipIdx, p.2 < its.length := fun p hp => by
    have := List.mem_zipIdx hp
    omega
  rcases c with rfl | ⟨b, rfl, hb⟩
  · obtain ⟨h1, y8, y9, y10, e, S1, v1⟩ := l2_loop (K := K) (ct := ct) O hn I (sv := sv) (x1 := some (.lst (chD C))) (x2 := x2) (x3 := x3) (x4 := x4) C.zipIdx s h x8 x9 x10 S v hp
    refine ⟨h1, y8, y9, y10, for_ok (h1 := h) (arg_ok (h1 := h) (xs := [.lst (chD C)]) rfl ?_) e, S1, v1⟩
    show R.ok (enumL 0 (chD C), none) h = _
    rw [enum_R]
  · have hb : B[b]? = some (.lst false (chD C)) := hb
    obtain ⟨h1, y8, y9, y10, e, S1, v1⟩ := l2_loop (K := K) (ct := ct) O hn I (sv := sv) (x1 := some (.ref b)) (x2 := x2) (x3 := x3) (x4 := x4) C.zipIdx s (lockB b h) x8 x9 x10 (S.lock hb) v hp
    rw [List.length_set] at e
    refine ⟨unlB b h1, y8, y9, y10, for_lk (h1 := h) (arg_ok (h1 := h) (xs := [.ref b]) rfl ?_) e, StQ.unlock hb S1, v1⟩
    have hb' := S.at_ hb
    have : itSeq (.ref b) h = .ok (chD C, some b) h := by simp only [itSeq, hb']
    unfold itEnum2
    simp only [this, enum_R]
theorem lim_at {x : Int} (hx : 0 ≤ x ∧ x < n) : ixX (lI (lims n L)) (.int x) h = .ok (.int (L x)) h := by
  obtain ⟨i, rfl⟩ : ∃ i : Nat, x = i := ⟨x.toNat, by omega⟩
  rw [ixX_f (by rfl)]
  show (match atI ((lims n L).map D.int) (i : Int) with | some x => R.ok x h | none => .no) = _
  rw [atI_get (x := .int (L i)) (by
    unfold lims rgI
    rw [List.getElem?_map, List.getElem?_map, List.getElem?_map, List.getElem?_range (by omega)]
    rfl)]
theorem l3_ok (O : Ob (tbC ct K) o n its) {B : List Bx} {fb : List Nat} {M : Mp} {sv : Int} {Q : List Int} {q : Nat} {d : D} (hn : n ≤ 800) (I : Itw n its) (c : Chv ⟨fb, B⟩ d (chD C)) (hC : C.length = its.length) (S : StQ B fb (M, sv :: Q) q h) (v : Inv n (M, sv :: Q)) (hsv : 0 ≤ sv ∧ sv < n) {x2 x7 x8 x9 x10 : Option D} :
    ((ld C sv : Int) < L sv → ParM its C st M → sv ∈ ks M → ∃ h1, l3_path_from (tbC ct K) (ev_ (some o) (some d) x2 (some (lI (lims n L))) (some (lI (lds n C))) B.length q x7 x8 x9 x10) h = .rt (pathD (some (M, sv))) h1 ∧ h1.bs.take B.length = B) ∧
    (¬ (ld C sv : Int) < L sv → ∃ h1 q1 y8 y9 y10, l3_path_from (tbC ct K) (ev_ (some o) (some d) x2 (some (lI (lims n L))) (some (lI (lds n C))) B.length q x7 x8 x9 x10) h = .nx (ev_ (some o) (some d) x2 (some (lI (lims n L))) (some (lI (lds n C))) B.length q1 (some (.int sv)) y8 y9 y10) h1 ∧ StQ B fb (scan its C sv (M, Q)) q1 h1 ∧ Inv n (scan its C sv (M, Q))) := by
  have vl := v.len
  have vl2 : Q.length + 1 ≤ n := vl.2
  obtain ⟨p1, S1⟩ := S.pop (by omega)
  have v1 : Inv n (M, Q) := ⟨v.nd, v.rg, by have := v.le; simp at this; show Q.length ≤ M.length; omega, fun x hx => v.sub x (List.mem_cons_of_mem _ hx)⟩
  have first : (ssAsg (sTup (saCons (sOp ixX (sVar 6) (sK (.int 0))) (saCons (sSl true (sVar 6) (soSome (sK (.int 1))) soNone) saNil))) (sgTup 2 (sgCons (sgName 7) (sgCons (sgName 6) sgNil)))) (ev_ (some o) (some d) x2 (some (lI (lims n L))) (some (lI (lds n C))) B.length q x7 x8 x9 x10) h = .nx (ev_ (some o) (some d) x2 (some (lI (lims n L))) (some (lI (lds n C))) B.length h.bs.length (some (.int sv)) x8 x9 x10) ⟨h.fbs, h.bs ++ [.lst false (Q.map .int)]⟩ := by
    refine asg_ok (d := .tup [.int sv, .ref h.bs.length]) (tup_ok (cons_ok (x := .int sv) (h1 := h) (op_ok (x := .ref q) (y := .int 0) rfl rfl ?_) (cons_ok (x := .ref h.bs.length) ?_ rfl)) two_le) rfl
    · have nk : isDk (.ref q) h = false := by have e := S.que; simp only [isDk, dctO, e]; rfl
      rw [ixX_f nk]
      have e := S.que
      have e0 := atI_get (xs := (sv :: Q).map D.int) (i := 0) (x := .int sv) rfl
      simp only [ixD, seqOf, lstOf, e]
      rw [show (0 : Int) = ((0 : Nat) : Int) from rfl, e0]
    · show (sSl true (sVar 6) (soSome (sK (.int 1))) soNone) _ h = _
      unfold sSl
      show (slD true (.ref q) (some 1) none h) = _
      rw [p1]
  have cond : ∀ {z8 z9 z10 : Option D}, (sOp ltS (sOp ixX (sVar 4) (sVar 7)) (sOp ixX (sVar 3) (sVar 7))) (ev_ (some o) (some d) x2 (some (lI (lims n L))) (some (lI (lds n C))) B.length h.bs.length (some (.int sv)) z8 z9 z10) ⟨h.fbs, h.bs ++ [.lst false (Q.map .int)]⟩ = .ok (.bl (decide ((ld C sv : Int) < L sv))) ⟨h.fbs, h.bs ++ [.lst false (Q.map .int)]⟩ := fun {z8 z9 z10} => op_ok (x := .int (ld C sv)) (y := .int (L sv)) (op_ok (x := lI (lds n C)) (y := .int sv) rfl rfl (lds_at hsv)) (op_ok (x := lI (lims n L)) (y := .int sv) rfl rfl (lim_at hsv)) lt_ok
  unfold l3_path_from
  constructor
  · intro lt P hk
    rw [decide_eq_true lt] at cond
    refine ⟨⟨h.fbs, h.bs ++ [.lst false (Q.map .int)]⟩, (cons_nx first).trans (cons_rt ((if_t cond).trans ?_)), S1.pre⟩
    exact ret_ok (call_ok (xs := [.ref B.length, .int sv]) rfl (steps_to_ok S1.dct P hk (by have := vl.1; show M.length ≤ 900; have : M.length ≤ n := vl.1; omega)))
  · intro nlt
    rw [decide_eq_false nlt] at cond
    obtain ⟨h1, y8, y9, y10, e, S2, v2⟩ := scan_ok (K := K) (ct := ct) O hn I c hC S1 v1 (sv := sv) (x2 := x2) (x3 := some (lI (lims n L))) (x4 := some (lI (lds n C))) (x8 := x8) (x9 := x9) (x10 := x10)
    exact ⟨h1, h.bs.length, y8, y9, y10, (cons_nx first).trans ((cons_nx (if_f cond)).trans ((cons_nx e).trans rfl)), S2, v2⟩
theorem walk_ok (O : Ob (tbC ct K) o n its) {B : List Bx} {fb : List Nat} {d : D} {r : Option (Mp × Int)} (hn : n ≤ 800) (I : Itw n its) (c : Chv ⟨fb, B⟩ d (chD C)) (hC : C.length = its.length) (F : Found its C L st r) {x2 : Option D} : ∀ (f : Nat) (s : St) (h : Bs) (q : Nat) (x7 x8 x9 x10 : Option D), StQ B fb s q h → Inv n s → bfs its C L f s = some r →
    (r = none → ∃ ρ1 h1, whileS (sOp neX (sVar 6) (sLst false saNil)) (l3_path_from (tbC ct K)) f (ev_ (some o) (some d) x2 (some (lI (lims n L))) (some (lI (lds n C))) B.length q x7 x8 x9 x10) h = .nx ρ1 h1 ∧ h1.bs.take B.length = B) ∧
    (∀ p, r = some p → ∃ h1, whileS (sOp neX (sVar 6) (sLst false saNil)) (l3_path_from (tbC ct K)) f (ev_ (some o) (some d) x2 (some (lI (lims n L))) (some (lI (lds n C))) B.length q x7 x8 x9 x10) h = .rt (pathD (some p)) h1 ∧ h1.bs.take B.length = B)
  | 0, s, h, q, x7, x8, x9, x10, S, v, e => by cases e
  | f + 1, (M, []), h, q, x7, x8, x9, x10, S, v, e => by
    have e : some none = some r := e
    cases e
    have c0 : (sOp neX (sVar 6) (sLst false saNil)) (ev_ (some o) (some d) x2 (some (lI (lims n L))) (some (lI (lds n C))) B.length q x7 x8 x9 x10) h = .ok (.bl false) h := op_ok (x := .ref q) (y := .lst []) rfl rfl ((que_ne S).trans rfl)
    refine ⟨fun _ => ⟨(ev_ (some o) (some d) x2 (some (lI (lims n L))) (some (lI (lds n C))) B.length q x7 x8 x9 x10), h, ?_, S.pre⟩, fun p z => by cases z⟩
    simp only [whileS, sTru, c0, bind_ok, truth, toF_ok, Bool.false_eq_true, if_false]
  | f + 1, (M, sv :: Q), h, q, x7, x8, x9, x10, S, v, e => by
    have c0 : (sOp neX (sVar 6) (sLst false saNil)) (ev_ (some o) (some d) x2 (some (lI (lims n L))) (some (lI (lds n C))) B.length q x7 x8 x9 x10) h = .ok (.bl true) h := op_ok (x := .ref q) (y := .lst []) rfl rfl ((que_ne S).trans rfl)
    have hsv : 0 ≤ sv ∧ sv < n := v.rg sv (v.sub sv List.mem_cons_self)
    obtain ⟨k1, k2⟩ := l3_ok (K := K) (ct := ct) (L := L) (st := st) O hn I c hC S v hsv (x2 := x2) (x7 := x7) (x8 := x8) (x9 := x9) (x10 := x10)
    unfold bfs at e
    by_cases lt : (ld C sv : Int) < L sv
    · rw [if_pos lt] at e
      cases e
      obtain ⟨P, hk, _⟩ := F
      obtain ⟨h1, e1, e2⟩ := k1 lt P hk
      refine ⟨fun z => (by cases z), fun p z => ?_⟩
      cases z
      refine ⟨h1, ?_, e2⟩
      simp only [whileS, sTru, c0, bind_ok, truth, toF_ok, if_true, e1]
    · rw [if_neg lt] at e
      obtain ⟨h1, q1, y8, y9, y10, e1, S1, v1⟩ := k2 lt
      have ih := walk_ok O hn I c hC F (x2 := x2) f _ h1 q1 (some (.int sv)) y8 y9 y10 S1 v1 e
      have w : whileS (sOp neX (sVar 6) (sLst false saNil)) (l3_path_from (tbC ct K)) (f + 1) (ev_ (some o) (some d) x2 (some (lI (lims n L))) (some (lI (lds n C))) B.length q x7 x8 x9 x10) h = whileS (sOp neX (sVar 6) (sLst false saNil)) (l3_path_from (tbC ct K)) f (ev_ (some o) (some d) x2 (some (lI (lims n L))) (some (lI (lds n C))) B.length q1 (some (.int sv)) y8 y9 y10) h1 := by
        conv => lhs; simp only [whileS, sTru, c0, bind_ok, truth, toF_ok, if_true, e1]
      rw [w]
      exact ih
end
end VI.Fl.G
end
section
namespace VI
open PySem PySem.Spec PyProof.Rows L2
section
variable {X : Cx} {T : Tb} {WW : WX} {μ μ' : Mu} {H H' : Hp} {h : Bs} {σ : Sg} {ρ : Ev} {pins : List (Addr × Obj)} {s : Shared}
end
end VI
end
section
namespace VI.Ec
open PySem PySem.Spec PyProof.Rows L2 VI VI.Std
section
variable {β : Type} [DecidableEq β] {m : Nat} {T H : Nat → β} {c : Nat → Int} {h t : β} {a b : Int} {l p : List Nat} {s : Bool} {e : Nat}
def Pro (m : Nat) (X : Nat → β) (c : Nat → Int) : Prop := ∀ i j, i < m → j < m → X i = X j → c i = c j → i = j
def fnd (m : Nat) (X : Nat → β) (c : Nat → Int) (v : β) (k : Int) : List Nat := (List.range m).filter fun i => decide (X i = v) && decide (c i = k)
theorem mem_fnd {X : Nat → β} {v : β} {k : Int} : e ∈ fnd m X c v k ↔ e < m ∧ X e = v ∧ c e = k := by
  unfold fnd
  rw [List.mem_filter, List.mem_range, Bool.and_eq_true, decide_eq_true_eq, decide_eq_true_eq]
def pth (m : Nat) (T H : Nat → β) (c : Nat → Int) (a b : Int) : Nat → List Nat → Bool → List Nat
  | 0, _, _ => []
  | _ + 1, [], _ => []
  | f + 1, e :: _, true => e :: pth m T H c a b f (fnd m T c (T e) b) false
  | f + 1, e :: _, false => e :: pth m T H c a b f (fnd m H c (H e) a) true
inductive Chn (m : Nat) (T H : Nat → β) (c : Nat → Int) (h : β) (a b : Int) : List Nat → Bool → Prop
  | nil : Chn m T H c h a b [] true
  | fst {e : Nat} : e < m → c e = a → H e = h → Chn m T H c h a b [e] false
  | stB {l : List Nat} {e e' : Nat} : Chn m T H c h a b (e' :: l) false → e < m → c e = b → T e = T e' → Chn m T H c h a b (e :: e' :: l) true
  | stA {l : List Nat} {e e' : Nat} : Chn m T H c h a b (e' :: l) true → e < m → c e = a → H e = H e' → Chn m T H c h a b (e :: e' :: l) false
theorem Chn.col (C : Chn m T H c h a b l s) : ∀ x ∈ l, x < m ∧ (c x = a ∨ c x = b) := by
  induction C with
  | nil => exact fun x hx => by cases hx
  | fst h1 h2 h3 => exact fun x hx => by rw [List.mem_singleton.mp hx]; exact ⟨h1, .inl h2⟩
  | stB C h1 h2 h3 ih =>
    intro x hx
    rcases List.mem_cons.mp hx with rfl | hx
    · exact ⟨h1, .inr h2⟩
    · exact ih x hx
  | stA C h1 h2 h3 ih =>
    intro x hx
    rcases List.mem_cons.mp hx with rfl | hx
    · exact ⟨h1, .inl h2⟩
    · exact ih x hx
theorem Chn.hdA (C : Chn m T H c h a b (e :: l) false) : c e = a ∧ e < m := by
  cases C with
  | fst h1 h2 h3 => exact ⟨h2, h1⟩
  | stA C h1 h2 h3 => exact ⟨h2, h1⟩
theorem Chn.hdB (C : Chn m T H c h a b (e :: l) true) : c e = b ∧ e < m := by
  cases C with
  | stB C h1 h2 h3 => exact ⟨h2, h1⟩
theorem Chn.pred (ab : a ≠ b) (C : Chn m T H c h a b l s) : ∀ x ∈ l, (c x = b → ∃ y ∈ l, c y = a ∧ T y = T x) ∧ (c x = a → H x = h ∨ ∃ y ∈ l, c y = b ∧ H y = H x) := by
  induction C with
  | nil => exact fun x hx => by cases hx
  | fst h1 h2 h3 =>
    intro x hx
    rw [List.mem_singleton.mp hx]
    exact ⟨fun z => absurd (h2.symm.trans z) ab, fun _ => .inl h3⟩
  | stB C h1 h2 h3 ih =>
    rename_i l e e'
    intro x hx
    rcases List.mem_cons.mp hx with rfl | hx
    · exact ⟨fun _ => ⟨e', List.mem_cons_of_mem _ List.mem_cons_self, C.hdA.1, h3.symm⟩, fun z => absurd (z.symm.trans h2) ab⟩
    · obtain ⟨i1, i2⟩ := ih x hx
      refine ⟨fun z => ?_, fun z => ?_⟩
      · obtain ⟨y, y1, y2⟩ := i1 z
        exact ⟨y, List.mem_cons_of_mem _ y1, y2⟩
      · rcases i2 z with w | ⟨y, y1, y2⟩
        · exact .inl w
        · exact .inr ⟨y, List.mem_cons_of_mem _ y1, y2⟩
  | stA C h1 h2 h3 ih =>
    rename_i l e e'
    intro x hx
    rcases List.mem_cons.mp hx with rfl | hx
    · exact ⟨fun z => absurd (h2.symm.trans z) ab, fun _ => .inr ⟨e', List.mem_cons_of_mem _ List.mem_cons_self, C.hdB.1, h3.symm⟩⟩
    · obtain ⟨i1, i2⟩ := ih x hx
      refine ⟨fun z => ?_, fun z => ?_⟩
      · obtain ⟨y, y1, y2⟩ := i1 z
        exact ⟨y, List.mem_cons_of_mem _ y1, y2⟩
      · rcases i2 z with w | ⟨y, y1, y2⟩
        · exact .inl w
        · exact .inr ⟨y, List.mem_cons_of_mem _ y1, y2⟩
theorem Chn.tail {e' : Nat} (C : Chn m T H c h a b (e :: e' :: l) s) : Chn m T H c h a b (e' :: l) (!s) := by
  cases C with
  | stB C _ _ _ => exact C
  | stA C _ _ _ => exact C
theorem Chn.rest (C : Chn m T H c h a b (e :: l) s) : Chn m T H c h a b l (!s) := by
  cases C with
  | fst _ _ _ => exact .nil
  | stB C _ _ _ => exact C
  | stA C _ _ _ => exact C
theorem Chn.nodup (ab : a ≠ b) (pT : Pro m T c) (pH : Pro m H c) (fb : ∀ i < m, H i = h → c i ≠ b) (C : Chn m T H c h a b l s) : l.Nodup := by
  induction C with
  | nil => exact List.nodup_nil
  | fst _ _ _ => simp
  | stB C h1 h2 h3 ih =>
    rename_i l e e'
    refine List.nodup_cons.mpr ⟨fun z => ?_, ih⟩
    obtain ⟨n1, n2⟩ := List.nodup_cons.mp ih
    have hA := C.hdA
    rcases List.mem_cons.mp z with rfl | z
    · exact ab (hA.1.symm.trans h2)
    · have C' := C.rest
      obtain ⟨y, y1, y2, y3⟩ := (C'.pred ab e z).1 h2
      have := pT y e' (C'.col y y1).1 hA.2 (y3.trans h3) (y2.trans hA.1.symm)
      subst this
      exact n1 y1
  | stA C h1 h2 h3 ih =>
    rename_i l e e'
    refine List.nodup_cons.mpr ⟨fun z => ?_, ih⟩
    obtain ⟨n1, n2⟩ := List.nodup_cons.mp ih
    have hB := C.hdB
    rcases List.mem_cons.mp z with rfl | z
    · exact ab (h2.symm.trans hB.1)
    · have C' := C.rest
      rcases (C'.pred ab e z).2 h2 with w | ⟨y, y1, y2, y3⟩
      · exact fb e' hB.2 (h3.symm.trans w) hB.1
      · have := pH y e' (C'.col y y1).1 hB.2 (y3.trans h3) (y2.trans hB.1.symm)
        subst this
        exact n1 y1
theorem nodup_len : ∀ {l : List Nat} {m : Nat}, l.Nodup → (∀ x ∈ l, x < m) → l.length ≤ m := fun {l m} nd hl => by
  have e : l.Perm ((List.range m).filter fun x => decide (x ∈ l)) := (List.perm_ext_iff_of_nodup nd (List.nodup_range.sublist List.filter_sublist)).mpr fun x => by
    rw [List.mem_filter, List.mem_range, decide_eq_true_eq]
    exact ⟨fun z => ⟨hl x z, z⟩, fun z => z.2⟩
  have := List.length_filter_le (fun x => decide (x ∈ l)) (List.range m)
  rw [← e.length_eq, List.length_range] at this
  exact this
def nx (m : Nat) (T H : Nat → β) (c : Nat → Int) (h : β) (a b : Int) : List Nat → Bool → List Nat
  | [], _ => fnd m H c h a
  | e :: _, true => fnd m H c (H e) a
  | e :: _, false => fnd m T c (T e) b
theorem Chn.grow (C : Chn m T H c h a b l s) (he : e ∈ nx m T H c h a b l s) : Chn m T H c h a b (e :: l) (!s) := by
  cases l with
  | nil =>
    cases C
    obtain ⟨h1, h2, h3⟩ := mem_fnd.mp he
    exact .fst h1 h3 h2
  | cons e' l =>
    cases s with
    | true =>
      obtain ⟨h1, h2, h3⟩ := mem_fnd.mp he
      exact .stA C h1 h3 h2
    | false =>
      obtain ⟨h1, h2, h3⟩ := mem_fnd.mp he
      exact .stB C h1 h3 h2
theorem pth_nx {f : Nat} (C : Chn m T H c h a b l s) {r : List Nat} (hn : nx m T H c h a b l s = e :: r) : pth m T H c a b (f + 1) (nx m T H c h a b l s) s = e :: pth m T H c a b f (nx m T H c h a b (e :: l) (!s)) (!s) := by
  rw [hn]
  cases s <;> rfl
theorem pth_ok (ab : a ≠ b) (pT : Pro m T c) (pH : Pro m H c) (fb : ∀ i < m, H i = h → c i ≠ b) : ∀ (f : Nat) (l : List Nat) (s : Bool), Chn m T H c h a b l s → m + 1 ≤ f + l.length → ∃ l' s', Chn m T H c h a b l' s' ∧ nx m T H c h a b l' s' = [] ∧ l'.reverse = l.reverse ++ pth m T H c a b f (nx m T H c h a b l s) s
  | 0, l, s, C, hf => by
    have := nodup_len (C.nodup ab pT pH fb) fun x hx => (C.col x hx).1
    omega
  | f + 1, l, s, C, hf => by
    cases q : nx m T H c h a b l s with
    | nil =>
      refine ⟨l, s, C, q, ?_⟩
      cases s <;> simp [pth]
    | cons e r =>
      have he : e ∈ nx m T H c h a b l s := by rw [q]; exact List.mem_cons_self
      obtain ⟨l', s', i1, i2, i3⟩ := pth_ok ab pT pH fb f (e :: l) (!s) (C.grow he) (by rw [List.length_cons]; omega)
      refine ⟨l', s', i1, i2, ?_⟩
      rw [← q, pth_nx C q, i3, List.reverse_cons, List.append_assoc]
      rfl
theorem Chn.closed (ab : a ≠ b) (pT : Pro m T c) (pH : Pro m H c) (fb : ∀ i < m, H i = h → c i ≠ b) (C : Chn m T H c h a b l s) : ∀ x ∈ l, ∀ y < m, (c y = a ∨ c y = b) → (T y = T x ∨ H y = H x) → y ∈ l ∨ y ∈ nx m T H c h a b l s := by
  induction C with
  | nil => exact fun x hx => by cases hx
  | fst h1 h2 h3 =>
    rename_i e
    intro x hx y hy hc hn
    rw [List.mem_singleton.mp hx] at hn
    rcases hc with hc | hc
    · have : y = e := by
        rcases hn with hn | hn
        · exact pT y e hy h1 hn (hc.trans h2.symm)
        · exact pH y e hy h1 hn (hc.trans h2.symm)
      subst this
      exact .inl List.mem_cons_self
    · rcases hn with hn | hn
      · exact .inr (mem_fnd.mpr ⟨hy, hn, hc⟩)
      · exact absurd hc (fb y hy (hn.trans h3))
  | stB C h1 h2 h3 ih =>
    rename_i l e e'
    intro x hx y hy hc hn
    have hA := C.hdA
    rcases List.mem_cons.mp hx with rfl | hx
    · rcases hn with hn | hn
      · rcases hc with hc | hc
        · have := pT y e' hy hA.2 (hn.trans h3) (hc.trans hA.1.symm)
          subst this
          exact .inl (List.mem_cons_of_mem _ List.mem_cons_self)
        · have := pT y x hy h1 hn (hc.trans h2.symm)
          subst this
          exact .inl List.mem_cons_self
      · rcases hc with hc | hc
        · exact .inr (mem_fnd.mpr ⟨hy, hn, hc⟩)
        · have := pH y x hy h1 hn (hc.trans h2.symm)
          subst this
          exact .inl List.mem_cons_self
    · rcases ih x hx y hy hc hn with z | z
      · exact .inl (List.mem_cons_of_mem _ z)
      · obtain ⟨_, z2, z3⟩ := mem_fnd.mp z
        have := pT y e hy h1 (z2.trans h3.symm) (z3.trans h2.symm)
        subst this
        exact .inl List.mem_cons_self
  | stA C h1 h2 h3 ih =>
    rename_i l e e'
    intro x hx y hy hc hn
    have hB := C.hdB
    rcases List.mem_cons.mp hx with rfl | hx
    · rcases hn with hn | hn
      · rcases hc with hc | hc
        · have := pT y x hy h1 hn (hc.trans h2.symm)
          subst this
          exact .inl List.mem_cons_self
        · exact .inr (mem_fnd.mpr ⟨hy, hn, hc⟩)
      · rcases hc with hc | hc
        · have := pH y x hy h1 hn (hc.trans h2.symm)
          subst this
          exact .inl List.mem_cons_self
        · have := pH y e' hy hB.2 (hn.trans h3) (hc.trans hB.1.symm)
          subst this
          exact .inl (List.mem_cons_of_mem _ List.mem_cons_self)
    · rcases ih x hx y hy hc hn with z | z
      · exact .inl (List.mem_cons_of_mem _ z)
      · obtain ⟨_, z2, z3⟩ := mem_fnd.mp z
        have := pH y e hy h1 (z2.trans h3.symm) (z3.trans h2.symm)
        subst this
        exact .inl List.mem_cons_self
theorem Chn.first (pH : Pro m H c) (C : Chn m T H c h a b l s) : ∀ y < m, c y = a → H y = h → y ∈ l ∨ y ∈ nx m T H c h a b l s := by
  have key : l ≠ [] → ∃ e ∈ l, e < m ∧ c e = a ∧ H e = h := by
    induction C with
    | nil => exact fun z => absurd rfl z
    | fst h1 h2 h3 => exact fun _ => ⟨_, List.mem_cons_self, h1, h2, h3⟩
    | stB C _ _ _ ih =>
      intro _
      obtain ⟨e, z1, z2⟩ := ih (by simp)
      exact ⟨e, List.mem_cons_of_mem _ z1, z2⟩
    | stA C _ _ _ ih =>
      intro _
      obtain ⟨e, z1, z2⟩ := ih (by simp)
      exact ⟨e, List.mem_cons_of_mem _ z1, z2⟩
  intro y hy hc hh
  cases l with
  | nil => exact .inr (mem_fnd.mpr ⟨hy, hh, hc⟩)
  | cons e' l =>
    obtain ⟨e, z1, z2, z3, z4⟩ := key (by simp)
    have := pH y e hy z2 (hh.trans z4.symm) (hc.trans z3.symm)
    subst this
    exact .inl z1
theorem Chn.tails (ab : a ≠ b) (fa : ∀ i < m, T i = t → c i ≠ a) (C : Chn m T H c h a b l s) : ∀ x ∈ l, T x ≠ t := fun x hx z => by
  obtain ⟨x1, x2⟩ := C.col x hx
  rcases x2 with x2 | x2
  · exact fa x x1 z x2
  · obtain ⟨y, y1, y2, y3⟩ := (C.pred ab x hx).1 x2
    exact fa y (C.col y y1).1 (y3.trans z) y2
def sw (a b x : Int) : Int := if x = a then b else a
def swp (p : List Nat) (a b : Int) (c : Nat → Int) (i : Nat) : Int := if i ∈ p then sw a b (c i) else c i
structure Pa (m : Nat) (T H : Nat → β) (c : Nat → Int) (h t : β) (a b : Int) (p : List Nat) : Prop where
  col : ∀ x ∈ p, x < m ∧ (c x = a ∨ c x = b)
  cl : ∀ x ∈ p, ∀ y < m, (c y = a ∨ c y = b) → (T y = T x ∨ H y = H x) → y ∈ p
  fst : ∀ y < m, c y = a → H y = h → y ∈ p
  tl : ∀ x ∈ p, T x ≠ t
  nd : p.Nodup
theorem pth_pa (ab : a ≠ b) (pT : Pro m T c) (pH : Pro m H c) (fb : ∀ i < m, H i = h → c i ≠ b) (fa : ∀ i < m, T i = t → c i ≠ a) {f : Nat} (hf : m < f) : Pa m T H c h t a b (pth m T H c a b f (fnd m H c h a) true) := by
  obtain ⟨l, s, C, hn, e⟩ := pth_ok ab pT pH fb f [] true (.nil (T := T) (H := H) (c := c) (h := h) (a := a) (b := b) (m := m)) (by rw [List.length_nil]; omega)
  rw [List.reverse_nil, List.nil_append] at e
  have e : l.reverse = pth m T H c a b f (fnd m H c h a) true := e
  rw [← e]
  refine ⟨fun x hx => C.col x (List.mem_reverse.mp hx), fun x hx y hy hc hh => ?_, fun y hy hc hh => ?_, fun x hx => C.tails ab fa x (List.mem_reverse.mp hx), (List.reverse_perm l).symm.nodup (C.nodup ab pT pH fb)⟩
  · rcases C.closed ab pT pH fb x (List.mem_reverse.mp hx) y hy hc hh with z | z
    · exact List.mem_reverse.mpr z
    · rw [hn] at z
      cases z
  · rcases C.first pH y hy hc hh with z | z
    · exact List.mem_reverse.mpr z
    · rw [hn] at z
      cases z
theorem sw_inj {x y : Int} (hx : x = a ∨ x = b) (hy : y = a ∨ y = b) (e : sw a b x = sw a b y) : x = y := by
  unfold sw at e
  rcases hx with rfl | rfl <;> rcases hy with rfl | rfl
  · rfl
  · by_cases q : y = x
    · exact q.symm
    · rw [if_pos rfl, if_neg q] at e; exact e.symm
  · by_cases q : x = y
    · exact q
    · rw [if_neg q, if_pos rfl] at e; exact e.symm
  · rfl
theorem sw_ab {x : Int} : sw a b x = a ∨ sw a b x = b := by
  unfold sw
  split
  · exact .inr rfl
  · exact .inl rfl
theorem Pa.pro {X : Nat → β} (P : Pa m T H c h t a b p) (hX : ∀ x y, X y = X x → T y = T x ∨ H y = H x) (pX : Pro m X c) : Pro m X (swp p a b c) := fun i j hi hj e ec => by
  unfold swp at ec
  by_cases q : i ∈ p <;> by_cases w : j ∈ p
  · rw [if_pos q, if_pos w] at ec
    exact pX i j hi hj e (sw_inj (P.col i q).2 (P.col j w).2 ec)
  · rw [if_pos q, if_neg w] at ec
    exact absurd (P.cl i q j hj (ec ▸ sw_ab) (hX i j e.symm)) w
  · rw [if_neg q, if_pos w] at ec
    exact absurd (P.cl j w i hi (ec.symm ▸ sw_ab) (hX j i e)) q
  · rw [if_neg q, if_neg w] at ec
    exact pX i j hi hj e ec
theorem Pa.freeT (P : Pa m T H c h t a b p) (fa : ∀ i < m, T i = t → c i ≠ a) : ∀ i < m, T i = t → swp p a b c i ≠ a := fun i hi e => by
  unfold swp
  rw [if_neg fun q => P.tl i q e]
  exact fa i hi e
theorem Pa.freeH (ab : a ≠ b) (P : Pa m T H c h t a b p) (fb : ∀ i < m, H i = h → c i ≠ b) : ∀ i < m, H i = h → swp p a b c i ≠ a := fun i hi e z => by
  unfold swp at z
  by_cases q : i ∈ p
  · rw [if_pos q] at z
    unfold sw at z
    rcases (P.col i q).2 with w | w
    · rw [if_pos w] at z
      exact ab z.symm
    · exact fb i hi e w
  · rw [if_neg q] at z
    exact q (P.fst i hi z e)
end
end VI.Ec
end
section
namespace VI.Ec
open PySem PySem.Spec PyProof.Rows L2 VI VI.Std
section
variable {β : Type} [DecidableEq β] {Ts Hs X : List β} {c u : List Int} {h t v : β} {a b k : Int}
theorem nd_le : ∀ {l u : List Int}, l.Nodup → (∀ x ∈ l, x ∈ u) → l.length ≤ u.length
  | [], u, _, _ => Nat.zero_le _
  | x :: l, u, nd, hs => by
    obtain ⟨n1, n2⟩ := List.nodup_cons.mp nd
    have hx := hs x List.mem_cons_self
    have := nd_le (l := l) (u := u.erase x) n2 fun y hy => (List.mem_erase_of_ne fun z => n1 (by rw [← z]; exact hy)).mpr (hs y (List.mem_cons_of_mem _ hy))
    rw [List.length_erase_of_mem hx] at this
    have : 0 < u.length := List.length_pos_of_mem hx
    rw [List.length_cons]
    omega
theorem rng_le {k : Nat} (h : ∀ j < k, (j : Int) ∈ u) : k ≤ u.length := by
  have := nd_le (l := (List.range k).map fun (i : Nat) => (i : Int)) (u := u) (rng_nodup k) fun x hx => by
    obtain ⟨j, hj, rfl⟩ := List.mem_map.mp hx
    exact h j (List.mem_range.mp hj)
  simpa using this
def mexA : Nat → Nat → List Int → Nat
  | 0, k, _ => k
  | f + 1, k, u => if (k : Int) ∈ u then mexA f (k + 1) u else k
theorem mexA_ok : ∀ (f k : Nat), (∀ j < k, (j : Int) ∈ u) → u.length < f + k → (mexA f k u : Int) ∉ u ∧ ∀ j < mexA f k u, (j : Int) ∈ u
  | 0, k, h, hl => by have := rng_le h; omega
  | f + 1, k, h, hl => by
    unfold mexA
    by_cases q : (k : Int) ∈ u
    · rw [if_pos q]
      exact mexA_ok f (k + 1) (fun j hj => by
        by_cases w : j = k
        · subst w; exact q
        · exact h j (by omega)) (by omega)
    · rw [if_neg q]
      exact ⟨q, h⟩
def mex (u : List Int) : Nat := mexA (u.length + 1) 0 u
theorem mex_ok : (mex u : Int) ∉ u ∧ mex u ≤ u.length := by
  have := mexA_ok (u := u) (u.length + 1) 0 (fun j hj => absurd hj (by omega)) (by omega)
  exact ⟨this.1, rng_le this.2⟩
def usd (c : List Int) (X : List β) (v : β) : List Int := ((c.zip X).filter fun z => decide (z.2 = v)).map (·.1)
def nc (c : List Int) (i : Nat) : Int := c.getD i 0
theorem usd_cons {x : Int} {y : β} : usd (x :: c) (y :: X) v = if y = v then x :: usd c X v else usd c X v := by
  unfold usd
  rw [List.zip_cons_cons, List.filter_cons]
  by_cases q : y = v <;> simp [q]
theorem usd_mem : ∀ (c : List Int) (X : List β) (i : Nat), i < c.length → X[i]? = some v → nc c i ∈ usd c X v
  | [], X, i, hi, _ => by simp at hi
  | x :: c, [], i, _, e => by simp at e
  | x :: c, y :: X, 0, _, e => by
    rw [usd_cons, if_pos (by simpa using e)]
    exact List.mem_cons_self
  | x :: c, y :: X, i + 1, hi, e => by
    have := usd_mem c X i (by simpa using hi) (by simpa using e)
    rw [usd_cons]
    have e2 : nc (x :: c) (i + 1) = nc c i := by unfold nc; simp
    rw [e2]
    split
    · exact List.mem_cons_of_mem _ this
    · exact this
theorem usd_len : ∀ (c : List Int) (X : List β), X[c.length]? = some v → (usd c X v).length < X.count v
  | [], [], e => by simp at e
  | [], y :: X, e => by
    have : y = v := by simpa using e
    subst this
    have : usd [] (y :: X) y = [] := rfl
    rw [this, List.count_cons_self]
    exact Nat.succ_pos _
  | x :: c, [], e => by simp at e
  | x :: c, y :: X, e => by
    have ih := usd_len c X (by simpa using e)
    rw [usd_cons, List.count_cons]
    by_cases q : y = v
    · rw [if_pos q, if_pos (by simpa using q), List.length_cons]
      omega
    · rw [if_neg q, if_neg (by simpa using q)]
      omega
def ndX (X : List β) : Nat → Option β := fun i => X[i]?
def path (Ts Hs : List β) (c : List Int) (h : β) (a b : Int) : List Nat := pth c.length (ndX Ts) (ndX Hs) (nc c) a b (c.length + 1) (fnd c.length (ndX Hs) (nc c) (some h) a) true
def swl (p : List Nat) (a b : Int) (c : List Int) : List Int := (List.range c.length).map (swp p a b (nc c))
def mid (Ts Hs : List β) (c : List Int) (h : β) (a b : Int) : List Int := if a = b then c else swl (path Ts Hs c h a b) a b c
def ext (Ts Hs : List β) (c : List Int) (t h : β) : List Int := mid Ts Hs c h (mex (usd c Ts t)) (mex (usd c Hs h)) ++ [(mex (usd c Ts t) : Int)]
theorem mid_len : (mid Ts Hs c h a b).length = c.length := by
  unfold mid swl
  split <;> simp
theorem ext_len : (ext Ts Hs c t h).length = c.length + 1 := by unfold ext; rw [List.length_append, mid_len]; rfl
theorem nc_swl {p : List Nat} {i : Nat} (hi : i < c.length) : nc (swl p a b c) i = swp p a b (nc c) i := by
  unfold swl
  show (List.map _ _).getD i 0 = _
  rw [List.getD_eq_getElem?_getD, List.getElem?_map, List.getElem?_range hi]
  rfl
theorem nc_app {x : Int} {i : Nat} (hi : i < c.length) : nc (c ++ [x]) i = nc c i := by
  unfold nc
  rw [List.getD_eq_getElem?_getD, List.getElem?_append_left hi, List.getD_eq_getElem?_getD]
theorem nc_last {x : Int} : nc (c ++ [x]) c.length = x := by
  unfold nc
  rw [List.getD_eq_getElem?_getD]
  simp
theorem nc_mem {i : Nat} (hi : i < c.length) : nc c i ∈ c := by
  unfold nc
  rw [List.getD_eq_getElem?_getD, List.getElem?_eq_getElem hi]
  exact List.getElem_mem hi
theorem Pro.congr {m : Nat} {γ : Type} {Y : Nat → γ} {f g : Nat → Int} (e : ∀ i < m, f i = g i) (p : Pro m Y f) : Pro m Y g := fun i j hi hj a b => p i j hi hj a (by rw [e i hi, e j hj]; exact b)
theorem Pro.more {m : Nat} {γ : Type} {Y : Nat → γ} {f : Nat → Int} (p : Pro m Y f) (fr : ∀ i < m, Y i = Y m → f i ≠ f m) : Pro (m + 1) Y f := fun i j hi hj e ec => by
  by_cases q : i = m <;> by_cases w : j = m
  · rw [q, w]
  · subst q
    exact absurd ec.symm (fr j (by omega) e.symm)
  · subst w
    exact absurd ec (fr i (by omega) e)
  · exact p i j (by omega) (by omega) e ec
structure Good (Ts Hs : List β) (Δ : Nat) (c : List Int) : Prop where
  pT : Pro c.length (ndX Ts) (nc c)
  pH : Pro c.length (ndX Hs) (nc c)
  lo : ∀ x ∈ c, 0 ≤ x ∧ x < Δ
theorem path_pa (pT : Pro c.length (ndX Ts) (nc c)) (pH : Pro c.length (ndX Hs) (nc c)) (ab : a ≠ b) (fa : a ∉ usd c Ts t) (fb : b ∉ usd c Hs h) : Pa c.length (ndX Ts) (ndX Hs) (nc c) (some h) (some t) a b (path Ts Hs c h a b) :=
  pth_pa ab pT pH (fun i hi e z => fb (by rw [← z]; exact usd_mem c Hs i hi e)) (fun i hi e z => fa (by rw [← z]; exact usd_mem c Ts i hi e)) (Nat.lt_succ_self _)
theorem ext_ok {Δ : Nat} (G : Good Ts Hs Δ c) (hT : ∀ v, Ts.count v ≤ Δ) (hH : ∀ v, Hs.count v ≤ Δ) (et : Ts[c.length]? = some t) (eh : Hs[c.length]? = some h) : Good Ts Hs Δ (ext Ts Hs c t h) := by
  obtain ⟨a1, a2⟩ := mex_ok (u := usd c Ts t)
  obtain ⟨b1, b2⟩ := mex_ok (u := usd c Hs h)
  have al := usd_len c Ts et
  have bl := usd_len c Hs eh
  have aΔ := hT t
  have bΔ := hH h
  unfold ext
  generalize hm : mid Ts Hs c h (mex (usd c Ts t)) (mex (usd c Hs h)) = d
  have dl : d.length = c.length := by rw [← hm]; exact mid_len
  generalize ha : mex (usd c Ts t) = a at *
  generalize hb : mex (usd c Hs h) = b at *
  have key : Pro c.length (ndX Ts) (nc d) ∧ Pro c.length (ndX Hs) (nc d) ∧ (∀ i < c.length, ndX Ts i = some t → nc d i ≠ a) ∧ (∀ i < c.length, ndX Hs i = some h → nc d i ≠ a) ∧ ∀ x ∈ d, 0 ≤ x ∧ x < Δ := by
    unfold mid at hm
    by_cases q : (a : Int) = b
    · rw [if_pos q] at hm
      subst hm
      exact ⟨G.pT, G.pH, fun i hi e z => a1 (by rw [← z]; exact usd_mem c Ts i hi e), fun i hi e z => b1 (by rw [← q, ← z]; exact usd_mem c Hs i hi e), G.lo⟩
    · rw [if_neg q] at hm
      have P := path_pa G.pT G.pH q a1 b1
      have fa : ∀ i < c.length, ndX Ts i = some t → nc c i ≠ a := fun i hi e z => a1 (by rw [← z]; exact usd_mem c Ts i hi e)
      have fb : ∀ i < c.length, ndX Hs i = some h → nc c i ≠ b := fun i hi e z => b1 (by rw [← z]; exact usd_mem c Hs i hi e)
      have e1 : ∀ i < c.length, swp (path Ts Hs c h a b) a b (nc c) i = nc d i := fun i hi => by rw [← hm, nc_swl hi]
      refine ⟨(P.pro (fun x y e => .inl e) G.pT).congr e1, (P.pro (fun x y e => .inr e) G.pH).congr e1, fun i hi e => ?_, fun i hi e => ?_, fun x hx => ?_⟩
      · rw [← e1 i hi]
        exact P.freeT fa i hi e
      · rw [← e1 i hi]
        exact P.freeH q fb i hi e
      · rw [← hm] at hx
        unfold swl at hx
        obtain ⟨i, hi, rfl⟩ := List.mem_map.mp hx
        unfold swp
        split
        · rcases sw_ab (a := (a : Int)) (b := b) (x := nc c i) with z | z <;> rw [z] <;> omega
        · exact G.lo _ (nc_mem (List.mem_range.mp hi))
  obtain ⟨k1, k2, k3, k4, k5⟩ := key
  have la : (d ++ [(a : Int)]).length = c.length + 1 := by rw [List.length_append, dl]; rfl
  have n1 : ∀ i < c.length, nc d i = nc (d ++ [(a : Int)]) i := fun i hi => (nc_app (by omega)).symm
  have n2 : nc (d ++ [(a : Int)]) c.length = a := by rw [← dl]; exact nc_last
  refine ⟨?_, ?_, fun x hx => ?_⟩
  · rw [la]
    refine (k1.congr n1).more fun i hi e => ?_
    rw [← n1 i hi, n2]
    exact k3 i hi (e.trans et)
  · rw [la]
    refine (k2.congr n1).more fun i hi e => ?_
    rw [← n1 i hi, n2]
    exact k4 i hi (e.trans eh)
  · rcases List.mem_append.mp hx with z | z
    · exact k5 x z
    · rw [List.mem_singleton.mp z]
      omega
def colF (Ts Hs : List β) (l : List (β × β)) (c : List Int) : List Int := l.foldl (fun c z => ext Ts Hs c z.1 z.2) c
def colr (Ts Hs : List β) : List Int := colF Ts Hs (Ts.zip Hs) []
theorem colF_ok {Δ : Nat} (hT : ∀ v, Ts.count v ≤ Δ) (hH : ∀ v, Hs.count v ≤ Δ) : ∀ (l : List (β × β)) (c : List Int), (Ts.zip Hs).drop c.length = l → Good Ts Hs Δ c → Good Ts Hs Δ (colF Ts Hs l c) ∧ (colF Ts Hs l c).length = c.length + l.length
  | [], c, _, G => ⟨G, rfl⟩
  | z :: l, c, e, G => by
    have hk : c.length < (Ts.zip Hs).length := by
      have := congrArg List.length e
      rw [List.length_drop, List.length_cons] at this
      omega
    have ez : (Ts.zip Hs)[c.length] = z := by
      rw [List.drop_eq_getElem_cons hk] at e
      exact (List.cons.inj e).1
    have e2 : (Ts.zip Hs).drop (c.length + 1) = l := by
      rw [List.drop_eq_getElem_cons hk] at e
      exact (List.cons.inj e).2
    have hk2 := hk
    rw [List.length_zip] at hk2
    rw [List.getElem_zip] at ez
    have et : Ts[c.length]? = some z.1 := by rw [List.getElem?_eq_getElem (by omega), ← ez]
    have eh : Hs[c.length]? = some z.2 := by rw [List.getElem?_eq_getElem (by omega), ← ez]
    have G2 := ext_ok G hT hH et eh
    obtain ⟨i1, i2⟩ := colF_ok hT hH l (ext Ts Hs c z.1 z.2) (by rw [ext_len]; exact e2) G2
    refine ⟨i1, ?_⟩
    show (colF Ts Hs l (ext Ts Hs c z.1 z.2)).length = _
    rw [i2, ext_len, List.length_cons]
    omega
theorem good_nil {Δ : Nat} : Good Ts Hs Δ [] := ⟨fun i j hi => absurd hi (by simp), fun i j hi => absurd hi (by simp), fun x hx => by cases hx⟩
theorem colr_ok {Δ : Nat} (hT : ∀ v, Ts.count v ≤ Δ) (hH : ∀ v, Hs.count v ≤ Δ) : Good Ts Hs Δ (colr Ts Hs) ∧ (colr Ts Hs).length = (Ts.zip Hs).length := by
  have := colF_ok (Ts := Ts) (Hs := Hs) hT hH (Ts.zip Hs) [] rfl good_nil
  refine ⟨this.1, ?_⟩
  have := this.2
  rw [List.length_nil, Nat.zero_add] at this
  exact this
end
end VI.Ec
end
section
namespace VI.Ec
open PySem PySem.Spec PyProof.Rows L2 VI VI.Std
open VI.Fl (Chv)
section
variable {β : Type} [DecidableEq β] {K : PySem.W.Frag} {ct : Ct} {g h : Bs} {ρ : Ev} {Ts Hs X : List β} {c u : List Int} {hd t v : β} {a b k : Int} {p l : List Nat} {E : β → D}
structure Emb (E : β → D) : Prop where
  eq : ∀ (a b : β) (neg : Bool) (h : Bs), eqD neg (E a) (E b) h = .ok (.bl (if neg then !decide (a = b) else decide (a = b))) h
  nr : ∀ a, noR (E a) = true
abbrev lB (E : β → D) (X : List β) : D := .lst (X.map E)
theorem seq_chv {d : D} {xs : List D} (C : Chv h d xs) : seqOf h d = some xs := by
  rcases C with rfl | ⟨b, rfl, hb⟩
  · rfl
  · exact Q.seq_at hb
theorem ix_chv {d x : D} {xs : List D} {i : Nat} (C : Chv h d xs) (e : xs[i]? = some x) : ixD d (.int i) h = .ok x h := by
  show (match seqOf h d with | some xs => (match atI xs (i : Int) with | some x => R.ok x h | none => .no) | none => .no) = _
  rw [seq_chv C]
  simp only [Fl.atI_get e]
end
end VI.Ec
end
section
namespace VI.Ec
open PySem PySem.Spec PyProof.Rows L2 VI VI.Std
open VI.Fl (Chv)
section
variable {γ : Type} [DecidableEq γ] {m : Nat} {T H : Nat → γ} {f : Nat → Int} {h0 t0 : γ} {a b : Int} {l : List Nat} {s : Bool}
def lst (m : Nat) (T H : Nat → γ) (f : Nat → Int) (a b : Int) : Nat → List Nat → Bool → List Nat
  | 0, l, _ => l
  | _ + 1, [], _ => []
  | n + 1, e :: _, true => lst m T H f a b n (fnd m T f (T e) b) false
  | n + 1, e :: _, false => lst m T H f a b n (fnd m H f (H e) a) true
end
section
variable {β : Type} [DecidableEq β] {K : PySem.W.Frag} {ct : Ct} {g h hh : Bs} {ρ : Ev} {Ts Hs X : List β} {c u : List Int} {hd t v : β} {a b k : Int} {p l : List Nat} {E : β → D}
theorem ite_t {sc sa sb : SV} {r : VI.R D} (e : sc ρ h = .ok (.bl true) h) (e2 : sa ρ h = r) : sIte sc sa sb ρ h = r := by
  unfold sIte sTru
  rw [e, bind_ok]
  exact e2
theorem ite_f {sc sa sb : SV} {r : VI.R D} (e : sc ρ h = .ok (.bl false) h) (e2 : sb ρ h = r) : sIte sc sa sb ρ h = r := by
  unfold sIte sTru
  rw [e, bind_ok]
  exact e2
def stp (c : List Int) (a b : Int) (w : List Int) (i : Nat) : List Int := w.set i (sw a b (nc c i))
def hL (g : Bs) (xs ys : List D) : Bs := ⟨g.fbs, g.bs ++ [.lst true xs, .lst false ys]⟩
end
end VI.Ec
end
section
namespace VI.Ec
open PySem PySem.Spec PyProof.Rows L2 VI VI.Std
open VI.Fl (Chv)
section
variable {β : Type} [DecidableEq β] {K : PySem.W.Frag} {ct : Ct} {g h hh : Bs} {ρ : Ev} {Ts Hs X : List β} {c u : List Int} {hd t v : β} {a b k : Int} {p l : List Nat} {E : β → D}
def evc (E : β → D) (Ts Hs : List β) (r : Nat) (x3 x4 x5 x6 x7 : Option D) : Ev := [some (lB E Ts), some (lB E Hs), some (.ref r), x3, x4, x5, x6, x7, none, none]
end
end VI.Ec
end
section
namespace VI.Ec
open PySem PySem.Spec PyProof.Rows L2 VI VI.Std VI.Fl
open VI.Lay (itD rgI lenTI)
section
variable {n L : Nat} {E : List Im} {C D : List (List Int)} {V S : List Int}
structure One (n : Nat) (E : List Im) : Prop where
  nd : ∀ i ∈ E, i.1.Nodup
  rg : ∀ i ∈ E, ∀ x ∈ i.1, 0 ≤ x ∧ x < n
  one : ∀ i ∈ E, i.2 = 1
  ne : ∀ i ∈ E, i.1 ≠ []
structure Chs (E : List Im) (S : List Int) : Prop where
  len : S.length = E.length
  mem : ∀ k < E.length, S.getD k 0 ∈ (E.getD k d0).1
abbrev fl (E : List Im) (L : Nat) : List (List Int) := G.fill E (fun _ => (L : Int))
def cs (E : List Im) (L : Nat) : List (List Int) := if L = 0 then E.map fun _ => [] else fl E L
noncomputable def limA (E : List Im) : Nat → Nat → Nat
  | 0, L => L
  | f + 1, L => if [] ∈ cs E L then limA E f (L + 1) else L
noncomputable def lim (E : List Im) : Nat := limA E E.length 0
end
end VI.Ec
end
section
namespace VI.Ec
open PySem PySem.Spec PyProof.Rows L2 VI VI.Std VI.Fl
open VI.Lay (itD rgI lenTI lT)
section
variable {K : PySem.W.Frag} {ct : Ct} {h : Bs} {n L : Nat} {E : List Im} {C : List (List Int)} {V S : List Int} {o : D}
end
end VI.Ec
end
section
namespace VI.Ec
open PySem PySem.Spec PyProof.Rows L2 VI VI.Std VI.Fl
open VI.Lay (itD rgI lenTI lT)
section
variable {K : PySem.W.Frag} {ct : Ct} {h : Bs} {ρ : Ev} {A C : List (List Int)} {X : List Int}
abbrev P2 := Int × Int
structure Q4 where
  i : Int
  s : Int
  t : Int
  r : Int
deriving DecidableEq
def pl (p : P2) : List Int := [p.1, p.2]
abbrev prD (p : P2) : D := .tup [.int p.1, .int p.2]
abbrev lP (P : List P2) : D := .lst (P.map prD)
theorem lP_T {P : List P2} : lP P = lT (P.map pl) := by
  show D.lst (P.map prD) = .lst ((P.map pl).map fun X => tI X)
  rw [List.map_map]
  rfl
theorem map_inj {α γ : Type} {f : α → γ} (hf : ∀ a b, f a = f b → a = b) : ∀ {P Q : List α}, P.map f = Q.map f ↔ P = Q := fun {P Q} => by
  constructor
  · intro e
    induction P generalizing Q with
    | nil =>
      cases Q with
      | nil => rfl
      | cons q Q => cases e
    | cons p P ih =>
      cases Q with
      | nil => cases e
      | cons q Q =>
        rw [List.map_cons, List.map_cons] at e
        obtain ⟨e1, e2⟩ := List.cons.inj e
        rw [ih e2, hf p q e1]
  · rintro rfl
    rfl
theorem pl_one (a b : P2) (e : pl a = pl b) : a = b := Prod.ext (List.cons.inj e).1 (List.cons.inj (List.cons.inj e).2).1
theorem eq_lP {P Q : List P2} {neg : Bool} : eqD neg (lP P) (lP Q) h = .ok (.bl (if neg then !decide (P = Q) else decide (P = Q))) h := by
  rw [lP_T, lP_T, eq_lTn]
  simp only [map_inj pl_one]
theorem noDs_P : ∀ P : List P2, noDs (P.map prD) = true
  | [] => rfl
  | p :: P => by rw [List.map_cons, noDs, noDs_P P]; rfl
end
end VI.Ec
end
section
namespace VI.Ec
open PySem PySem.Spec PyProof.Rows L2 VI VI.Std VI.Fl
open VI.Lay (itD rgI lenTI lT)
section
variable {h : Bs} {P Xs : List (List Int)} {X Y : List Int}
abbrev eL (X : List Int) : Kd := (lI X, PyData.list (X.map .int))
theorem insK_eL (X : List Int) : ∀ Ys, ∃ Zs : List (List Int), insK (eL X) (Ys.map eL) = Zs.map eL ∧ Zs.Perm (X :: Ys)
  | [] => ⟨[X], rfl, .refl _⟩
  | Y :: Ys => by
    obtain ⟨Zs, e, p⟩ := insK_eL X Ys
    rw [List.map_cons]
    by_cases q : W.dataLt (eL Y).2 (eL X).2 = true
    · refine ⟨Y :: Zs, ?_, (p.cons Y).trans (.swap X Y Ys)⟩
      rw [insK, if_pos q, e]
      rfl
    · refine ⟨X :: Y :: Ys, ?_, .refl _⟩
      rw [insK, if_neg q]
      rfl
theorem srtK_eL : ∀ Xs : List (List Int), ∃ Zs : List (List Int), srtK (Xs.map eL) = Zs.map eL ∧ Zs.Perm Xs
  | [] => ⟨[], rfl, .refl _⟩
  | X :: Xs => by
    obtain ⟨Ys, e, p⟩ := srtK_eL Xs
    obtain ⟨Zs, e2, p2⟩ := insK_eL X Ys
    exact ⟨Zs, by rw [List.map_cons, srtK, e, e2], p2.trans (p.cons X)⟩
theorem toks_eL (e : W.keyToks (eL X).2 = W.keyToks (eL Y).2) : X = Y := by
  simp only [eL, W.keyToks] at e
  exact Lay.toks_ints X Y e
noncomputable def srtL (Xs : List (List Int)) : List (List Int) := (srtK_eL Xs).choose
theorem srtL_eq (Xs : List (List Int)) : srtK (Xs.map eL) = (srtL Xs).map eL := (srtK_eL Xs).choose_spec.1
theorem srtL_perm (Xs : List (List Int)) : (srtL Xs).Perm Xs := (srtK_eL Xs).choose_spec.2
def leL (X Y : List Int) : Prop := leK (eL X) (eL Y) = true
theorem srtL_so (Xs : List (List Int)) : (srtL Xs).Pairwise leL := by
  have : ((srtL Xs).map eL).Pairwise (fun a b => leK a b = true) := by rw [← srtL_eq]; exact srtK_sorted _
  rwa [List.pairwise_map] at this
theorem leL_anti (h1 : leL X Y) (h2 : leL Y X) : X = Y := toks_eL (leK_anti h1 h2)
def ddp (L : List (List Int)) : List (List Int) := (L.zipIdx.filter fun p => decide ((p.2 : Int) = 0) || !decide (L.getD (p.2 - 1) [] = p.1)).map (·.1)
theorem first_L : ∀ L : List (List Int), X ∈ L → ∃ (i : Nat) (hi : i < L.length), L[i] = X ∧ ∀ j (hj : j < i), L[j]'(by omega) ≠ X
  | [], h => by cases h
  | Y :: L, h => by
    by_cases q : Y = X
    · exact ⟨0, by simp, q, fun j hj => absurd hj (by omega)⟩
    · have hx : X ∈ L := by
        rcases List.mem_cons.mp h with z | z
        · exact absurd z.symm q
        · exact z
      obtain ⟨i, hi, e1, e2⟩ := first_L L hx
      refine ⟨i + 1, by simpa using hi, by simpa using e1, fun j hj => ?_⟩
      cases j with
      | zero => exact q
      | succ j => exact e2 j (by omega)
theorem mem_ddp {L : List (List Int)} : X ∈ ddp L ↔ X ∈ L := by
  unfold ddp
  rw [List.mem_map]
  constructor
  · rintro ⟨p, hp, rfl⟩
    obtain ⟨_, h2, h3⟩ := List.mem_zipIdx (List.mem_filter.mp hp).1
    rw [h3]
    exact List.getElem_mem _
  · intro hx
    obtain ⟨i, hi, e1, e2⟩ := first_L L hx
    refine ⟨(X, i), List.mem_filter.mpr ⟨?_, ?_⟩, rfl⟩
    · rw [List.mem_iff_getElem?]
      exact ⟨i, by rw [List.getElem?_zipIdx, List.getElem?_eq_getElem hi, e1]; simp⟩
    · rw [Bool.or_eq_true]
      by_cases q : i = 0
      · exact .inl (decide_eq_true (by show (i : Int) = 0; omega))
      · right
        have := e2 (i - 1) (by omega)
        have e : L.getD (i - 1) [] = L[i - 1]'(by omega) := by
          rw [List.getD_eq_getElem?_getD, List.getElem?_eq_getElem (by omega)]
          rfl
        show (!decide (L.getD (i - 1) [] = X)) = true
        rw [e, decide_eq_false this]
        rfl
theorem ddp_nd {L : List (List Int)} (so : L.Pairwise leL) : (ddp L).Nodup := by
  unfold ddp List.Nodup
  rw [List.pairwise_map]
  have pz : L.zipIdx.Pairwise fun p q => p.2 < q.2 := by
    refine List.pairwise_iff_getElem.mpr fun i j hi hj hij => ?_
    rw [List.getElem_zipIdx, List.getElem_zipIdx]
    show 0 + i < 0 + j
    omega
  refine (pz.filter _).imp_of_mem fun {p q} hp hq lt e => ?_
  obtain ⟨hp1, hp2⟩ := List.mem_filter.mp hp
  obtain ⟨hq1, hq2⟩ := List.mem_filter.mp hq
  obtain ⟨_, p2, p3⟩ := List.mem_zipIdx hp1
  obtain ⟨_, q2, q3⟩ := List.mem_zipIdx hq1
  rw [Nat.zero_add] at p2 q2
  have q0 : ¬ (q.2 : Int) = 0 := by omega
  rw [decide_eq_false q0, Bool.false_or] at hq2
  have eg : L.getD (q.2 - 1) [] = L[q.2 - 1]'(by omega) := by
    rw [List.getD_eq_getElem?_getD, List.getElem?_eq_getElem (by omega)]
    rfl
  rw [eg] at hq2
  have ne : L[q.2 - 1]'(by omega) ≠ q.1 := by simpa using hq2
  have pe : p.1 = L[p.2]'(by omega) := by rw [p3]; simp
  have qe : q.1 = L[q.2]'(by omega) := by rw [q3]; simp
  have le : ∀ i j (hi : i < L.length) (hj : j < L.length), i ≤ j → leL L[i] L[j] ∨ L[i] = L[j] := fun i j hi hj hij => by
    by_cases z : i = j
    · subst z; exact .inr rfl
    · exact .inl (List.pairwise_iff_getElem.mp so i j hi hj (by omega))
  rcases le (q.2 - 1) q.2 (by omega) (by omega) (by omega) with a | a
  · rcases le p.2 (q.2 - 1) (by omega) (by omega) (by omega) with b | b
    · rw [← pe, e, qe] at b
      exact ne ((leL_anti a b).trans qe.symm)
    · exact ne (b.symm.trans (pe.symm.trans e))
  · exact ne (a.trans qe.symm)
theorem nd_leG {α : Type} [DecidableEq α] : ∀ {l u : List α}, l.Nodup → (∀ x ∈ l, x ∈ u) → l.length ≤ u.length
  | [], u, _, _ => Nat.zero_le _
  | x :: l, u, nd, hs => by
    obtain ⟨n1, n2⟩ := List.nodup_cons.mp nd
    have hx := hs x List.mem_cons_self
    have := nd_leG (l := l) (u := u.erase x) n2 fun y hy => (List.mem_erase_of_ne fun z => n1 (by rw [← z]; exact hy)).mpr (hs y (List.mem_cons_of_mem _ hy))
    rw [List.length_erase_of_mem hx] at this
    have : 0 < u.length := List.length_pos_of_mem hx
    rw [List.length_cons]
    omega
def vecs (k : Nat) : Nat → List (List Nat)
  | 0 => [[]]
  | n + 1 => (vecs k n).flatMap fun v => (List.range (k + 1)).map fun c => c :: v
theorem vecs_len (k : Nat) : ∀ n, (vecs k n).length = (k + 1) ^ n
  | 0 => rfl
  | n + 1 => by
    have : ∀ l : List (List Nat), (l.flatMap fun v => (List.range (k + 1)).map fun c => c :: v).length = l.length * (k + 1) := fun l => by
      induction l with
      | nil => simp
      | cons v l ih =>
        rw [List.flatMap_cons, List.length_append, ih, List.length_map, List.length_range, List.length_cons, Nat.succ_mul]
        omega
    unfold vecs
    rw [this, vecs_len k n, Nat.pow_succ]
theorem mem_vecs (k : Nat) : ∀ (n : Nat) (v : List Nat), v.length = n → (∀ c ∈ v, c ≤ k) → v ∈ vecs k n
  | 0, v, hl, _ => by
    rw [List.length_eq_zero_iff.mp hl]
    exact List.mem_cons_self
  | n + 1, [], hl, _ => by simp at hl
  | n + 1, c :: v, hl, hc => by
    unfold vecs
    exact List.mem_flatMap.mpr ⟨v, mem_vecs k n v (by simpa using hl) fun d hd => hc d (List.mem_cons_of_mem _ hd), List.mem_map.mpr ⟨c, List.mem_range.mpr (by have := hc c List.mem_cons_self; omega), rfl⟩⟩
def cvec (n : Nat) (X : List Int) : List Nat := (List.range n).map fun (i : Nat) => X.count (i : Int)
theorem sort_uni (hp : X.Perm Y) (hx : X.Pairwise (· ≤ ·)) (hy : Y.Pairwise (· ≤ ·)) : X = Y := List.Perm.eq_of_pairwise (le := (· ≤ ·)) (fun a b _ _ h1 h2 => Int.le_antisymm h1 h2) hx hy hp
theorem cvec_inj {n : Nat} (hx : X.Pairwise (· ≤ ·)) (hy : Y.Pairwise (· ≤ ·)) (rx : ∀ x ∈ X, 0 ≤ x ∧ x < (n : Int)) (ry : ∀ x ∈ Y, 0 ≤ x ∧ x < (n : Int)) (e : cvec n X = cvec n Y) : X = Y := by
  refine sort_uni (List.perm_iff_count.mpr fun a => ?_) hx hy
  by_cases q : 0 ≤ a ∧ a < (n : Int)
  · have hk : a.toNat < n := by omega
    have := congrArg (fun l => l[a.toNat]?) e
    unfold cvec at this
    simp only [List.getElem?_map, List.getElem?_range hk, Option.map_some, Option.some.injEq] at this
    rwa [show ((a.toNat : Nat) : Int) = a by omega] at this
  · rw [List.count_eq_zero.mpr fun z => q (rx a z), List.count_eq_zero.mpr fun z => q (ry a z)]
theorem sorted_few {n k : Nat} (nd : Xs.Nodup) (h : ∀ X ∈ Xs, X.Pairwise (· ≤ ·) ∧ X.length = k ∧ ∀ x ∈ X, 0 ≤ x ∧ x < (n : Int)) : Xs.length ≤ (k + 1) ^ n := by
  have nd2 : (Xs.map (cvec n)).Nodup := by
    unfold List.Nodup
    rw [List.pairwise_map]
    exact List.Pairwise.imp_of_mem (fun {X Y} hX hY ne e => ne (cvec_inj (h X hX).1 (h Y hY).1 (h X hX).2.2 (h Y hY).2.2 e)) nd
  have := nd_leG nd2 (u := vecs k n) fun v hv => by
    obtain ⟨X, hX, rfl⟩ := List.mem_map.mp hv
    refine mem_vecs k n _ (by unfold cvec; rw [List.length_map, List.length_range]) fun c hc => ?_
    obtain ⟨i, _, rfl⟩ := List.mem_map.mp hc
    have := List.count_le_length (a := (i : Int)) (l := X)
    rw [(h X hX).2.1] at this
    exact this
  rwa [List.length_map, vecs_len] at this
end
end VI.Ec
end
section
namespace VI.Ec
open PySem PySem.Spec PyProof.Rows L2 VI VI.Std VI.Fl
open VI.Lay (itD rgI lenTI lT)
section
variable {h : Bs} {F Xs R : List (List Int)} {X Y S r x y : List Int} {n k : Nat} {E : List Im}
noncomputable def late (F : List (List Int)) (r : List Int) : List (List Int) := F.flatMap fun x => r.map fun s => sortI (x ++ [s])
noncomputable def mstep (F : List (List Int)) (r : List Int) : List (List Int) := ddp (srtL (late F r))
theorem mem_mstep : x ∈ mstep F r ↔ ∃ y ∈ F, ∃ s ∈ r, x = sortI (y ++ [s]) := by
  unfold mstep late
  rw [mem_ddp, (srtL_perm _).mem_iff, List.mem_flatMap]
  constructor
  · rintro ⟨y, hy, z⟩
    obtain ⟨s, hs, rfl⟩ := List.mem_map.mp z
    exact ⟨y, hy, s, hs, rfl⟩
  · rintro ⟨y, hy, s, hs, rfl⟩
    exact ⟨y, hy, List.mem_map.mpr ⟨s, hs, rfl⟩⟩
structure Mi (n k : Nat) (F : List (List Int)) : Prop where
  nd : F.Nodup
  ok : ∀ x ∈ F, x.Pairwise (· ≤ ·) ∧ x.length = k ∧ ∀ s ∈ x, 0 ≤ s ∧ s < (n : Int)
theorem Mi.few (m : Mi n k F) : F.length ≤ (k + 1) ^ n := sorted_few m.nd m.ok
theorem Mi.step (m : Mi n k F) (hr : ∀ s ∈ r, 0 ≤ s ∧ s < (n : Int)) : Mi n (k + 1) (mstep F r) := by
  refine ⟨ddp_nd (srtL_so _), fun x hx => ?_⟩
  obtain ⟨y, hy, s, hs, rfl⟩ := mem_mstep.mp hx
  obtain ⟨a, b, c⟩ := m.ok y hy
  refine ⟨sortI_sorted _, by rw [len_sortI, List.length_append, b]; rfl, fun t ht => ?_⟩
  rcases List.mem_append.mp (mem_sortI.mp ht) with z | z
  · exact c t z
  · rw [List.mem_singleton.mp z]
    exact hr s hs
def mx (x : List Int) : Int := maxI (x.map (fun s => ((x.count s : Nat) : Int)) ++ [0])
theorem star_ok {sa : SV} {sr : SA} {ρ : Ev} {h1 h2 : Bs} {d : D} {xs ys : List D} (e : sa ρ h = .ok d h1) (es : seqOf h1 d = some xs) (er : sr ρ h1 = .ok ys h2) : saStar sa sr ρ h = .ok (xs ++ ys) h2 := by
  unfold saStar
  rw [e, bind_ok]
  simp only [es, er, bind_ok]
end
end VI.Ec
end
section
namespace VI.Eu
open PySem PySem.Spec PyProof.Rows L2 VI VI.Std VI.Fl VI.Ec
section
variable {E : List P2} {F : List (Option P2)} {L : List Nat} {s s0 v : Int} {i : Nat}
abbrev z2 : P2 := (0, 0)
def inc (v : Int) (p : P2) : Bool := decide (v ∈ [p.1, p.2])
def oth (v : Int) (p : P2) : Int := if p.1 = v then p.2 else p.1
def isT (v : Int) : Option P2 → Bool
  | some q => decide (q.1 = v)
  | none => false
def isH (v : Int) : Option P2 → Bool
  | some q => decide (q.2 = v)
  | none => false
def nO (F : List (Option P2)) (v : Int) : Nat := F.countP (isT v)
def nI (F : List (Option P2)) (v : Int) : Nat := F.countP (isH v)
def late (E : List P2) (L : List Nat) (v : Int) : List Nat := L.filter fun i => inc v (E.getD i z2)
def deg (E : List P2) (v : Int) : Nat := (E.filter (inc v)).length
def walk (E : List P2) : Nat → List (Option P2) → List Nat → Int → List (Option P2) × List Nat
  | 0, F, L, _ => (F, L)
  | f + 1, F, L, s => match late E L s with
    | [] => (F, L)
    | i :: _ => walk E f (F.set i (some (s, oth s (E.getD i z2)))) (L.filter fun j => !decide (j = i)) (oth s (E.getD i z2))
def turn (E : List P2) : Nat → List (Option P2) → List Nat → List (Option P2)
  | 0, F, _ => F
  | f + 1, F, L => match L with
    | [] => F
    | i :: _ => turn E f (walk E (L.length + 1) F L (E.getD i z2).1).1 (walk E (L.length + 1) F L (E.getD i z2).1).2
theorem set_count (P : Option P2 → Bool) (hP : P none = false) {q : P2} : ∀ (F : List (Option P2)) (i : Nat), F[i]? = some none → (F.set i (some q)).countP P = F.countP P + if P (some q) then 1 else 0
  | [], i, h => by simp at h
  | o :: F, 0, h => by
    have e : o = none := by simpa using h
    subst e
    rw [List.set_cons_zero, List.countP_cons, List.countP_cons, hP]
    simp
  | o :: F, i + 1, h => by
    have ih := set_count P hP (q := q) F i (by simpa using h)
    rw [List.set_cons_succ, List.countP_cons, List.countP_cons, ih]
    omega
theorem drop_count (P : Nat → Bool) : ∀ (L : List Nat) (i : Nat), L.Nodup → i ∈ L → (L.filter P).length = ((L.filter fun j => !decide (j = i)).filter P).length + if P i then 1 else 0
  | [], i, _, h => by cases h
  | j :: L, i, nd, h => by
    obtain ⟨a, b⟩ := List.nodup_cons.mp nd
    by_cases q : j = i
    · have e : L.filter (fun j => !decide (j = i)) = L := List.filter_eq_self.mpr fun k hk => by
        have : k ≠ i := fun z => a (by rw [q, ← z]; exact hk)
        simp [this]
      rw [List.filter_cons (p := fun j => !decide (j = i)), if_neg (by simp [q]), e, List.filter_cons, q]
      by_cases w : P i = true
      · rw [if_pos w, if_pos w, List.length_cons]
      · rw [if_neg w, if_neg w]
        omega
    · have m : i ∈ L := by
        rcases List.mem_cons.mp h with z | z
        · exact absurd z.symm q
        · exact z
      have ih := drop_count P L i b m
      rw [List.filter_cons (p := fun j => !decide (j = i)), if_pos (by simp [q]), List.filter_cons, List.filter_cons]
      by_cases w : P j = true
      · rw [if_pos w, if_pos w, List.length_cons, List.length_cons, ih]
        omega
      · rw [if_neg w, if_neg w, ih]
theorem drop_len (h : L.Nodup) (hi : i ∈ L) : (L.filter fun j => !decide (j = i)).length + 1 = L.length := by
  have := drop_count (fun _ => true) L i h hi
  rw [List.filter_eq_self.mpr (fun _ _ => rfl), List.filter_eq_self.mpr (fun _ _ => rfl), if_pos rfl] at this
  exact this.symm
structure Inv (E : List P2) (F : List (Option P2)) (L : List Nat) : Prop where
  nd : L.Nodup
  lt : ∀ i ∈ L, i < E.length
  fl : F.length = E.length
  no : ∀ i < E.length, (i ∈ L ↔ F[i]? = some none)
  rt : ∀ i q, F[i]? = some (some q) → q = E.getD i z2 ∨ q = ((E.getD i z2).2, (E.getD i z2).1)
  sum : ∀ v, nO F v + nI F v + (late E L v).length = deg E v
def one (a b : Int) : Nat := if a = b then 1 else 0
def Bal (F : List (Option P2)) (s0 s : Int) : Prop := ∀ v, nO F v + one v s = nI F v + one v s0
theorem inc_iff {p : P2} : inc v p = true ↔ v = p.1 ∨ v = p.2 := by
  unfold inc
  rw [decide_eq_true_eq]
  simp
theorem step (nl : ∀ p ∈ E, p.1 ≠ p.2) (I : Inv E F L) (B : Bal F s0 s) {r : List Nat} (e : late E L s = i :: r) : Inv E (F.set i (some (s, oth s (E.getD i z2)))) (L.filter fun j => !decide (j = i)) ∧ Bal (F.set i (some (s, oth s (E.getD i z2)))) s0 (oth s (E.getD i z2)) ∧ (L.filter fun j => !decide (j = i)).length + 1 = L.length := by
  have mi : i ∈ late E L s := by rw [e]; exact List.mem_cons_self
  obtain ⟨hL, hs⟩ := List.mem_filter.mp mi
  have hE := I.lt i hL
  have hF := (I.no i hE).mp hL
  have ep : E.getD i z2 = E[i] := by
    rw [List.getD_eq_getElem?_getD, List.getElem?_eq_getElem hE]
    rfl
  have ne := nl E[i] (List.getElem_mem hE)
  rw [← ep] at ne
  generalize hp : E.getD i z2 = p at *
  have hs := inc_iff.mp hs
  have oc : (s = p.1 ∧ oth s p = p.2) ∨ (s = p.2 ∧ oth s p = p.1) := by
    unfold oth
    rcases hs with z | z
    · exact .inl ⟨z, if_pos z.symm⟩
    · exact .inr ⟨z, if_neg fun w => ne (w.trans z)⟩
  have c1 : ∀ v, nO (F.set i (some (s, oth s p))) v = nO F v + one v s := fun v => by
    unfold nO one
    rw [set_count (isT v) rfl F i hF]
    congr 1
    show (if decide (s = v) = true then 1 else 0) = _
    by_cases w : s = v
    · rw [decide_eq_true w, if_pos rfl, if_pos w.symm]
    · rw [decide_eq_false w, if_neg (by simp), if_neg fun z => w z.symm]
  have c2 : ∀ v, nI (F.set i (some (s, oth s p))) v = nI F v + one v (oth s p) := fun v => by
    unfold nI one
    rw [set_count (isH v) rfl F i hF]
    congr 1
    show (if decide (oth s p = v) = true then 1 else 0) = _
    by_cases w : oth s p = v
    · rw [decide_eq_true w, if_pos rfl, if_pos w.symm]
    · rw [decide_eq_false w, if_neg (by simp), if_neg fun z => w z.symm]
  have c3 : ∀ v, (late E L v).length = (late E (L.filter fun j => !decide (j = i)) v).length + (one v s + one v (oth s p)) := fun v => by
    unfold late
    rw [drop_count _ L i I.nd hL, hp]
    congr 1
    unfold one
    by_cases w1 : v = p.1
    · have : v ≠ p.2 := fun z => ne (w1.symm.trans z)
      rw [if_pos (inc_iff.mpr (.inl w1))]
      rcases oc with ⟨a, b⟩ | ⟨a, b⟩
      · rw [if_pos (w1.trans a.symm), if_neg (by rw [b]; exact this)]
      · rw [if_neg (by rw [a]; exact this), if_pos (w1.trans b.symm)]
    · by_cases w2 : v = p.2
      · rw [if_pos (inc_iff.mpr (.inr w2))]
        rcases oc with ⟨a, b⟩ | ⟨a, b⟩
        · rw [if_neg (by rw [a]; exact w1), if_pos (w2.trans b.symm)]
        · rw [if_pos (w2.trans a.symm), if_neg (by rw [b]; exact w1)]
      · rw [if_neg fun z => by rcases inc_iff.mp z with z | z; exact w1 z; exact w2 z]
        rcases oc with ⟨a, b⟩ | ⟨a, b⟩
        · rw [if_neg (by rw [a]; exact w1), if_neg (by rw [b]; exact w2)]
        · rw [if_neg (by rw [a]; exact w2), if_neg (by rw [b]; exact w1)]
  have fi : i < F.length := by rw [I.fl]; exact hE
  refine ⟨⟨I.nd.sublist List.filter_sublist, fun j hj => I.lt j (List.mem_filter.mp hj).1, by rw [List.length_set]; exact I.fl, fun j hj => ?_, fun j q hq => ?_, fun v => ?_⟩, fun v => ?_, drop_len I.nd hL⟩
  · rw [List.getElem?_set]
    by_cases w : i = j
    · rw [if_pos w, if_pos fi]
      constructor
      · intro z
        have := (List.mem_filter.mp z).2
        simp [w] at this
      · intro z
        cases z
    · rw [if_neg w, ← I.no j hj, List.mem_filter]
      constructor
      · exact fun z => z.1
      · exact fun z => ⟨z, by have : j ≠ i := fun y => w y.symm; simp [this]⟩
  · rw [List.getElem?_set] at hq
    by_cases w : i = j
    · rw [if_pos w, if_pos fi] at hq
      have hq : (s, oth s p) = q := Option.some.inj (Option.some.inj hq)
      subst w
      rw [← hq, hp]
      rcases oc with ⟨a, b⟩ | ⟨a, b⟩
      · exact .inl (Prod.ext a b)
      · exact .inr (Prod.ext a b)
    · rw [if_neg w] at hq
      exact I.rt j q hq
  · have := I.sum v
    rw [c1, c2]
    have := c3 v
    omega
  · have := B v
    rw [c1, c2]
    omega
theorem walk_ok (nl : ∀ p ∈ E, p.1 ≠ p.2) : ∀ (f : Nat) (F : List (Option P2)) (L : List Nat) (s : Int), Inv E F L → Bal F s0 s → L.length < f → Inv E (walk E f F L s).1 (walk E f F L s).2 ∧ (∃ s', Bal (walk E f F L s).1 s0 s' ∧ late E (walk E f F L s).2 s' = []) ∧ (walk E f F L s).2.length ≤ L.length ∧ (late E L s ≠ [] → (walk E f F L s).2.length < L.length)
  | 0, F, L, s, I, B, h => by omega
  | f + 1, F, L, s, I, B, h => by
    unfold walk
    cases e : late E L s with
    | nil => exact ⟨I, ⟨s, B, e⟩, Nat.le_refl _, fun z => absurd rfl z⟩
    | cons i r =>
      obtain ⟨I2, B2, l2⟩ := step nl I B e
      obtain ⟨a, b, c, _⟩ := walk_ok nl f _ _ _ I2 B2 (by omega)
      exact ⟨a, b, by show (walk E f _ _ _).2.length ≤ _; omega, fun _ => by show (walk E f _ _ _).2.length < _; omega⟩
theorem bal_refl : Bal F s0 s0 ↔ ∀ v, nO F v = nI F v := by
  unfold Bal
  exact forall_congr' fun v => by omega
theorem turn_ok (nl : ∀ p ∈ E, p.1 ≠ p.2) (ev : ∀ v, deg E v % 2 = 0) : ∀ (f : Nat) (F : List (Option P2)) (L : List Nat), Inv E F L → (∀ v, nO F v = nI F v) → L.length ≤ f → Inv E (turn E f F L) [] ∧ ∀ v, nO (turn E f F L) v = nI (turn E f F L) v
  | 0, F, L, I, B, h => by
    have : L = [] := List.length_eq_zero_iff.mp (by omega)
    subst this
    exact ⟨I, B⟩
  | f + 1, F, [], I, B, h => ⟨I, B⟩
  | f + 1, F, i :: L, I, B, h => by
    have hE := I.lt i List.mem_cons_self
    obtain ⟨a, ⟨s', b1, b2⟩, _, d⟩ := walk_ok (s0 := (E.getD i z2).1) nl ((i :: L).length + 1) F (i :: L) (E.getD i z2).1 I (bal_refl.mpr B) (by omega)
    have ne : late E (i :: L) (E.getD i z2).1 ≠ [] := List.ne_nil_of_mem (a := i) (List.mem_filter.mpr ⟨List.mem_cons_self, inc_iff.mpr (.inl rfl)⟩)
    have d := d ne
    have hl : (i :: L).length = L.length + 1 := rfl
    have B2 : ∀ v, nO (walk E ((i :: L).length + 1) F (i :: L) (E.getD i z2).1).1 v = nI (walk E ((i :: L).length + 1) F (i :: L) (E.getD i z2).1).1 v := by
      by_cases q : s' = (E.getD i z2).1
      · rw [q] at b1
        exact bal_refl.mp b1
      · exfalso
        have s1 := a.sum s'
        rw [b2, List.length_nil] at s1
        have s2 := b1 s'
        have o1 : one s' s' = 1 := if_pos rfl
        have o2 : one s' (E.getD i z2).1 = 0 := if_neg q
        have := ev s'
        omega
    unfold turn
    exact turn_ok nl ev f _ _ a B2 (by omega)
theorem rng_getD : ∀ E : List P2, (List.range E.length).map (fun i => E.getD i z2) = E := fun E => by
  refine List.ext_getElem (by rw [List.length_map, List.length_range]) fun i h1 h2 => ?_
  rw [List.getElem_map, List.getElem_range, List.getD_eq_getElem?_getD, List.getElem?_eq_getElem h2]
  rfl
theorem inv_0 : Inv E (List.replicate E.length none) (List.range E.length) := by
  refine ⟨List.nodup_range, fun i hi => List.mem_range.mp hi, List.length_replicate, fun i hi => ?_, fun i q hq => ?_, fun v => ?_⟩
  · rw [List.mem_range, List.getElem?_replicate, if_pos hi]
    exact ⟨fun _ => rfl, fun _ => hi⟩
  · rw [List.getElem?_replicate] at hq
    split at hq
    · cases hq
    · cases hq
  · have r0 : ∀ P : Option P2 → Bool, P none = false → (List.replicate E.length none).countP P = 0 := fun P hP => by
      rw [List.countP_replicate, hP]
      simp
    unfold nO nI late deg
    rw [r0 _ rfl, r0 _ rfl]
    conv => rhs; rw [← rng_getD E]
    rw [List.filter_map, List.length_map]
    simp
    rfl
def eul (E : List P2) : List (Option P2) := turn E E.length (List.replicate E.length none) (List.range E.length)
theorem eul_ok (nl : ∀ p ∈ E, p.1 ≠ p.2) (ev : ∀ v, deg E v % 2 = 0) : Inv E (eul E) [] ∧ ∀ v, nO (eul E) v = nI (eul E) v := by
  refine turn_ok nl ev _ _ _ inv_0 (fun v => ?_) (by rw [List.length_range]; exact Nat.le_refl _)
  have r0 : ∀ P : Option P2 → Bool, P none = false → (List.replicate E.length none).countP P = 0 := fun P hP => by
    rw [List.countP_replicate, hP]
    simp
  unfold nO nI
  rw [r0 _ rfl, r0 _ rfl]
end
end VI.Eu
end
section
namespace VI.Eu
open PySem PySem.Spec PyProof.Rows L2 VI VI.Std VI.Fl VI.Ec
open VI.Lay (rgI)
section
variable {E Tr : List P2} {v : Int} {n i : Nat}
theorem count_nd {α : Type} [DecidableEq α] {x : α} : ∀ {l : List α}, l.Nodup → x ∈ l → l.count x = 1
  | [], _, h => by cases h
  | y :: l, nd, h => by
    obtain ⟨a, b⟩ := List.nodup_cons.mp nd
    by_cases q : y = x
    · subst q
      rw [List.count_cons_self, List.count_eq_zero.mpr a]
    · have m : x ∈ l := by
        rcases List.mem_cons.mp h with z | z
        · exact absurd z.symm q
        · exact z
      rw [List.count_cons, count_nd b m, if_neg (by simpa using q)]
theorem inc_two {p : P2} (ne : p.1 ≠ p.2) : ∀ l : List Int, (l.filter fun x => inc x p).length = l.count p.1 + l.count p.2
  | [] => rfl
  | x :: l => by
    have ih := inc_two ne l
    rw [List.filter_cons, List.count_cons, List.count_cons]
    by_cases a : x = p.1
    · have b : x ≠ p.2 := fun z => ne (a.symm.trans z)
      rw [if_pos (inc_iff.mpr (.inl a)), List.length_cons, ih, if_pos (by simpa using a), if_neg (by simpa using b)]
      omega
    · by_cases b : x = p.2
      · rw [if_pos (inc_iff.mpr (.inr b)), List.length_cons, ih, if_neg (by simpa using a), if_pos (by simpa using b)]
        omega
      · rw [if_neg (fun z => by rcases inc_iff.mp z with z | z; exact a z; exact b z), ih, if_neg (by simpa using a), if_neg (by simpa using b)]
        rfl
theorem deg_cons {p : P2} : deg (p :: E) v = deg E v + if inc v p then 1 else 0 := by
  unfold deg
  rw [List.filter_cons]
  split
  · rw [List.length_cons]
  · rfl
theorem deg_app {A : List P2} : deg (A ++ E) v = deg A v + deg E v := by
  unfold deg
  rw [List.filter_append, List.length_append]
theorem rg_nd (n : Nat) : (rgI n).Nodup := Lay.SetN.nd' n
where
  Lay.SetN.nd' (n : Nat) : (rgI n).Nodup := by
    unfold rgI List.Nodup
    rw [List.pairwise_map]
    exact List.nodup_range.imp fun h e => h (by omega)
theorem hand (l : List Int) (nd : l.Nodup) : ∀ Tr : List P2, (∀ p ∈ Tr, p.1 ≠ p.2 ∧ p.1 ∈ l ∧ p.2 ∈ l) → (l.map fun x => deg Tr x).sum = 2 * Tr.length
  | [], _ => by
    have : ∀ l : List Int, (l.map fun x => deg [] x).sum = 0 := fun l => by
      induction l with
      | nil => rfl
      | cons x l ih => rw [List.map_cons, List.sum_cons, ih]; rfl
    exact this l
  | p :: Tr, h => by
    have ih := hand l nd Tr fun q hq => h q (List.mem_cons_of_mem _ hq)
    obtain ⟨ne, a, b⟩ := h p List.mem_cons_self
    have two := inc_two ne l
    rw [count_nd nd a, count_nd nd b] at two
    have key : ∀ l : List Int, (l.map fun x => deg (p :: Tr) x).sum = (l.map fun x => deg Tr x).sum + (l.filter fun x => inc x p).length := fun l => by
      induction l with
      | nil => rfl
      | cons x l ih =>
        rw [List.map_cons, List.map_cons, List.sum_cons, List.sum_cons, ih, deg_cons, List.filter_cons]
        split
        · rw [List.length_cons]; omega
        · omega
    rw [key, ih, two, List.length_cons]
    omega
theorem odd_par (f : Int → Nat) : ∀ l : List Int, (l.filter fun x => decide (f x % 2 = 1)).length % 2 = (l.map f).sum % 2
  | [] => rfl
  | x :: l => by
    have ih := odd_par f l
    rw [List.filter_cons, List.map_cons, List.sum_cons]
    by_cases q : f x % 2 = 1
    · rw [if_pos (by simpa using q), List.length_cons]
      omega
    · rw [if_neg (by simpa using q)]
      omega
def odd (n : Nat) (Tr : List P2) : List Int := (rgI n).filter fun x => decide (deg Tr x % 2 = 1)
def edg (n : Nat) (Tr : List P2) : List P2 := Tr ++ (odd n Tr).map fun x => (x, (n : Int))
structure Trs (n : Nat) (Tr : List P2) : Prop where
  ne : ∀ p ∈ Tr, p.1 ≠ p.2
  r1 : ∀ p ∈ Tr, 0 ≤ p.1 ∧ p.1 < (n : Int)
  r2 : ∀ p ∈ Tr, 0 ≤ p.2 ∧ p.2 < (n : Int)
theorem deg_dum : ∀ l : List Int, v ≠ (n : Int) → deg (l.map fun x => (x, (n : Int))) v = l.count v
  | [], _ => rfl
  | x :: l, h => by
    rw [List.map_cons, deg_cons, deg_dum l h, List.count_cons]
    congr 1
    by_cases q : x = v
    · rw [if_pos (inc_iff.mpr (.inl q.symm)), if_pos (by simpa using q)]
    · rw [if_neg (fun z => by rcases inc_iff.mp z with z | z; exact q z.symm; exact h z), if_neg (by simpa using q)]
theorem deg_dumn : ∀ l : List Int, deg (l.map fun x => (x, (n : Int))) (n : Int) = l.length
  | [] => rfl
  | x :: l => by
    rw [List.map_cons, deg_cons, deg_dumn l, List.length_cons, if_pos (inc_iff (p := (x, (n : Int))).mpr (.inr rfl))]
theorem deg_0 (h : ∀ p ∈ Tr, v ≠ p.1 ∧ v ≠ p.2) : deg Tr v = 0 := by
  unfold deg
  rw [List.filter_eq_nil_iff.mpr fun p hp z => by
    obtain ⟨a, b⟩ := h p hp
    rcases inc_iff.mp z with z | z
    · exact a z
    · exact b z]
  rfl
theorem odd_mem : v ∈ odd n Tr ↔ (0 ≤ v ∧ v < (n : Int)) ∧ deg Tr v % 2 = 1 := by
  unfold odd
  rw [List.mem_filter, Lay.mem_rgI, decide_eq_true_eq]
theorem odd_nd : (odd n Tr).Nodup := (rg_nd n).sublist List.filter_sublist
theorem edg_deg (t : Trs n Tr) (hv : 0 ≤ v ∧ v < (n : Int)) : deg (edg n Tr) v = 2 * ((deg Tr v + 1) / 2) := by
  unfold edg
  rw [deg_app, deg_dum _ (by omega)]
  by_cases q : deg Tr v % 2 = 1
  · rw [count_nd odd_nd (odd_mem.mpr ⟨hv, q⟩)]
    omega
  · rw [List.count_eq_zero.mpr fun z => q (odd_mem.mp z).2]
    omega
theorem edg_even (t : Trs n Tr) : ∀ v, deg (edg n Tr) v % 2 = 0 := fun v => by
  by_cases hv : 0 ≤ v ∧ v < (n : Int)
  · rw [edg_deg t hv]
    omega
  · have d0 : deg Tr v = 0 := deg_0 fun p hp => ⟨fun z => hv (by have := t.r1 p hp; omega), fun z => hv (by have := t.r2 p hp; omega)⟩
    unfold edg
    rw [deg_app, d0]
    by_cases q : v = (n : Int)
    · rw [q, deg_dumn]
      have a := odd_par (fun x => deg Tr x) (rgI n)
      have b := hand (rgI n) (rg_nd n) Tr fun p hp => ⟨t.ne p hp, Lay.mem_rgI.mpr (t.r1 p hp), Lay.mem_rgI.mpr (t.r2 p hp)⟩
      have a : (odd n Tr).length % 2 = ((rgI n).map fun x => deg Tr x).sum % 2 := a
      omega
    · rw [deg_dum _ q, List.count_eq_zero.mpr fun z => hv (odd_mem.mp z).1]
theorem edg_nl (t : Trs n Tr) : ∀ p ∈ edg n Tr, p.1 ≠ p.2 := fun p hp => by
  rcases List.mem_append.mp hp with z | z
  · exact t.ne p z
  · obtain ⟨x, hx, rfl⟩ := List.mem_map.mp z
    have := (odd_mem.mp hx).1
    show x ≠ (n : Int)
    omega
def dir (n : Nat) (Tr : List P2) : List P2 := ((eul (edg n Tr)).take Tr.length).map fun o => o.getD z2
theorem eul_some (t : Trs n Tr) : ∀ i < (edg n Tr).length, ∃ q, (eul (edg n Tr))[i]? = some (some q) ∧ (q = (edg n Tr).getD i z2 ∨ q = (((edg n Tr).getD i z2).2, ((edg n Tr).getD i z2).1)) := fun i hi => by
  obtain ⟨I, _⟩ := eul_ok (edg_nl t) (edg_even t)
  have h2 : i < (eul (edg n Tr)).length := by rw [I.fl]; exact hi
  cases e : (eul (edg n Tr))[i]'h2 with
  | none =>
    have : i ∈ ([] : List Nat) := (I.no i hi).mpr (by rw [List.getElem?_eq_getElem h2, e])
    cases this
  | some q =>
    have e2 : (eul (edg n Tr))[i]? = some (some q) := by rw [List.getElem?_eq_getElem h2, e]
    exact ⟨q, e2, I.rt i q e2⟩
theorem dir_len (t : Trs n Tr) : (dir n Tr).length = Tr.length := by
  have I := (eul_ok (edg_nl t) (edg_even t)).1
  unfold dir
  rw [List.length_map, List.length_take, I.fl]
  unfold edg
  rw [List.length_append]
  omega
theorem dir_get (t : Trs n Tr) (hi : i < (dir n Tr).length) : (dir n Tr)[i] = Tr[i]'(by rw [dir_len t] at hi; exact hi) ∨ (dir n Tr)[i] = ((Tr[i]'(by rw [dir_len t] at hi; exact hi)).2, (Tr[i]'(by rw [dir_len t] at hi; exact hi)).1) := by
  have hi' := hi
  rw [dir_len t] at hi'
  have he : i < (edg n Tr).length := by unfold edg; rw [List.length_append]; omega
  obtain ⟨q, e, w⟩ := eul_some t i he
  have eg : (edg n Tr).getD i z2 = Tr[i] := by
    rw [List.getD_eq_getElem?_getD, List.getElem?_eq_getElem he]
    show (edg n Tr)[i] = _
    unfold edg
    exact List.getElem_append_left hi'
  rw [eg] at w
  have ed : (dir n Tr)[i]? = some q := by
    unfold dir
    rw [List.getElem?_map, List.getElem?_take, if_pos hi', e]
    rfl
  rw [List.getElem?_eq_getElem hi] at ed
  rw [Option.some.inj ed]
  exact w
theorem dir_out (t : Trs n Tr) (hv : 0 ≤ v ∧ v < (n : Int)) : ((dir n Tr).map (·.1)).count v ≤ (deg Tr v + 1) / 2 ∧ ((dir n Tr).map (·.2)).count v ≤ (deg Tr v + 1) / 2 := by
  obtain ⟨I, B⟩ := eul_ok (edg_nl t) (edg_even t)
  have s := I.sum v
  have b := B v
  rw [edg_deg t hv] at s
  have l0 : (late (edg n Tr) [] v).length = 0 := rfl
  have al : ∀ o ∈ (eul (edg n Tr)).take Tr.length, o ≠ none := fun o ho z => by
    obtain ⟨j, hj, e⟩ := List.getElem_of_mem ho
    rw [List.length_take, I.fl] at hj
    obtain ⟨q, e2, _⟩ := eul_some t j (by omega)
    rw [List.getElem_take] at e
    rw [List.getElem?_eq_getElem (by rw [I.fl]; omega), e, z] at e2
    cases e2
  have k1 : ((dir n Tr).map (·.1)).count v = ((eul (edg n Tr)).take Tr.length).countP (isT v) := by
    unfold dir
    rw [List.map_map, List.count, List.countP_map]
    refine List.countP_congr fun o ho => ?_
    cases o with
    | none => exact absurd rfl (al none ho)
    | some q =>
      show (q.1 == v) = true ↔ decide (q.1 = v) = true
      rw [beq_iff_eq, decide_eq_true_eq]
  have k2 : ((dir n Tr).map (·.2)).count v = ((eul (edg n Tr)).take Tr.length).countP (isH v) := by
    unfold dir
    rw [List.map_map, List.count, List.countP_map]
    refine List.countP_congr fun o ho => ?_
    cases o with
    | none => exact absurd rfl (al none ho)
    | some q =>
      show (q.2 == v) = true ↔ decide (q.2 = v) = true
      rw [beq_iff_eq, decide_eq_true_eq]
  have m1 := List.Sublist.countP_le (p := isT v) (List.take_sublist Tr.length (eul (edg n Tr)))
  have m2 := List.Sublist.countP_le (p := isH v) (List.take_sublist Tr.length (eul (edg n Tr)))
  unfold nO nI at s b
  omega
end
end VI.Eu
end
section
namespace VI.Eu
open PySem PySem.Spec PyProof.Rows L2 VI VI.Std VI.Fl VI.Ec
open VI.Lay (rgI)
section
variable {E Tr : List P2} {X : List Int} {v : Int} {n i R : Nat} {c : Int → Nat}
def bump (c : Int → Nat) (v : Int) : Int → Nat := fun x => if x = v then c x + 1 else c x
def prt (R : Nat) : List Int → (Int → Nat) → List P2
  | [], _ => []
  | v :: X, c => (v, ((c v / R : Nat) : Int)) :: prt R X (bump c v)
theorem prt_fst : ∀ (X : List Int) (c : Int → Nat), (prt R X c).map (·.1) = X
  | [], _ => rfl
  | v :: X, c => by
    unfold prt
    rw [List.map_cons, prt_fst X]
theorem prt_len (X : List Int) (c : Int → Nat) : (prt R X c).length = X.length := by
  have := congrArg List.length (prt_fst (R := R) X c)
  rw [List.length_map] at this
  exact this
theorem bump_v : bump c v v = c v + 1 := if_pos rfl
theorem bump_ne {x : Int} (h : x ≠ v) : bump c v x = c x := if_neg h
theorem prt_mem {q : P2} : ∀ (X : List Int) (c : Int → Nat), q ∈ prt R X c → ∃ j : Nat, q.2 = ((j / R : Nat) : Int) ∧ j < c q.1 + X.count q.1
  | [], _, h => by cases h
  | v :: X, c, h => by
    unfold prt at h
    rcases List.mem_cons.mp h with e | h
    · refine ⟨c v, by rw [e], ?_⟩
      rw [e]
      show c v < c v + (v :: X).count v
      rw [List.count_cons_self]
      omega
    · obtain ⟨j, e, hj⟩ := prt_mem X _ h
      refine ⟨j, e, ?_⟩
      by_cases w : q.1 = v
      · rw [w, bump_v] at hj
        rw [w, List.count_cons_self]
        omega
      · rw [bump_ne w] at hj
        rw [List.count_cons]
        omega
theorem prt_cnt (hR : 0 < R) {k : Nat} : ∀ (X : List Int) (c : Int → Nat), (prt R X c).count (v, (k : Int)) ≤ (k + 1) * R - max (c v) (k * R)
  | [], _ => Nat.zero_le _
  | x :: X, c => by
    have ih := prt_cnt hR (k := k) X (bump c x)
    have ek : (k + 1) * R = k * R + R := Nat.succ_mul k R
    unfold prt
    rw [List.count_cons]
    by_cases w : x = v
    · subst w
      rw [bump_v] at ih
      by_cases q : c x / R = k
      · have b1 : k * R ≤ c x := by rw [← q]; exact Nat.div_mul_le_self _ _
        have b2 : c x < (k + 1) * R := by rw [← q]; exact Nat.lt_succ_mul_of_div_lt' hR
        rw [if_pos (by simp [q])]
        omega
      · rw [if_neg (by simp; omega)]
        by_cases q2 : c x < k * R
        · omega
        · have : (k + 1) * R ≤ c x := by
            have : k + 1 ≤ c x / R := by
              have : k ≤ c x / R := (Nat.le_div_iff_mul_le hR).mpr (by omega)
              omega
            exact (Nat.le_div_iff_mul_le hR).mp this
          omega
    · rw [bump_ne (fun z => w z.symm)] at ih
      rw [if_neg (by simp [w])]
      omega
where
  Nat.lt_succ_mul_of_div_lt' {a b : Nat} (hb : 0 < b) : a < (a / b + 1) * b := by
    have := Nat.lt_mul_div_succ a hb
    rw [Nat.mul_comm]
    exact this
abbrev c0 : Int → Nat := fun _ => 0
theorem prt_neg {v : Int} {k : Int} (hk : k < 0) : (prt R X c).count (v, k) = 0 := List.count_eq_zero.mpr fun h => by
  obtain ⟨j, e, _⟩ := prt_mem X c h
  have e : k = ((j / R : Nat) : Int) := e
  have z := Int.natCast_nonneg (j / R)
  rw [← e] at z
  omega
theorem prt_few (hR : 0 < R) (q : P2) : (prt R X c0).count q ≤ R := by
  obtain ⟨v, k⟩ := q
  by_cases hk : k < 0
  · rw [prt_neg hk]
    omega
  · obtain ⟨m, rfl⟩ : ∃ m : Nat, k = (m : Int) := ⟨k.toNat, by omega⟩
    have := prt_cnt (v := v) hR (k := m) X c0
    have ek : (m + 1) * R = m * R + R := Nat.succ_mul m R
    omega
theorem part_fit (hR : 0 < R) {c : List Int} (hl : c.length ≤ X.length) (p : Pro c.length (ndX (prt R X c0)) (nc c)) (v r : Int) : ((X.zip c).filter fun z => decide (z.1 = v) && decide (z.2 = r)).length * R ≤ X.count v + (R - 1) := by
  have pl : (prt R X c0).length = X.length := prt_len X c0
  have nd : ((prt R X c0).zip c).Nodup := by
    refine List.pairwise_iff_getElem.mpr fun i j hi hj hij e => ?_
    rw [List.length_zip] at hi hj
    rw [List.getElem_zip, List.getElem_zip] at e
    obtain ⟨e1, e2⟩ := Prod.mk.inj e
    have n1 : ∀ (k : Nat) (hk : k < c.length), nc c k = c[k] := fun k hk => by
      unfold nc
      rw [List.getD_eq_getElem?_getD, List.getElem?_eq_getElem hk]
      rfl
    have := p i j (by omega) (by omega) (by
      show (prt R X c0)[i]? = (prt R X c0)[j]?
      rw [List.getElem?_eq_getElem (by omega), List.getElem?_eq_getElem (by omega), e1]) (by rw [n1 i (by omega), n1 j (by omega)]; exact e2)
    omega
  have em : X.zip c = ((prt R X c0).zip c).map fun z => (z.1.1, z.2) := by
    conv => lhs; rw [← prt_fst (R := R) X c0]
    rw [List.zip_map_left]
    rfl
  have el : ((X.zip c).filter fun z => decide (z.1 = v) && decide (z.2 = r)).length = (((prt R X c0).zip c).filter fun z => decide (z.1.1 = v) && decide (z.2 = r)).length := by
    rw [em, List.filter_map, List.length_map]
    rfl
  have nd2 : ((((prt R X c0).zip c).filter fun z => decide (z.1.1 = v) && decide (z.2 = r)).map fun z => z.1.2).Nodup := by
    unfold List.Nodup
    rw [List.pairwise_map]
    refine List.Pairwise.imp_of_mem (fun {a b} ha hb ne e => ?_) (nd.filter _)
    have a1 := (List.mem_filter.mp ha).2
    have b1 := (List.mem_filter.mp hb).2
    rw [Bool.and_eq_true, decide_eq_true_eq, decide_eq_true_eq] at a1 b1
    exact ne (Prod.ext (Prod.ext (a1.1.trans b1.1.symm) e) (a1.2.trans b1.2.symm))
  have le := nd_le nd2 (u := (List.range ((X.count v + (R - 1)) / R)).map fun (i : Nat) => (i : Int)) fun y hy => by
    obtain ⟨z, hz, rfl⟩ := List.mem_map.mp hy
    obtain ⟨h1, h2⟩ := List.mem_filter.mp hz
    rw [Bool.and_eq_true, decide_eq_true_eq, decide_eq_true_eq] at h2
    obtain ⟨j, e, hj⟩ := prt_mem X c0 (List.of_mem_zip h1).1
    rw [h2.1] at hj
    refine List.mem_map.mpr ⟨j / R, List.mem_range.mpr ?_, e.symm⟩
    refine (Nat.lt_div_iff_mul_lt' hR).mpr ?_
    have := Nat.div_mul_le_self j R
    have hj : j < 0 + X.count v := hj
    omega
  rw [List.length_map, List.length_map, List.length_range] at le
  rw [el]
  exact Nat.le_trans (Nat.mul_le_mul_right R le) (Nat.div_mul_le_self _ _)
where
  Nat.lt_div_iff_mul_lt' {a b c : Nat} (hb : 0 < b) : a < c / b ↔ a * b + b ≤ c := by
    rw [← Nat.succ_mul]
    exact Nat.le_div_iff_mul_le hb
end
end VI.Eu
end
section
namespace VI.Sn
open VI.Eu VI.Ec
open VI.Lay (rgI mem_rgI rgI_len)
section
variable {E : List P2} {m n k : Nat} {c : Nat → Int} {b g v u w x a : Int} {V : List Int} {F : List Nat}
def ed (E : List P2) (i : Nat) : P2 := E.getD i z2
def Pr (E : List P2) (m : Nat) (c : Nat → Int) : Prop := ∀ i j x, i < m → j < m → inc x (ed E i) = true → inc x (ed E j) = true → c i = c j → i = j
def Fr (E : List P2) (m : Nat) (c : Nat → Int) (x a : Int) : Prop := ∀ i < m, inc x (ed E i) = true → c i ≠ a
structure Tree (E : List P2) (m : Nat) (c : Nat → Int) (b g : Int) (n : Nat) (v : Int) (V : List Int) (F : List Nat) : Prop where
  nd : V.Nodup
  fd : F.Nodup
  len : F.length + 1 = V.length
  mem : v ∈ V
  sub : ∀ x ∈ V, x ∈ rgI n
  es : ∀ i ∈ F, i < m ∧ (c i = b ∨ c i = g) ∧ (ed E i).1 ∈ V ∧ (ed E i).2 ∈ V
def Clo (E : List P2) (m : Nat) (c : Nat → Int) (b g : Int) (V : List Int) : Prop := ∀ i < m, (c i = b ∨ c i = g) → ((ed E i).1 ∈ V ↔ (ed E i).2 ∈ V)
theorem grow (hE : ∀ i < m, (ed E i).1 ∈ rgI n ∧ (ed E i).2 ∈ rgI n) : ∀ (f : Nat) (V : List Int) (F : List Nat), Tree E m c b g n v V F → n ≤ V.length + f → ∃ V F, Tree E m c b g n v V F ∧ Clo E m c b g V := fun f => by
  induction f with
  | zero =>
    intro V F T h
    refine ⟨V, F, T, fun i hi _ => ?_⟩
    have full : ∀ y ∈ rgI n, y ∈ V := fun y hy => Classical.byContradiction fun z => by
      have := nd_le (l := y :: V) (u := rgI n) (List.nodup_cons.mpr ⟨z, T.nd⟩) fun q hq => by
        rcases List.mem_cons.mp hq with rfl | hq
        · exact hy
        · exact T.sub q hq
      rw [List.length_cons, rgI_len] at this
      omega
    exact ⟨fun _ => full _ (hE i hi).2, fun _ => full _ (hE i hi).1⟩
  | succ f ih =>
    intro V F T h
    by_cases q : Clo E m c b g V
    · exact ⟨V, F, T, q⟩
    · obtain ⟨i, hi, col, ne⟩ : ∃ i, i < m ∧ (c i = b ∨ c i = g) ∧ ¬((ed E i).1 ∈ V ↔ (ed E i).2 ∈ V) := by
        refine Classical.byContradiction fun z => q fun i hi col => Classical.byContradiction fun y => z ⟨i, hi, col, y⟩
      have step : ∀ y, y ∈ rgI n → y ∉ V → (ed E i).1 ∈ y :: V → (ed E i).2 ∈ y :: V → ∃ V F, Tree E m c b g n v V F ∧ Clo E m c b g V := fun y hy nin m1 m2 => by
        refine ih (y :: V) (i :: F) ⟨List.nodup_cons.mpr ⟨nin, T.nd⟩, List.nodup_cons.mpr ⟨fun z => ?_, T.fd⟩, ?_, List.mem_cons_of_mem _ T.mem, ?_, ?_⟩ (by rw [List.length_cons]; omega)
        · obtain ⟨_, _, z1, z2⟩ := T.es i z
          exact ne ⟨fun _ => z2, fun _ => z1⟩
        · rw [List.length_cons, List.length_cons, T.len]
        · intro q hq
          rcases List.mem_cons.mp hq with rfl | hq
          · exact hy
          · exact T.sub q hq
        · intro j hj
          rcases List.mem_cons.mp hj with rfl | hj
          · exact ⟨hi, col, m1, m2⟩
          · obtain ⟨z0, z1, z2, z3⟩ := T.es j hj
            exact ⟨z0, z1, List.mem_cons_of_mem _ z2, List.mem_cons_of_mem _ z3⟩
      by_cases p : (ed E i).1 ∈ V
      · have p2 : (ed E i).2 ∉ V := fun z => ne ⟨fun _ => z, fun _ => p⟩
        exact step _ (hE i hi).2 p2 (List.mem_cons_of_mem _ p) List.mem_cons_self
      · have p2 : (ed E i).2 ∈ V := Classical.byContradiction fun z => ne ⟨fun y => absurd y p, fun y => absurd y z⟩
        exact step _ (hE i hi).1 p List.mem_cons_self (List.mem_cons_of_mem _ p2)
theorem nd_map {L : List Nat} (nd : L.Nodup) (inj : ∀ i ∈ L, ∀ j ∈ L, c i = c j → i = j) : (L.map c).Nodup := by
  unfold List.Nodup
  rw [List.pairwise_map]
  exact nd.imp_of_mem fun {i j} hi hj ne e => ne (inj i hi j hj e)
theorem deg_F (F : List Nat) : deg (F.map (ed E)) x = (F.filter fun i => inc x (ed E i)).length := by
  unfold deg
  rw [List.filter_map, List.length_map]
  rfl
theorem deg_le2 (T : Tree E m c b g n v V F) (P : Pr E m c) (x : Int) : deg (F.map (ed E)) x ≤ 2 ∧ (Fr E m c x b ∨ Fr E m c x g → deg (F.map (ed E)) x ≤ 1) := by
  rw [deg_F]
  have mem : ∀ i ∈ F.filter (fun i => inc x (ed E i)), i < m ∧ inc x (ed E i) = true ∧ (c i = b ∨ c i = g) := fun i hi => by
    obtain ⟨h1, h2⟩ := List.mem_filter.mp hi
    exact ⟨(T.es i h1).1, h2, (T.es i h1).2.1⟩
  have nd : ((F.filter fun i => inc x (ed E i)).map c).Nodup := nd_map (T.fd.sublist List.filter_sublist) fun i hi j hj e => P i j x (mem i hi).1 (mem j hj).1 (mem i hi).2.1 (mem j hj).2.1 e
  have le : ∀ u : List Int, (∀ i ∈ F.filter (fun i => inc x (ed E i)), c i ∈ u) → (F.filter fun i => inc x (ed E i)).length ≤ u.length := fun u h => by
    have := nd_le nd (u := u) fun y hy => by
      obtain ⟨i, hi, rfl⟩ := List.mem_map.mp hy
      exact h i hi
    rw [List.length_map] at this
    exact this
  refine ⟨le [b, g] fun i hi => ?_, fun h => ?_⟩
  · rcases (mem i hi).2.2 with e | e <;> rw [e] <;> simp
  · rcases h with h | h
    · exact le [g] fun i hi => by
        rcases (mem i hi).2.2 with e | e
        · exact absurd e (h i (mem i hi).1 (mem i hi).2.1)
        · rw [e]; simp
    · exact le [b] fun i hi => by
        rcases (mem i hi).2.2 with e | e
        · rw [e]; simp
        · exact absurd e (h i (mem i hi).1 (mem i hi).2.1)
theorem sum3 {f : Int → Nat} (h : ∀ x, f x + (if x = v then 1 else 0) + (if x = u then 1 else 0) + (if x = w then 1 else 0) ≤ 2) : ∀ l : List Int, (l.map f).sum + l.count v + l.count u + l.count w ≤ 2 * l.length
  | [] => by simp
  | x :: l => by
    have ih := sum3 h l
    have hx := h x
    rw [List.map_cons, List.sum_cons, List.count_cons, List.count_cons, List.count_cons, List.length_cons]
    simp only [beq_iff_eq]
    omega
theorem not3 (T : Tree E m c b g n v V F) (P : Pr E m c) (hE : ∀ i < m, (ed E i).1 ≠ (ed E i).2) (fv : Fr E m c v b) (fu : Fr E m c u g) (fw : Fr E m c w g) (vu : v ≠ u) (vw : v ≠ w) (uw : u ≠ w) (mu : u ∈ V) (mw : w ∈ V) : False := by
  have s := hand V T.nd (F.map (ed E)) fun p hp => by
    obtain ⟨i, hi, rfl⟩ := List.mem_map.mp hp
    obtain ⟨h1, _, h3, h4⟩ := T.es i hi
    exact ⟨hE i h1, h3, h4⟩
  have q := sum3 (f := fun x => deg (F.map (ed E)) x) (v := v) (u := u) (w := w) (fun x => by
    obtain ⟨d1, d2⟩ := deg_le2 T P x
    by_cases a1 : x = v
    · have := d2 (.inl (a1 ▸ fv))
      rw [if_pos a1, if_neg (fun z => vu (a1.symm.trans z)), if_neg (fun z => vw (a1.symm.trans z))]
      omega
    · by_cases a2 : x = u
      · have := d2 (.inr (a2 ▸ fu))
        rw [if_neg a1, if_pos a2, if_neg (fun z => uw (a2.symm.trans z))]
        omega
      · by_cases a3 : x = w
        · have := d2 (.inr (a3 ▸ fw))
          rw [if_neg a1, if_neg a2, if_pos a3]
          omega
        · rw [if_neg a1, if_neg a2, if_neg a3]
          omega) V
  rw [s, count_nd T.nd T.mem, count_nd T.nd mu, count_nd T.nd mw, List.length_map] at q
  have := T.len
  omega
def sw (b g a : Int) : Int := if a = b then g else if a = g then b else a
theorem sw_inj (h : sw b g a = sw b g x) : a = x := by
  unfold sw at h
  split at h <;> split at h <;> (try split at h) <;> (try split at h) <;> omega
theorem sw_ne (h1 : a ≠ b) (h2 : a ≠ g) : sw b g a = a := by
  unfold sw
  rw [if_neg h1, if_neg h2]
theorem kempe (P : Pr E m c) (hE : ∀ i < m, (ed E i).1 ∈ rgI n ∧ (ed E i).2 ∈ rgI n) (hl : ∀ i < m, (ed E i).1 ≠ (ed E i).2) (hv : v ∈ rgI n) (fv : Fr E m c v b) (fu : Fr E m c u g) (fw : Fr E m c w g) (vu : v ≠ u) (vw : v ≠ w) (uw : u ≠ w) : ∃ c' : Nat → Int, Pr E m c' ∧ (∀ i < m, c i ≠ b → c i ≠ g → c' i = c i) ∧ (∀ i < m, c' i = c i ∨ c' i = b ∨ c' i = g) ∧ (∀ x a, a ≠ b → a ≠ g → Fr E m c x a → Fr E m c' x a) ∧ Fr E m c' v g ∧ (Fr E m c' u g ∨ Fr E m c' w g) := by
  obtain ⟨V, F, T, C⟩ := grow (E := E) (m := m) (c := c) (b := b) (g := g) (v := v) hE n [v] [] ⟨by simp, by simp, rfl, by simp, fun x hx => by rw [List.mem_singleton.mp hx]; exact hv, fun i hi => by cases hi⟩ (by simp)
  refine ⟨fun i => if (ed E i).1 ∈ V then sw b g (c i) else c i, ?_⟩
  have at_ : ∀ i x, i < m → inc x (ed E i) = true → (if (ed E i).1 ∈ V then sw b g (c i) else c i) = if x ∈ V then sw b g (c i) else c i := fun i x hi hx => by
    by_cases q : c i = b ∨ c i = g
    · have cl := C i hi q
      have : (ed E i).1 ∈ V ↔ x ∈ V := by
        rcases inc_iff.mp hx with e | e
        · rw [e]
        · rw [e]; exact cl
      simp only [this]
    · have e : sw b g (c i) = c i := sw_ne (fun z => q (.inl z)) fun z => q (.inr z)
      rw [e, ite_self, ite_self]
  have out : ∀ {x a}, x ∉ V → Fr E m c x a → Fr E m (fun i => if (ed E i).1 ∈ V then sw b g (c i) else c i) x a := fun {x a} nx f i hi hx => by
    show (if (ed E i).1 ∈ V then sw b g (c i) else c i) ≠ a
    rw [at_ i x hi hx, if_neg nx]
    exact f i hi hx
  refine ⟨?_, ?_, ?_, ?_, ?_, ?_⟩
  · intro i j x hi hj xi xj e
    have e : (if (ed E i).1 ∈ V then sw b g (c i) else c i) = if (ed E j).1 ∈ V then sw b g (c j) else c j := e
    rw [at_ i x hi xi, at_ j x hj xj] at e
    refine P i j x hi hj xi xj ?_
    split at e
    · exact sw_inj e
    · exact e
  · intro i hi n1 n2
    show (if (ed E i).1 ∈ V then sw b g (c i) else c i) = c i
    rw [sw_ne n1 n2, ite_self]
  · intro i hi
    show (if (ed E i).1 ∈ V then sw b g (c i) else c i) = c i ∨ (if (ed E i).1 ∈ V then sw b g (c i) else c i) = b ∨ (if (ed E i).1 ∈ V then sw b g (c i) else c i) = g
    split
    · unfold sw
      split
      · exact .inr (.inr rfl)
      · split
        · exact .inr (.inl rfl)
        · exact .inl rfl
    · exact .inl rfl
  · intro x a ab ag f i hi hx
    show (if (ed E i).1 ∈ V then sw b g (c i) else c i) ≠ a
    rw [at_ i x hi hx]
    have := f i hi hx
    split
    · intro z
      rw [← sw_ne (b := b) (g := g) ab ag] at z
      exact this (sw_inj z)
    · exact this
  · intro i hi hx
    show (if (ed E i).1 ∈ V then sw b g (c i) else c i) ≠ g
    rw [at_ i v hi hx, if_pos T.mem]
    intro z
    have e : sw b g b = g := if_pos rfl
    rw [← e] at z
    rw [e] at z
    exact fv i hi hx (sw_inj (z.trans e.symm))
  · by_cases q : u ∈ V
    · right
      exact out (fun mw => not3 T P hl fv fu fw vu vw uw q mw) fw
    · exact .inl (out q fu)
def dg (E : List P2) (m : Nat) (x : Int) : Nat := ((List.range m).filter fun i => inc x (ed E i)).length
theorem dg_succ : dg E (m + 1) x = dg E m x + if inc x (ed E m) = true then 1 else 0 := by
  unfold dg
  rw [List.range_succ, List.filter_append, List.length_append]
  congr 1
  rw [List.filter_cons]
  split <;> rfl
open Classical in
noncomputable def frs (E : List P2) (m : Nat) (c : Nat → Int) (k : Nat) (x : Int) : List Int := (rgI k).filter fun a => decide (Fr E m c x a)
open Classical in
theorem mem_frs : a ∈ frs E m c k x ↔ a ∈ rgI k ∧ Fr E m c x a := by
  unfold frs
  rw [List.mem_filter, decide_eq_true_eq]
open Classical in
theorem frs_nd : (frs E m c k x).Nodup := by
  unfold frs
  exact (rg_nd k).sublist List.filter_sublist
theorem fil_not {α : Type} (p : α → Bool) : ∀ l : List α, (l.filter p).length + (l.filter fun x => !p x).length = l.length
  | [] => rfl
  | x :: l => by
    have ih := fil_not p l
    rw [List.filter_cons, List.filter_cons]
    cases p x <;> simp <;> omega
open Classical in
theorem frs_len : k ≤ (frs E m c k x).length + dg E m x := by
  have s := fil_not (fun a => decide (Fr E m c x a)) (rgI k)
  rw [rgI_len] at s
  have e : ((rgI k).filter fun a => decide (Fr E m c x a)) = frs E m c k x := rfl
  rw [e] at s
  have le : ((rgI k).filter fun a => !decide (Fr E m c x a)).length ≤ dg E m x := by
    have := nd_le (l := (rgI k).filter fun a => !decide (Fr E m c x a)) (u := ((List.range m).filter fun i => inc x (ed E i)).map c) ((rg_nd k).sublist List.filter_sublist) fun a ha => by
      obtain ⟨_, h2⟩ := List.mem_filter.mp ha
      rw [Bool.not_eq_true', decide_eq_false_iff_not] at h2
      have : ∃ i, i < m ∧ inc x (ed E i) = true ∧ c i = a := Classical.byContradiction fun z => h2 fun i hi hx e => z ⟨i, hi, hx, e⟩
      obtain ⟨i, hi, hx, e⟩ := this
      exact List.mem_map.mpr ⟨i, List.mem_filter.mpr ⟨List.mem_range.mpr hi, hx⟩, e⟩
    rw [List.length_map] at this
    exact this
  omega
def Col (E : List P2) (m k : Nat) (c : Nat → Int) : Prop := Pr E m c ∧ ∀ i < m, c i ∈ rgI k
theorem put (C : Col E m k c) (ha : a ∈ rgI k) (f1 : Fr E m c (ed E m).1 a) (f2 : Fr E m c (ed E m).2 a) : Col E (m + 1) k fun i => if i = m then a else c i := by
  have fr : ∀ x, inc x (ed E m) = true → Fr E m c x a := fun x hx => by
    rcases inc_iff.mp hx with e | e <;> rw [e]
    · exact f1
    · exact f2
  refine ⟨fun i j x hi hj xi xj e => ?_, fun i hi => ?_⟩
  · have e : (if i = m then a else c i) = if j = m then a else c j := e
    by_cases qi : i = m
    · by_cases qj : j = m
      · rw [qi, qj]
      · rw [if_pos qi, if_neg qj] at e
        exact absurd e.symm (fr x (qi ▸ xi) j (by omega) xj)
    · by_cases qj : j = m
      · rw [if_neg qi, if_pos qj] at e
        exact absurd e (fr x (qj ▸ xj) i (by omega) xi)
      · rw [if_neg qi, if_neg qj] at e
        exact C.1 i j x (by omega) (by omega) xi xj e
  · show (if i = m then a else c i) ∈ rgI k
    split
    · exact ha
    · exact C.2 i (by omega)
theorem renew {f : Nat} (C : Col E m k c) (hf : f < m) (ha : a ∈ rgI k) (f1 : Fr E m c (ed E f).1 a) (f2 : Fr E m c (ed E f).2 a) : Col E m k (fun i => if i = f then a else c i) ∧ (∀ x, inc x (ed E f) = true → Fr E m (fun i => if i = f then a else c i) x (c f)) ∧ ∀ x g, g ≠ a → Fr E m c x g → Fr E m (fun i => if i = f then a else c i) x g := by
  have fr : ∀ x, inc x (ed E f) = true → Fr E m c x a := fun x hx => by
    rcases inc_iff.mp hx with e | e <;> rw [e]
    · exact f1
    · exact f2
  refine ⟨⟨fun i j x hi hj xi xj e => ?_, fun i hi => ?_⟩, fun x hx i hi xi => ?_, fun x g ga fg i hi xi => ?_⟩
  · have e : (if i = f then a else c i) = if j = f then a else c j := e
    by_cases qi : i = f
    · by_cases qj : j = f
      · rw [qi, qj]
      · rw [if_pos qi, if_neg qj] at e
        exact absurd e.symm (fr x (qi ▸ xi) j hj xj)
    · by_cases qj : j = f
      · rw [if_neg qi, if_pos qj] at e
        exact absurd e (fr x (qj ▸ xj) i hi xi)
      · rw [if_neg qi, if_neg qj] at e
        exact C.1 i j x hi hj xi xj e
  · show (if i = f then a else c i) ∈ rgI k
    split
    · exact ha
    · exact C.2 i hi
  · show (if i = f then a else c i) ≠ c f
    split
    · exact fun z => fr x hx f hf hx z.symm
    · rename_i q
      exact fun z => q (C.1 i f x hi hf xi hx z)
  · show (if i = f then a else c i) ≠ g
    split
    · exact fun z => ga z.symm
    · exact fg i hi xi
theorem more {Δ : Nat} (hk : 3 * Δ ≤ 2 * k + 1) (hE : ∀ i < m + 1, (ed E i).1 ∈ rgI n ∧ (ed E i).2 ∈ rgI n) (hl : ∀ i < m + 1, (ed E i).1 ≠ (ed E i).2) (hd : ∀ x, dg E (m + 1) x ≤ Δ) (C : Col E m k c) : ∃ c', Col E (m + 1) k c' := by
  obtain ⟨u, eu⟩ : ∃ u, u = (ed E m).1 := ⟨_, rfl⟩
  obtain ⟨v, ev⟩ : ∃ v, v = (ed E m).2 := ⟨_, rfl⟩
  have uv : u ≠ v := by rw [eu, ev]; exact hl m (by omega)
  have iu : inc u (ed E m) = true := inc_iff.mpr (.inl eu)
  have iv : inc v (ed E m) = true := inc_iff.mpr (.inr ev)
  have du := hd u
  have dv := hd v
  rw [dg_succ, if_pos iu] at du
  rw [dg_succ, if_pos iv] at dv
  have lu := frs_len (E := E) (m := m) (c := c) (k := k) (x := u)
  have lv := frs_len (E := E) (m := m) (c := c) (k := k) (x := v)
  by_cases q1 : ∃ a, a ∈ frs E m c k u ∧ a ∈ frs E m c k v
  · obtain ⟨a, a1, a2⟩ := q1
    obtain ⟨r1, f1⟩ := mem_frs.mp a1
    obtain ⟨_, f2⟩ := mem_frs.mp a2
    exact ⟨_, put C r1 (eu ▸ f1) (ev ▸ f2)⟩
  obtain ⟨a, ha⟩ : ∃ a, a ∈ frs E m c k u := List.exists_mem_of_length_pos (by omega)
  obtain ⟨b, hb⟩ : ∃ b, b ∈ frs E m c k v := List.exists_mem_of_length_pos (by omega)
  obtain ⟨ra, fa⟩ := mem_frs.mp ha
  obtain ⟨rb, fb⟩ := mem_frs.mp hb
  have na : ¬Fr E m c v a := fun z => q1 ⟨a, ha, mem_frs.mpr ⟨ra, z⟩⟩
  obtain ⟨f, hf, xf, cf⟩ : ∃ f, f < m ∧ inc v (ed E f) = true ∧ c f = a := Classical.byContradiction fun z => na fun i hi hx e => z ⟨i, hi, hx, e⟩
  obtain ⟨w, wv, xw, ef⟩ : ∃ w, w ≠ v ∧ inc w (ed E f) = true ∧ ∀ x, inc x (ed E f) = true → x = v ∨ x = w := by
    have ne := hl f (by omega)
    rcases inc_iff.mp xf with e | e
    · exact ⟨(ed E f).2, fun z => ne (e.symm.trans z.symm), inc_iff.mpr (.inr rfl), fun x hx => by
        rcases inc_iff.mp hx with y | y
        · exact .inl (y.trans e.symm)
        · exact .inr y⟩
    · exact ⟨(ed E f).1, fun z => ne (z.trans e), inc_iff.mpr (.inl rfl), fun x hx => by
        rcases inc_iff.mp hx with y | y
        · exact .inr y
        · exact .inl (y.trans e.symm)⟩
  have uw : u ≠ w := fun z => fa f hf (z ▸ xw) cf
  have lw := frs_len (E := E) (m := m) (c := c) (k := k) (x := w)
  have dw := hd w
  rw [dg_succ] at dw
  have ends : ∀ {c' : Nat → Int} {g : Int}, Fr E m c' v g → Fr E m c' w g → Fr E m c' (ed E f).1 g ∧ Fr E m c' (ed E f).2 g := fun {c' g} h1 h2 => by
    constructor
    · rcases ef _ (inc_iff.mpr (.inl rfl)) with e | e <;> rw [e] <;> assumption
    · rcases ef _ (inc_iff.mpr (.inr rfl)) with e | e <;> rw [e] <;> assumption
  have fin : ∀ {c' : Nat → Int} {g : Int}, Col E m k c' → g ∈ rgI k → c' f = a → g ≠ a → Fr E m c' v g → Fr E m c' w g → Fr E m c' u a → ∃ c', Col E (m + 1) k c' := fun {c' g} C' rg cf' ga f1 f2 f3 => by
    obtain ⟨e1, e2⟩ := ends f1 f2
    obtain ⟨C2, n1, n2⟩ := renew C' hf rg e1 e2
    have z1 := n1 v xf
    rw [cf'] at z1
    exact ⟨_, put C2 ra (eu ▸ n2 u a (fun z => ga z.symm) f3) (ev ▸ z1)⟩
  by_cases q2 : ∃ g, g ∈ frs E m c k v ∧ g ∈ frs E m c k w
  · obtain ⟨g, g1, g2⟩ := q2
    obtain ⟨rg, h1⟩ := mem_frs.mp g1
    obtain ⟨_, h2⟩ := mem_frs.mp g2
    exact fin C rg cf (fun z => h1 f hf xf (cf.trans z.symm)) h1 h2 fa
  by_cases q3 : ∃ g, g ∈ frs E m c k u ∧ g ∈ frs E m c k w
  · obtain ⟨g, g1, g2⟩ := q3
    obtain ⟨rg, h1⟩ := mem_frs.mp g1
    obtain ⟨_, h2⟩ := mem_frs.mp g2
    obtain ⟨c', P', keep, vals, frees, k1, k2⟩ := kempe (n := n) C.1 (fun i hi => hE i (by omega)) (fun i hi => hl i (by omega)) (ev ▸ (hE m (by omega)).2 : v ∈ rgI n) fb h1 h2 uv.symm wv.symm uw
    have C' : Col E m k c' := ⟨P', fun i hi => by
      rcases vals i hi with e | e | e <;> rw [e]
      · exact C.2 i hi
      · exact rb
      · exact rg⟩
    rcases k2 with k2 | k2
    · exact ⟨_, put C' rg (eu ▸ k2) (ev ▸ k1)⟩
    · have ab : a ≠ b := fun z => fb f hf xf (cf.trans z)
      have ag : a ≠ g := fun z => h2 f hf xw (cf.trans z)
      exact fin C' rg ((keep f hf (by rw [cf]; exact ab) (by rw [cf]; exact ag)).trans cf) ag.symm k1 k2 (frees u a ab ag fa)
  · exfalso
    have nd : (frs E m c k u ++ (frs E m c k v ++ frs E m c k w)).Nodup := by
      refine List.nodup_append.mpr ⟨frs_nd, List.nodup_append.mpr ⟨frs_nd, frs_nd, fun x hx y hy e => q2 ⟨x, hx, e ▸ hy⟩⟩, fun x hx y hy e => ?_⟩
      rcases List.mem_append.mp hy with hy | hy
      · exact q1 ⟨x, hx, e ▸ hy⟩
      · exact q3 ⟨x, hx, e ▸ hy⟩
    have := nd_le nd (u := rgI k) fun x hx => by
      rcases List.mem_append.mp hx with hx | hx
      · exact (mem_frs.mp hx).1
      · rcases List.mem_append.mp hx with hx | hx
        · exact (mem_frs.mp hx).1
        · exact (mem_frs.mp hx).1
    rw [List.length_append, List.length_append, rgI_len] at this
    omega
theorem dg_mono (x : Int) : dg E m x ≤ dg E (m + 1) x := by
  rw [dg_succ]
  omega
theorem shannon {Δ : Nat} (hk : 3 * Δ ≤ 2 * k + 1) : ∀ m : Nat, (∀ i < m, (ed E i).1 ∈ rgI n ∧ (ed E i).2 ∈ rgI n) → (∀ i < m, (ed E i).1 ≠ (ed E i).2) → (∀ x, dg E m x ≤ Δ) → ∃ c, Col E m k c
  | 0, _, _, _ => ⟨fun _ => 0, fun i j x hi => absurd hi (by omega), fun i hi => absurd hi (by omega)⟩
  | m + 1, h1, h2, h3 => by
    obtain ⟨c, C⟩ := shannon hk m (fun i hi => h1 i (by omega)) (fun i hi => h2 i (by omega)) fun x => Nat.le_trans (dg_mono x) (h3 x)
    exact more hk h1 h2 h3 C
end
end VI.Sn
end
section
namespace VI.K28
open PySem PySem.Spec PyProof.Rows L2 VI
def top (i : Nat) : Stmt := PySem.Challenge.pw_copylots_k28_whole_rounds_tried.main.body.getD i (.Pass ⟨0, 0, 0, 0⟩)
def tx : Tx := ⟨["all", "any", "bool", "enumerate", "int", "isinstance", "len", "list", "max", "min", "range", "tuple", "zip"], [("MOST_SERVERS", 8), ("MOST_TRANSFERS", 16), ("MOST_TRIED", 8), ("MOST_PORTS", 8)], [], [], []⟩
abbrev d__law_number : Stmt := top 24
def s__law_number (T : Tb) : SS := (ssCons (ssAsg (sIte (sOp (eqD true) (sVar 0) (sLst false saNil)) (sSl false (sVar 0) soNone (soSome (sK (.int 60)))) (sLst false (saCons (sK (.int 7)) saNil))) (sgName 2))
  (ssCons (ssAsg (sOp (addD false) (sOp ixD (sVar 2) (sOp modD (sVar 1) (sCall lenD (saCons (sVar 2) saNil)))) (sOp (mulD false) (sK (.int 31)) (sOp fdivD (sVar 1) (sCall lenD (saCons (sVar 2) saNil))))) (sgName 3))
  (ssCons (ssAsg (sOp (addD false) (sOp (mulD false) (sOp (addD false) (sOp (addD false) (sOp modD (sCall intD (saCons (sVar 3) saNil)) (sK (.int 1000003))) (sOp (mulD false) (sK (.int 977)) (sVar 1))) (sK (.int 13))) (sK (.int 48271))) (sOp modD (sCall intD (saCons (sOp fdivD (sVar 3) (sK (.int 1000003))) saNil)) (sK (.int 999983)))) (sgName 4))
  (ssCons (ssRet (sOp modD (sOp (mulD false) (sOp modD (sVar 4) (sK (.int 2147483647))) (sK (.int 65537))) (sK (.int 4294967291))))
  ssNil))))
def f__law_number (T : Tb) : List D → Bs → R D := runFn 2 5 (s__law_number T)
theorem b__law_number {Z : Cfg} {X : Cx} {W : WX}  (h : XO Z tx 0 ["_law_script", "_law_at", "_law_cells", "_law_cell", "_law_mixed"] (defScope d__law_number) none X W) : PSs X (defBody d__law_number) (tS' Z.T W (s__law_number Z.T)) :=
  (psv_cons (s_set h (by decide +kernel) rfl (pv_ite (t_cmp C_ne h rfl (v_var (i := 0) h (by decide +kernel)) (pv_lst pav_nil)) (v_sl h (v_var (i := 0) h (by decide +kernel)) pov_none (pov_some pv_int)) (pv_lst (pav_cons rfl pv_int pav_nil))))
  (psv_cons (s_set h (by decide +kernel) rfl (v_add h (v_ix h rfl (v_var (i := 2) h (by decide +kernel)) (v_mod h (v_var (i := 1) h (by decide +kernel)) (v_bf B_len h (by decide +kernel) (pav_cons rfl (v_var (i := 2) h (by decide +kernel)) pav_nil)))) (v_mul h pv_int (v_fdiv h (v_var (i := 1) h (by decide +kernel)) (v_bf B_len h (by decide +kernel) (pav_cons rfl (v_var (i := 2) h (by decide +kernel)) pav_nil))))))
  (psv_cons (s_set h (by decide +kernel) rfl (v_add h (v_mul h (v_add h (v_add h (v_mod h (v_bt B_int h (by decide +kernel) (pav_cons rfl (v_var (i := 3) h (by decide +kernel)) pav_nil)) pv_int) (v_mul h pv_int (v_var (i := 1) h (by decide +kernel)))) pv_int) pv_int) (v_mod h (v_bt B_int h (by decide +kernel) (pav_cons rfl (v_fdiv h (v_var (i := 3) h (by decide +kernel)) pv_int) pav_nil)) pv_int)))
  (psv_cons (psv_ret (v_mod h (v_mul h (v_mod h (v_var (i := 4) h (by decide +kernel)) pv_int) pv_int) pv_int))
  psv_nil))))
theorem g__law_number {Z : Cfg} (z : Z.Ok tx) (D : DefAt Z "_law_number" d__law_number)  : FnG Z "_law_number" 1 (f__law_number Z.T) :=
  fn_of (k := 0) (N := ["_law_script", "_law_at", "_law_cells", "_law_cell", "_law_mixed"]) (ps := ["_law_script", "_law_at"]) z D ⟨rfl, rfl, rfl, by decide +kernel, rfl, by decide +kernel, by decide +kernel⟩ (fun _ _ _ _ _ _ us hl => match us, hl with | [_, _], _ => rfl) fun X W h => b__law_number  h
abbrev d__law_transfers : Stmt := top 25
def l1__law_transfers (T : Tb) : SS := (ssCons (ssAsg (sOp modD (sCall intD (saCons (sCall (f__law_number T) (saCons (sVar 0) (saCons (sOp (addD false) (sOp (addD false) (sVar 1) (sK (.int 1))) (sOp (mulD false) (sK (.int 2)) (sVar 5))) saNil))) saNil)) (sVar 2)) (sgName 6))
  (ssCons (ssAsg (sOp modD (sOp (addD false) (sOp (addD false) (sVar 6) (sK (.int 1))) (sOp modD (sCall intD (saCons (sCall (f__law_number T) (saCons (sVar 0) (saCons (sOp (addD false) (sOp (addD false) (sVar 1) (sK (.int 2))) (sOp (mulD false) (sK (.int 2)) (sVar 5))) saNil))) saNil)) (sOp subD (sVar 2) (sK (.int 1))))) (sVar 2)) (sgName 7))
  (ssCons (ssExpr (sBm appD (sVar 4) (saCons (sTup (saCons (sVar 6) (saCons (sVar 7) saNil))) saNil)))
  ssNil)))
def s__law_transfers (T : Tb) : SS := (ssCons (ssAsg (sLst true saNil) (sgName 4))
  (ssCons (ssFor (siArg itRng1 (saCons (sOp modD (sCall intD (saCons (sCall (f__law_number T) (saCons (sVar 0) (saCons (sVar 1) saNil))) saNil)) (sOp (addD false) (sVar 3) (sK (.int 1)))) saNil)) (sgName 5)
  (l1__law_transfers T))
  (ssCons (ssRet (sVar 4))
  ssNil)))
def f__law_transfers (T : Tb) : List D → Bs → R D := runFn 4 8 (s__law_transfers T)
theorem b__law_transfers {Z : Cfg} {X : Cx} {W : WX} (G__law_number : FnG Z "_law_number" 1 (f__law_number Z.T)) (h : XO Z tx 1 ["_law_script", "_law_at", "_law_servers", "_law_most", "_law_found", "_law_row", "_law_sender", "_law_receiver"] (defScope d__law_transfers) none X W) : PSs X (defBody d__law_transfers) (tS' Z.T W (s__law_transfers Z.T)) :=
  (psv_cons (s_set h (by decide +kernel) rfl (pv_lst pav_nil))
  (psv_cons (s_for (own := [5]) h rfl (i_rng1 h (by decide +kernel) (pav_cons rfl (v_mod h (v_bt B_int h (by decide +kernel) (pav_cons rfl (v_call h G__law_number rfl (by decide +kernel) rfl (pav_cons rfl (v_var (i := 0) h (by decide +kernel)) (pav_cons rfl (v_var (i := 1) h (by decide +kernel)) pav_nil))) pav_nil)) (v_add h (v_var (i := 3) h (by decide +kernel)) pv_int)) pav_nil)) (g_name h (by decide +kernel) rfl)
  (psv_cons (s_set h (by decide +kernel) rfl (v_mod h (v_bt B_int h (by decide +kernel) (pav_cons rfl (v_call h G__law_number rfl (by decide +kernel) rfl (pav_cons rfl (v_var (i := 0) h (by decide +kernel)) (pav_cons rfl (v_add h (v_add h (v_var (i := 1) h (by decide +kernel)) pv_int) (v_mul h pv_int (v_var (i := 5) h (by decide +kernel)))) pav_nil))) pav_nil)) (v_var (i := 2) h (by decide +kernel))))
  (psv_cons (s_set h (by decide +kernel) rfl (v_mod h (v_add h (v_add h (v_var (i := 6) h (by decide +kernel)) pv_int) (v_mod h (v_bt B_int h (by decide +kernel) (pav_cons rfl (v_call h G__law_number rfl (by decide +kernel) rfl (pav_cons rfl (v_var (i := 0) h (by decide +kernel)) (pav_cons rfl (v_add h (v_add h (v_var (i := 1) h (by decide +kernel)) pv_int) (v_mul h pv_int (v_var (i := 5) h (by decide +kernel)))) pav_nil))) pav_nil)) (v_sub h (v_var (i := 2) h (by decide +kernel)) pv_int))) (v_var (i := 2) h (by decide +kernel))))
  (psv_cons (psv_expr rfl (v_bm M_append h (by decide +kernel) (v_var (i := 4) h (by decide +kernel)) (pav_cons rfl (pv_tup (pav_cons rfl (v_var (i := 6) h (by decide +kernel)) (pav_cons rfl (v_var (i := 7) h (by decide +kernel)) pav_nil))) pav_nil)))
  psv_nil))))
  (psv_cons (psv_ret (v_var (i := 4) h (by decide +kernel)))
  psv_nil)))
theorem g__law_transfers {Z : Cfg} (z : Z.Ok tx) (D : DefAt Z "_law_transfers" d__law_transfers) (G__law_number : FnG Z "_law_number" 1 (f__law_number Z.T)) : FnG Z "_law_transfers" 2 (f__law_transfers Z.T) :=
  fn_of (k := 1) (N := ["_law_script", "_law_at", "_law_servers", "_law_most", "_law_found", "_law_row", "_law_sender", "_law_receiver"]) (ps := ["_law_script", "_law_at", "_law_servers", "_law_most"]) z D ⟨rfl, rfl, rfl, by decide +kernel, rfl, by decide +kernel, by decide +kernel⟩ (fun _ _ _ _ _ _ us hl => match us, hl with | [_, _, _, _], _ => rfl) fun X W h => b__law_transfers G__law_number h
abbrev d__law_done : Stmt := top 28
def l1__law_done (T : Tb) (rec : List D → Bs → R D) : SS := (ssCons (ssAsg (sOp (addD false) (sVar 3) (sLst false (saCons (sVar 6) saNil))) (sgName 7))
  (ssCons (ssAsg (sOp ixD (sVar 1) (sVar 5)) (sgTup 2 (sgCons (sgName 8) (sgCons (sgName 9) sgNil))))
  (ssCons (ssLkL 7 (ssLkL 1 (ssAsg (sLc false [12, 13] (siArg itZipY (saCons (sVar 1) (saCons (sVar 7) saNil))) (sgTup 2 (sgCons (sgName 12) (sgCons (sgName 13) sgNil))) (sTru (sOp (eqD false) (sVar 13) (sVar 6))) (sVar 12)) (sgName 10))))
  (ssCons (ssAsg (sLc false [14] (siSeq (sTup (saCons (sVar 8) (saCons (sVar 9) saNil)))) (sgName 14) (fun _ h => .ok true h) (sOp leS (sCall lenD (saCons (sLc false [12] (siSeq (sVar 10)) (sgName 12) (sTru (sOp (inD false) (sVar 14) (sVar 12))) (sVar 12)) saNil)) (sOp ixD (sVar 2) (sVar 14)))) (sgName 11))
  (ssCons (ssIf (sAnd (sOp (eqD false) (sVar 11) (sLst false (saCons (sK (.bl true)) (saCons (sK (.bl true)) saNil)))) (sCall rec (saCons (sVar 0) (saCons (sVar 1) (saCons (sVar 2) (saCons (sVar 7) (saCons (sVar 4) saNil)))))))
  (ssCons (ssRet (sK (.bl true)))
  ssNil)
  ssNil)
  (ssCons (ssIf (sOp (inD true) (sVar 6) (sVar 3))
  (ssCons (ssRet (sK (.bl false)))
  ssNil)
  ssNil)
  ssNil))))))
def s__law_done (T : Tb) (rec : List D → Bs → R D) : SS := (ssCons (ssAsg (sCall lenD (saCons (sVar 3) saNil)) (sgName 5))
  (ssCons (ssIf (sOp (eqD false) (sVar 5) (sCall lenD (saCons (sVar 1) saNil)))
  (ssCons (ssRet (sK (.bl true)))
  ssNil)
  ssNil)
  (ssCons (ssFor (siArg itRng1 (saCons (sVar 4) saNil)) (sgName 6)
  (l1__law_done T rec))
  (ssCons (ssRet (sK (.bl false)))
  ssNil))))
def f__law_done (T : Tb) : Nat → List D → Bs → R D
  | 0 => runFn 5 15 (fun _ _ => .no)
  | n + 1 => runFn 5 15 (s__law_done T (f__law_done T n))
theorem b__law_done {Z : Cfg} {X : Cx} {W : WX} {j kk : Nat} {rec : List D → Bs → R D}  (G_rec : FnG Z "_law_done" j rec) (hrec : Nat.ble j kk = true) (hk : 0 ≤ kk) (h : XO Z tx kk ["_law_servers", "_law_transfers_here", "_law_ports", "_law_rounds", "_law_many", "_law_at", "_law_late", "_law_more", "_law_sender", "_law_receiver", "_law_now", "_law_busy", "_law_pair", "_law_one", "_law_server"] (defScope d__law_done) none X W) : PSs X (defBody d__law_done) (tS' Z.T W (s__law_done Z.T rec)) :=
  (psv_cons (s_set h (by decide +kernel) rfl (v_bf B_len h (by decide +kernel) (pav_cons rfl (v_var (i := 3) h (by decide +kernel)) pav_nil)))
  (psv_cons (psv_if (t_cmp C_eq h rfl (v_var (i := 5) h (by decide +kernel)) (v_bf B_len h (by decide +kernel) (pav_cons rfl (v_var (i := 1) h (by decide +kernel)) pav_nil)))
  (psv_cons (psv_ret pv_bl)
  psv_nil)
  psv_nil)
  (psv_cons (s_for (own := [6]) h rfl (i_rng1 h (by decide +kernel) (pav_cons rfl (v_var (i := 4) h (by decide +kernel)) pav_nil)) (g_name h (by decide +kernel) rfl)
  (psv_cons (s_set h (by decide +kernel) rfl (v_add h (v_var (i := 3) h (by decide +kernel)) (pv_lst (pav_cons rfl (v_var (i := 6) h (by decide +kernel)) pav_nil))))
  (psv_cons (s_asg (own := [8, 9]) h rfl (v_ix h rfl (v_var (i := 1) h (by decide +kernel)) (v_var (i := 5) h (by decide +kernel))) (g_tup h rfl (pgsv_cons rfl (g_name h (by decide +kernel) rfl) (pgsv_cons rfl (g_name h (by decide +kernel) rfl) pgsv_nil))))
  (psv_cons (psv_lkL 7 (psv_lkL 1 (s_setLcN h (by decide +kernel) (by decide +kernel) (v_lc (own := [("_law_pair", 12), ("_law_one", 13)]) h (by decide +kernel) (i_zipY h (by decide +kernel) (pav_cons rfl (v_var (i := 1) h (by decide +kernel)) (pav_cons rfl (v_var (i := 7) h (by decide +kernel)) pav_nil))) (fun _ h1 => ⟨(g_tup h1 rfl (pgsv_cons rfl (g_name h1 (by decide +kernel) rfl) (pgsv_cons rfl (g_name h1 (by decide +kernel) rfl) pgsv_nil))), (ptv_one (t_cmp C_eq h1 rfl (v_var (i := 13) h1 (by decide +kernel)) (v_var (i := 6) h1 (by decide +kernel)))), (v_var (i := 12) h1 (by decide +kernel))⟩)))))
  (psv_cons (s_setLc (own := [("_law_server", 14)]) h (by decide +kernel) (by decide +kernel) (i_seq h (pv_tup (pav_cons rfl (v_var (i := 8) h (by decide +kernel)) (pav_cons rfl (v_var (i := 9) h (by decide +kernel)) pav_nil)))) (fun _ h1 => ⟨(g_name h1 (by decide +kernel) rfl), ptv_nil, (v_cmp C_leS h1 rfl (v_bf B_len h1 (by decide +kernel) (pav_cons rfl (v_lc (own := [("_law_pair", 12)]) h1 (by decide +kernel) (i_seq h1 (v_var (i := 10) h1 (by decide +kernel))) (fun _ h2 => ⟨(g_name h2 (by decide +kernel) rfl), (ptv_one (t_cmp C_in h2 rfl (v_var (i := 14) h2 (by decide +kernel)) (v_var (i := 12) h2 (by decide +kernel)))), (v_var (i := 12) h2 (by decide +kernel))⟩)) pav_nil)) (v_ix h1 rfl (v_var (i := 2) h1 (by decide +kernel)) (v_var (i := 14) h1 (by decide +kernel))))⟩))
  (psv_cons (psv_if (PW.pt (pvt_and (t_cmp C_eq h rfl (v_var (i := 11) h (by decide +kernel)) (pv_lst (pav_cons rfl pv_bl (pav_cons rfl pv_bl pav_nil)))) (pvt_and1 (pvt_val rfl (v_call h G_rec hrec (by decide +kernel) rfl (pav_cons rfl (v_var (i := 0) h (by decide +kernel)) (pav_cons rfl (v_var (i := 1) h (by decide +kernel)) (pav_cons rfl (v_var (i := 2) h (by decide +kernel)) (pav_cons rfl (v_var (i := 7) h (by decide +kernel)) (pav_cons rfl (v_var (i := 4) h (by decide +kernel)) pav_nil))))))))))
  (psv_cons (psv_ret pv_bl)
  psv_nil)
  psv_nil)
  (psv_cons (psv_if (t_cmp C_notIn h rfl (v_var (i := 6) h (by decide +kernel)) (v_var (i := 3) h (by decide +kernel)))
  (psv_cons (psv_ret pv_bl)
  psv_nil)
  psv_nil)
  psv_nil)))))))
  (psv_cons (psv_ret pv_bl)
  psv_nil))))
theorem g__law_done {Z : Cfg} (z : Z.Ok tx) (D : DefAt Z "_law_done" d__law_done)  : ∀ n, FnG Z "_law_done" (0 + n + 1) (f__law_done Z.T n)
  | 0 => fn_of (k := 0) (N := ["_law_servers", "_law_transfers_here", "_law_ports", "_law_rounds", "_law_many", "_law_at", "_law_late", "_law_more", "_law_sender", "_law_receiver", "_law_now", "_law_busy", "_law_pair", "_law_one", "_law_server"]) (ps := ["_law_servers", "_law_transfers_here", "_law_ports", "_law_rounds", "_law_many"]) z D ⟨rfl, rfl, rfl, by decide +kernel, rfl, by decide +kernel, by decide +kernel⟩ (fun _ _ _ _ _ _ us hl => match us, hl with | [_, _, _, _, _], _ => rfl) fun X W h => pss_never
  | n + 1 => fn_of (k := 0 + n + 1) (N := ["_law_servers", "_law_transfers_here", "_law_ports", "_law_rounds", "_law_many", "_law_at", "_law_late", "_law_more", "_law_sender", "_law_receiver", "_law_now", "_law_busy", "_law_pair", "_law_one", "_law_server"]) (ps := ["_law_servers", "_law_transfers_here", "_law_ports", "_law_rounds", "_law_many"]) z D ⟨rfl, rfl, rfl, by decide +kernel, rfl, by decide +kernel, by decide +kernel⟩ (fun _ _ _ _ _ _ us hl => match us, hl with | [_, _, _, _, _], _ => rfl) fun X W h => b__law_done  (g__law_done z D  n) (Nat.ble_eq_true_of_le (Nat.le_refl _)) (by omega) h
abbrev d_is_number : Stmt := top 9
def s_is_number (T : Tb) : SS := (ssCons (ssRet (sAnd (sUn (isiD T 2) (sVar 0)) (sAnd (sNot (sUn (isiD T 1) (sVar 0))) (sChn leS leS (sVar 1) (sVar 0) (sVar 2)))))
  ssNil)
def f_is_number (T : Tb) : List D → Bs → R D := runFn 3 3 (s_is_number T)
theorem b_is_number {Z : Cfg} {X : Cx} {W : WX}  (h : XO Z tx 0 ["thing", "least", "most"] (defScope d_is_number) none X W) : PSs X (defBody d_is_number) (tS' Z.T W (s_is_number Z.T)) :=
  (psv_cons (psv_ret (pv_and (v_isi h (by decide +kernel) (N_int h (by decide +kernel)) (v_var (i := 0) h (by decide +kernel))) (pv_and (pv_not (v_isi h (by decide +kernel) (N_bool h (by decide +kernel)) (v_var (i := 0) h (by decide +kernel)))) (pv_one (v_chn C_leS C_leS h rfl (v_var (i := 1) h (by decide +kernel)) (v_var (i := 0) h (by decide +kernel)) (v_var (i := 2) h (by decide +kernel)))))))
  psv_nil)
theorem g_is_number {Z : Cfg} (z : Z.Ok tx) (D : DefAt Z "is_number" d_is_number)  : FnG Z "is_number" 1 (f_is_number Z.T) :=
  fn_of (k := 0) (N := ["thing", "least", "most"]) (ps := ["thing", "least", "most"]) z D ⟨rfl, rfl, rfl, by decide +kernel, rfl, by decide +kernel, by decide +kernel⟩ (fun _ _ _ _ _ _ us hl => match us, hl with | [_, _, _], _ => rfl) fun X W h => b_is_number  h
abbrev d_check_transfers : Stmt := top 14
def l1_check_transfers (T : Tb) : SS := (ssCons (ssIf (sOr (sNot (sUn (isiD T 4) (sVar 3))) (sOr (sOp (eqD true) (sCall lenD (saCons (sVar 3) saNil)) (sK (.int 2))) (sNot (sCall allD' (saCons (sLc false [4] (siSeq (sVar 3)) (sgName 4) (fun _ h => .ok true h) (sCall (f_is_number T) (saCons (sVar 4) (saCons (sK (.int 0)) (saCons (sOp subD (sVar 0) (sK (.int 1))) saNil))))) saNil)))))
  (ssCons (fun _ _ => .no)
  ssNil)
  ssNil)
  (ssCons (ssIf (sOp (eqD false) (sOp ixD (sVar 3) (sK (.int 0))) (sOp ixD (sVar 3) (sK (.int 1))))
  (ssCons (fun _ _ => .no)
  ssNil)
  ssNil)
  ssNil))
def s_check_transfers (T : Tb) : SS := (ssCons (ssIf (sNot (sCall (f_is_number T) (saCons (sVar 0) (saCons (sK (.int 1)) (saCons (sK (.int 8)) saNil)))))
  (ssCons (fun _ _ => .no)
  ssNil)
  ssNil)
  (ssCons (ssIf (sOr (sNot (sUn (isiD2 T 5 4) (sVar 1))) (sOp gtS (sCall lenD (saCons (sVar 1) saNil)) (sK (.int 16))))
  (ssCons (fun _ _ => .no)
  ssNil)
  ssNil)
  (ssCons (ssFor (siArg itEnum2 (saCons (sVar 1) saNil)) (sgTup 2 (sgCons (sgName 2) (sgCons (sgName 3) sgNil)))
  (l1_check_transfers T))
  ssNil)))
def f_check_transfers (T : Tb) : List D → Bs → R D := runFn 2 5 (s_check_transfers T)
theorem b_check_transfers {Z : Cfg} {X : Cx} {W : WX} (G_is_number : FnG Z "is_number" 1 (f_is_number Z.T)) (h : XO Z tx 1 ["servers", "transfers", "index", "pair", "one"] (defScope d_check_transfers) none X W) : PSs X (defBody d_check_transfers) (tS' Z.T W (s_check_transfers Z.T)) :=
  (psv_cons (psv_if (pvt_not (pvt_val rfl (v_call h G_is_number rfl (by decide +kernel) rfl (pav_cons rfl (v_var (i := 0) h (by decide +kernel)) (pav_cons rfl pv_int (pav_cons rfl (v_co h (by decide +kernel) rfl) pav_nil))))))
  (psv_cons pvs_never
  psv_nil)
  psv_nil)
  (psv_cons (psv_if (PW.pt (pvt_or (pvt_not (pvt_val rfl (v_isi2 h (by decide +kernel) (N_list h (by decide +kernel)) (N_tuple h (by decide +kernel)) (v_var (i := 1) h (by decide +kernel))))) (pvt_or1 (t_cmp C_gtS h rfl (v_bf B_len h (by decide +kernel) (pav_cons rfl (v_var (i := 1) h (by decide +kernel)) pav_nil)) (v_co h (by decide +kernel) rfl)))))
  (psv_cons pvs_never
  psv_nil)
  psv_nil)
  (psv_cons (s_for (own := [2, 3]) h rfl (i_enum2 h (by decide +kernel) (pav_cons rfl (v_var (i := 1) h (by decide +kernel)) pav_nil)) (g_tup h rfl (pgsv_cons rfl (g_name h (by decide +kernel) rfl) (pgsv_cons rfl (g_name h (by decide +kernel) rfl) pgsv_nil)))
  (psv_cons (psv_if (PW.pt (pvt_or (pvt_not (pvt_val rfl (v_isi h (by decide +kernel) (N_tuple h (by decide +kernel)) (v_var (i := 3) h (by decide +kernel))))) (pvt_or (t_cmp C_ne h rfl (v_bf B_len h (by decide +kernel) (pav_cons rfl (v_var (i := 3) h (by decide +kernel)) pav_nil)) pv_int) (pvt_or1 (pvt_not (pvt_val rfl (v_bf B_all h (by decide +kernel) (pav_cons rfl (v_lc (own := [("one", 4)]) h (by decide +kernel) (i_seq h (v_var (i := 3) h (by decide +kernel))) (fun _ h1 => ⟨(g_name h1 (by decide +kernel) rfl), ptv_nil, (v_call h1 G_is_number rfl (by decide +kernel) rfl (pav_cons rfl (v_var (i := 4) h1 (by decide +kernel)) (pav_cons rfl pv_int (pav_cons rfl (v_sub h1 (v_var (i := 0) h1 (by decide +kernel)) pv_int) pav_nil))))⟩)) pav_nil))))))))
  (psv_cons pvs_never
  psv_nil)
  psv_nil)
  (psv_cons (psv_if (t_cmp C_eq h rfl (v_ix h rfl (v_var (i := 3) h (by decide +kernel)) pv_int) (v_ix h rfl (v_var (i := 3) h (by decide +kernel)) pv_int))
  (psv_cons pvs_never
  psv_nil)
  psv_nil)
  psv_nil)))
  psv_nil)))
theorem g_check_transfers {Z : Cfg} (z : Z.Ok tx) (D : DefAt Z "check_transfers" d_check_transfers) (G_is_number : FnG Z "is_number" 1 (f_is_number Z.T)) : FnG Z "check_transfers" 2 (f_check_transfers Z.T) :=
  fn_of (k := 1) (N := ["servers", "transfers", "index", "pair", "one"]) (ps := ["servers", "transfers"]) z D ⟨rfl, rfl, rfl, by decide +kernel, rfl, by decide +kernel, by decide +kernel⟩ (fun _ _ _ _ _ _ us hl => match us, hl with | [_, _], _ => rfl) fun X W h => b_check_transfers G_is_number h
abbrev d_check_ports : Stmt := top 15
def s_check_ports (T : Tb) : SS := (ssCons (ssIf (sOr (sNot (sUn (isiD T 4) (sVar 1))) (sOp (eqD true) (sCall lenD (saCons (sVar 1) saNil)) (sVar 0)))
  (ssCons (fun _ _ => .no)
  ssNil)
  ssNil)
  (ssCons (ssIf (sNot (sCall allD' (saCons (sLc false [2] (siSeq (sVar 1)) (sgName 2) (fun _ h => .ok true h) (sCall (f_is_number T) (saCons (sVar 2) (saCons (sK (.int 1)) (saCons (sK (.int 8)) saNil))))) saNil)))
  (ssCons (fun _ _ => .no)
  ssNil)
  ssNil)
  ssNil))
def f_check_ports (T : Tb) : List D → Bs → R D := runFn 2 3 (s_check_ports T)
theorem b_check_ports {Z : Cfg} {X : Cx} {W : WX} (G_is_number : FnG Z "is_number" 1 (f_is_number Z.T)) (h : XO Z tx 1 ["servers", "ports", "number"] (defScope d_check_ports) none X W) : PSs X (defBody d_check_ports) (tS' Z.T W (s_check_ports Z.T)) :=
  (psv_cons (psv_if (PW.pt (pvt_or (pvt_not (pvt_val rfl (v_isi h (by decide +kernel) (N_tuple h (by decide +kernel)) (v_var (i := 1) h (by decide +kernel))))) (pvt_or1 (t_cmp C_ne h rfl (v_bf B_len h (by decide +kernel) (pav_cons rfl (v_var (i := 1) h (by decide +kernel)) pav_nil)) (v_var (i := 0) h (by decide +kernel))))))
  (psv_cons pvs_never
  psv_nil)
  psv_nil)
  (psv_cons (psv_if (pvt_not (pvt_val rfl (v_bf B_all h (by decide +kernel) (pav_cons rfl (v_lc (own := [("number", 2)]) h (by decide +kernel) (i_seq h (v_var (i := 1) h (by decide +kernel))) (fun _ h1 => ⟨(g_name h1 (by decide +kernel) rfl), ptv_nil, (v_call h1 G_is_number rfl (by decide +kernel) rfl (pav_cons rfl (v_var (i := 2) h1 (by decide +kernel)) (pav_cons rfl pv_int (pav_cons rfl (v_co h1 (by decide +kernel) rfl) pav_nil))))⟩)) pav_nil))))
  (psv_cons pvs_never
  psv_nil)
  psv_nil)
  psv_nil))
theorem g_check_ports {Z : Cfg} (z : Z.Ok tx) (D : DefAt Z "check_ports" d_check_ports) (G_is_number : FnG Z "is_number" 1 (f_is_number Z.T)) : FnG Z "check_ports" 2 (f_check_ports Z.T) :=
  fn_of (k := 1) (N := ["servers", "ports", "number"]) (ps := ["servers", "ports"]) z D ⟨rfl, rfl, rfl, by decide +kernel, rfl, by decide +kernel, by decide +kernel⟩ (fun _ _ _ _ _ _ us hl => match us, hl with | [_, _], _ => rfl) fun X W h => b_check_ports G_is_number h
abbrev d_degrees_of : Stmt := top 16
def s_degrees_of (T : Tb) : SS := (ssCons (ssRet (sLc false [2] (siArg itRng1 (saCons (sVar 0) saNil)) (sgName 2) (fun _ h => .ok true h) (sCall lenD (saCons (sLc false [3] (siSeq (sVar 1)) (sgName 3) (sTru (sOp (inD false) (sVar 2) (sVar 3))) (sVar 3)) saNil))))
  ssNil)
def f_degrees_of (T : Tb) : List D → Bs → R D := runFn 2 4 (s_degrees_of T)
theorem b_degrees_of {Z : Cfg} {X : Cx} {W : WX}  (h : XO Z tx 0 ["servers", "transfers", "server", "pair"] (defScope d_degrees_of) none X W) : PSs X (defBody d_degrees_of) (tS' Z.T W (s_degrees_of Z.T)) :=
  (psv_cons (psv_ret (v_lc (own := [("server", 2)]) h (by decide +kernel) (i_rng1 h (by decide +kernel) (pav_cons rfl (v_var (i := 0) h (by decide +kernel)) pav_nil)) (fun _ h1 => ⟨(g_name h1 (by decide +kernel) rfl), ptv_nil, (v_bf B_len h1 (by decide +kernel) (pav_cons rfl (v_lc (own := [("pair", 3)]) h1 (by decide +kernel) (i_seq h1 (v_var (i := 1) h1 (by decide +kernel))) (fun _ h2 => ⟨(g_name h2 (by decide +kernel) rfl), (ptv_one (t_cmp C_in h2 rfl (v_var (i := 2) h2 (by decide +kernel)) (v_var (i := 3) h2 (by decide +kernel)))), (v_var (i := 3) h2 (by decide +kernel))⟩)) pav_nil))⟩)))
  psv_nil)
theorem g_degrees_of {Z : Cfg} (z : Z.Ok tx) (D : DefAt Z "degrees_of" d_degrees_of)  : FnG Z "degrees_of" 1 (f_degrees_of Z.T) :=
  fn_of (k := 0) (N := ["servers", "transfers", "server", "pair"]) (ps := ["servers", "transfers"]) z D ⟨rfl, rfl, rfl, by decide +kernel, rfl, by decide +kernel, by decide +kernel⟩ (fun _ _ _ _ _ _ us hl => match us, hl with | [_, _], _ => rfl) fun X W h => b_degrees_of  h
abbrev d_needed : Stmt := top 17
def s_needed (T : Tb) : SS := (ssCons (ssRet (sUn negD (sOp fdivD (sUn negD (sVar 0)) (sVar 1))))
  ssNil)
def f_needed (T : Tb) : List D → Bs → R D := runFn 2 2 (s_needed T)
theorem b_needed {Z : Cfg} {X : Cx} {W : WX}  (h : XO Z tx 0 ["degree", "ports"] (defScope d_needed) none X W) : PSs X (defBody d_needed) (tS' Z.T W (s_needed Z.T)) :=
  (psv_cons (psv_ret (pv_neg (v_fdiv h (pv_neg (v_var (i := 0) h (by decide +kernel))) (v_var (i := 1) h (by decide +kernel)))))
  psv_nil)
theorem g_needed {Z : Cfg} (z : Z.Ok tx) (D : DefAt Z "needed" d_needed)  : FnG Z "needed" 1 (f_needed Z.T) :=
  fn_of (k := 0) (N := ["degree", "ports"]) (ps := ["degree", "ports"]) z D ⟨rfl, rfl, rfl, by decide +kernel, rfl, by decide +kernel, by decide +kernel⟩ (fun _ _ _ _ _ _ us hl => match us, hl with | [_, _], _ => rfl) fun X W h => b_needed  h
abbrev d_fits : Stmt := top 18
def l1_fits (T : Tb) : SS := (ssCons (ssAsg (sCall (f_degrees_of T) (saCons (sVar 0) (saCons (sLc false [6, 7] (siArg itZipX (saCons (sVar 1) (saCons (sVar 3) saNil))) (sgTup 2 (sgCons (sgName 6) (sgCons (sgName 7) sgNil))) (sTru (sOp (eqD false) (sVar 7) (sVar 4))) (sVar 6)) saNil))) (sgName 5))
  (ssCons (ssIf (sCall anyD' (saCons (sLc false [8, 9] (siArg itZipX (saCons (sVar 5) (saCons (sVar 2) saNil))) (sgTup 2 (sgCons (sgName 8) (sgCons (sgName 9) sgNil))) (fun _ h => .ok true h) (sOp gtS (sVar 8) (sVar 9))) saNil))
  (ssCons (ssRet (sK (.bl false)))
  ssNil)
  ssNil)
  ssNil))
def s_fits (T : Tb) : SS := (ssCons (ssFor (siSeq (sVar 3)) (sgName 4)
  (l1_fits T))
  (ssCons (ssRet (sK (.bl true)))
  ssNil))
def f_fits (T : Tb) : List D → Bs → R D := runFn 4 10 (s_fits T)
theorem b_fits {Z : Cfg} {X : Cx} {W : WX} (G_degrees_of : FnG Z "degrees_of" 1 (f_degrees_of Z.T)) (h : XO Z tx 1 ["servers", "transfers", "ports", "rounds", "late", "degrees", "pair", "one", "degree", "number"] (defScope d_fits) none X W) : PSs X (defBody d_fits) (tS' Z.T W (s_fits Z.T)) :=
  (psv_cons (s_for (own := [4]) h rfl (i_seq h (v_var (i := 3) h (by decide +kernel))) (g_name h (by decide +kernel) rfl)
  (psv_cons (s_set h (by decide +kernel) rfl (v_call h G_degrees_of rfl (by decide +kernel) rfl (pav_cons rfl (v_var (i := 0) h (by decide +kernel)) (pav_cons rfl (v_lc (own := [("pair", 6), ("one", 7)]) h (by decide +kernel) (i_zipX h (by decide +kernel) (pav_cons rfl (v_var (i := 1) h (by decide +kernel)) (pav_cons rfl (v_var (i := 3) h (by decide +kernel)) pav_nil))) (fun _ h1 => ⟨(g_tup h1 rfl (pgsv_cons rfl (g_name h1 (by decide +kernel) rfl) (pgsv_cons rfl (g_name h1 (by decide +kernel) rfl) pgsv_nil))), (ptv_one (t_cmp C_eq h1 rfl (v_var (i := 7) h1 (by decide +kernel)) (v_var (i := 4) h1 (by decide +kernel)))), (v_var (i := 6) h1 (by decide +kernel))⟩)) pav_nil))))
  (psv_cons (psv_if (pvt_val rfl (v_bf B_any h (by decide +kernel) (pav_cons rfl (v_lc (own := [("degree", 8), ("number", 9)]) h (by decide +kernel) (i_zipX h (by decide +kernel) (pav_cons rfl (v_var (i := 5) h (by decide +kernel)) (pav_cons rfl (v_var (i := 2) h (by decide +kernel)) pav_nil))) (fun _ h1 => ⟨(g_tup h1 rfl (pgsv_cons rfl (g_name h1 (by decide +kernel) rfl) (pgsv_cons rfl (g_name h1 (by decide +kernel) rfl) pgsv_nil))), ptv_nil, (v_cmp C_gtS h1 rfl (v_var (i := 8) h1 (by decide +kernel)) (v_var (i := 9) h1 (by decide +kernel)))⟩)) pav_nil)))
  (psv_cons (psv_ret pv_bl)
  psv_nil)
  psv_nil)
  psv_nil)))
  (psv_cons (psv_ret pv_bl)
  psv_nil))
theorem g_fits {Z : Cfg} (z : Z.Ok tx) (D : DefAt Z "fits" d_fits) (G_degrees_of : FnG Z "degrees_of" 1 (f_degrees_of Z.T)) : FnG Z "fits" 2 (f_fits Z.T) :=
  fn_of (k := 1) (N := ["servers", "transfers", "ports", "rounds", "late", "degrees", "pair", "one", "degree", "number"]) (ps := ["servers", "transfers", "ports", "rounds"]) z D ⟨rfl, rfl, rfl, by decide +kernel, rfl, by decide +kernel, by decide +kernel⟩ (fun _ _ _ _ _ _ us hl => match us, hl with | [_, _, _, _], _ => rfl) fun X W h => b_fits G_degrees_of h
abbrev d_can_be_done : Stmt := top 21
def l1_can_be_done (T : Tb) (rec : List D → Bs → R D) : SS := (ssCons (ssIf (sCall (f_fits T) (saCons (sVar 0) (saCons (sSl false (sVar 1) soNone (soSome (sOp (addD false) (sCall lenD (saCons (sVar 3) saNil)) (sK (.int 1))))) (saCons (sVar 2) (saCons (sLst false (saStar (sVar 3) (saCons (sVar 5) saNil))) saNil)))))
  (ssCons (ssIf (sCall rec (saCons (sVar 0) (saCons (sVar 1) (saCons (sVar 2) (saCons (sLst false (saStar (sVar 3) (saCons (sVar 5) saNil))) (saCons (sVar 4) saNil))))))
  (ssCons (ssRet (sK (.bl true)))
  ssNil)
  ssNil)
  ssNil)
  ssNil)
  ssNil)
def s_can_be_done (T : Tb) (rec : List D → Bs → R D) : SS := (ssCons (ssIf (sOp (eqD false) (sCall lenD (saCons (sVar 3) saNil)) (sCall lenD (saCons (sVar 1) saNil)))
  (ssCons (ssRet (sK (.bl true)))
  ssNil)
  ssNil)
  (ssCons (ssFor (siArg itRng1 (saCons (sCall minDS (saCons (sVar 4) (saCons (sOp (addD false) (sCall maxD (saCons (sLst false (saCons (sUn negD (sK (.int 1))) (saStar (sVar 3) saNil))) saNil)) (sK (.int 2))) saNil))) saNil)) (sgName 5)
  (l1_can_be_done T rec))
  (ssCons (ssRet (sK (.bl false)))
  ssNil)))
def f_can_be_done (T : Tb) : Nat → List D → Bs → R D
  | 0 => runFn 5 6 (fun _ _ => .no)
  | n + 1 => runFn 5 6 (s_can_be_done T (f_can_be_done T n))
theorem b_can_be_done {Z : Cfg} {X : Cx} {W : WX} {j kk : Nat} {rec : List D → Bs → R D} (G_fits : FnG Z "fits" 2 (f_fits Z.T)) (G_rec : FnG Z "can_be_done" j rec) (hrec : Nat.ble j kk = true) (hk : 2 ≤ kk) (h : XO Z tx kk ["servers", "transfers", "ports", "rounds", "many", "late"] (defScope d_can_be_done) none X W) : PSs X (defBody d_can_be_done) (tS' Z.T W (s_can_be_done Z.T rec)) :=
  (psv_cons (psv_if (t_cmp C_eq h rfl (v_bf B_len h (by decide +kernel) (pav_cons rfl (v_var (i := 3) h (by decide +kernel)) pav_nil)) (v_bf B_len h (by decide +kernel) (pav_cons rfl (v_var (i := 1) h (by decide +kernel)) pav_nil)))
  (psv_cons (psv_ret pv_bl)
  psv_nil)
  psv_nil)
  (psv_cons (s_for (own := [5]) h rfl (i_rng1 h (by decide +kernel) (pav_cons rfl (v_bf B_minS h (by decide +kernel) (pav_cons rfl (v_var (i := 4) h (by decide +kernel)) (pav_cons rfl (v_add h (v_bf B_max h (by decide +kernel) (pav_cons rfl (pv_lst (pav_cons rfl (pv_neg pv_int) (pav_star h.K (v_var (i := 3) h (by decide +kernel)) pav_nil))) pav_nil)) pv_int) pav_nil))) pav_nil)) (g_name h (by decide +kernel) rfl)
  (psv_cons (psv_if (pvt_val rfl (v_call h G_fits (ble_tr 2 hk) (by decide +kernel) rfl (pav_cons rfl (v_var (i := 0) h (by decide +kernel)) (pav_cons rfl (v_sl h (v_var (i := 1) h (by decide +kernel)) pov_none (pov_some (v_add h (v_bf B_len h (by decide +kernel) (pav_cons rfl (v_var (i := 3) h (by decide +kernel)) pav_nil)) pv_int))) (pav_cons rfl (v_var (i := 2) h (by decide +kernel)) (pav_cons rfl (pv_lst (pav_star h.K (v_var (i := 3) h (by decide +kernel)) (pav_cons rfl (v_var (i := 5) h (by decide +kernel)) pav_nil))) pav_nil))))))
  (psv_cons (psv_if (pvt_val rfl (v_call h G_rec hrec (by decide +kernel) rfl (pav_cons rfl (v_var (i := 0) h (by decide +kernel)) (pav_cons rfl (v_var (i := 1) h (by decide +kernel)) (pav_cons rfl (v_var (i := 2) h (by decide +kernel)) (pav_cons rfl (pv_lst (pav_star h.K (v_var (i := 3) h (by decide +kernel)) (pav_cons rfl (v_var (i := 5) h (by decide +kernel)) pav_nil))) (pav_cons rfl (v_var (i := 4) h (by decide +kernel)) pav_nil)))))))
  (psv_cons (psv_ret pv_bl)
  psv_nil)
  psv_nil)
  psv_nil)
  psv_nil)
  psv_nil))
  (psv_cons (psv_ret pv_bl)
  psv_nil)))
theorem g_can_be_done {Z : Cfg} (z : Z.Ok tx) (D : DefAt Z "can_be_done" d_can_be_done) (G_fits : FnG Z "fits" 2 (f_fits Z.T)) : ∀ n, FnG Z "can_be_done" (2 + n + 1) (f_can_be_done Z.T n)
  | 0 => fn_of (k := 2) (N := ["servers", "transfers", "ports", "rounds", "many", "late"]) (ps := ["servers", "transfers", "ports", "rounds", "many"]) z D ⟨rfl, rfl, rfl, by decide +kernel, rfl, by decide +kernel, by decide +kernel⟩ (fun _ _ _ _ _ _ us hl => match us, hl with | [_, _, _, _, _], _ => rfl) fun X W h => pss_never
  | n + 1 => fn_of (k := 2 + n + 1) (N := ["servers", "transfers", "ports", "rounds", "many", "late"]) (ps := ["servers", "transfers", "ports", "rounds", "many"]) z D ⟨rfl, rfl, rfl, by decide +kernel, rfl, by decide +kernel, by decide +kernel⟩ (fun _ _ _ _ _ _ us hl => match us, hl with | [_, _, _, _, _], _ => rfl) fun X W h => b_can_be_done G_fits (g_can_be_done z D G_fits n) (Nat.ble_eq_true_of_le (Nat.le_refl _)) (by omega) h
abbrev d_tried_rounds : Stmt := top 22
def l1_tried_rounds (T : Tb) : SS := (ssCons (ssAug 3 iaddD (sK (.int 1)))
  ssNil)
def s_tried_rounds (T : Tb) : SS := (ssCons (ssExpr (sCall (f_check_transfers T) (saCons (sVar 0) (saCons (sVar 1) saNil))))
  (ssCons (ssExpr (sCall (f_check_ports T) (saCons (sVar 0) (saCons (sVar 2) saNil))))
  (ssCons (ssIf (sOp gtS (sCall lenD (saCons (sVar 1) saNil)) (sK (.int 8)))
  (ssCons (fun _ _ => .no)
  ssNil)
  ssNil)
  (ssCons (ssAsg (sCall maxD (saCons (sLc false [4, 5] (siArg itZipX (saCons (sCall (f_degrees_of T) (saCons (sVar 0) (saCons (sVar 1) saNil))) (saCons (sVar 2) saNil))) (sgTup 2 (sgCons (sgName 4) (sgCons (sgName 5) sgNil))) (fun _ h => .ok true h) (sCall (f_needed T) (saCons (sVar 4) (saCons (sVar 5) saNil)))) saNil)) (sgName 3))
  (ssCons (whileS (sNot (sCall (f_can_be_done T 40) (saCons (sVar 0) (saCons (sVar 1) (saCons (sVar 2) (saCons (sLst false saNil) (saCons (sVar 3) saNil)))))))
  (l1_tried_rounds T) 1000)
  (ssCons (ssRet (sVar 3))
  ssNil))))))
def f_tried_rounds (T : Tb) : List D → Bs → R D := runFn 3 6 (s_tried_rounds T)
theorem b_tried_rounds {Z : Cfg} {X : Cx} {W : WX} (G_check_transfers : FnG Z "check_transfers" 2 (f_check_transfers Z.T)) (G_check_ports : FnG Z "check_ports" 2 (f_check_ports Z.T)) (G_degrees_of : FnG Z "degrees_of" 1 (f_degrees_of Z.T)) (G_needed : FnG Z "needed" 1 (f_needed Z.T)) (G_can_be_done : FnG Z "can_be_done" 43 (f_can_be_done Z.T 40)) (h : XO Z tx 43 ["servers", "transfers", "ports", "many", "degree", "number"] (defScope d_tried_rounds) none X W) : PSs X (defBody d_tried_rounds) (tS' Z.T W (s_tried_rounds Z.T)) :=
  (psv_cons (psv_expr rfl (v_call h G_check_transfers rfl (by decide +kernel) rfl (pav_cons rfl (v_var (i := 0) h (by decide +kernel)) (pav_cons rfl (v_var (i := 1) h (by decide +kernel)) pav_nil))))
  (psv_cons (psv_expr rfl (v_call h G_check_ports rfl (by decide +kernel) rfl (pav_cons rfl (v_var (i := 0) h (by decide +kernel)) (pav_cons rfl (v_var (i := 2) h (by decide +kernel)) pav_nil))))
  (psv_cons (psv_if (t_cmp C_gtS h rfl (v_bf B_len h (by decide +kernel) (pav_cons rfl (v_var (i := 1) h (by decide +kernel)) pav_nil)) (v_co h (by decide +kernel) rfl))
  (psv_cons pvs_never
  psv_nil)
  psv_nil)
  (psv_cons (s_set h (by decide +kernel) rfl (v_bf B_max h (by decide +kernel) (pav_cons rfl (v_lc (own := [("degree", 4), ("number", 5)]) h (by decide +kernel) (i_zipX h (by decide +kernel) (pav_cons rfl (v_call h G_degrees_of rfl (by decide +kernel) rfl (pav_cons rfl (v_var (i := 0) h (by decide +kernel)) (pav_cons rfl (v_var (i := 1) h (by decide +kernel)) pav_nil))) (pav_cons rfl (v_var (i := 2) h (by decide +kernel)) pav_nil))) (fun _ h1 => ⟨(g_tup h1 rfl (pgsv_cons rfl (g_name h1 (by decide +kernel) rfl) (pgsv_cons rfl (g_name h1 (by decide +kernel) rfl) pgsv_nil))), ptv_nil, (v_call h1 G_needed rfl (by decide +kernel) rfl (pav_cons rfl (v_var (i := 4) h1 (by decide +kernel)) (pav_cons rfl (v_var (i := 5) h1 (by decide +kernel)) pav_nil)))⟩)) pav_nil)))
  (psv_cons (s_while h (pvt_not (pvt_val rfl (v_call h G_can_be_done rfl (by decide +kernel) rfl (pav_cons rfl (v_var (i := 0) h (by decide +kernel)) (pav_cons rfl (v_var (i := 1) h (by decide +kernel)) (pav_cons rfl (v_var (i := 2) h (by decide +kernel)) (pav_cons rfl (pv_lst pav_nil) (pav_cons rfl (v_var (i := 3) h (by decide +kernel)) pav_nil))))))))
  (psv_cons (s_aug (i := 3) I_add h (by decide +kernel) pv_int)
  psv_nil))
  (psv_cons (psv_ret (v_var (i := 3) h (by decide +kernel)))
  psv_nil))))))
theorem g_tried_rounds {Z : Cfg} (z : Z.Ok tx) (D : DefAt Z "tried_rounds" d_tried_rounds) (G_check_transfers : FnG Z "check_transfers" 2 (f_check_transfers Z.T)) (G_check_ports : FnG Z "check_ports" 2 (f_check_ports Z.T)) (G_degrees_of : FnG Z "degrees_of" 1 (f_degrees_of Z.T)) (G_needed : FnG Z "needed" 1 (f_needed Z.T)) (G_can_be_done : FnG Z "can_be_done" 43 (f_can_be_done Z.T 40)) : FnG Z "tried_rounds" 44 (f_tried_rounds Z.T) :=
  fn_of (k := 43) (N := ["servers", "transfers", "ports", "many", "degree", "number"]) (ps := ["servers", "transfers", "ports"]) z D ⟨rfl, rfl, rfl, by decide +kernel, rfl, by decide +kernel, by decide +kernel⟩ (fun _ _ _ _ _ _ us hl => match us, hl with | [_, _, _], _ => rfl) fun X W h => b_tried_rounds G_check_transfers G_check_ports G_degrees_of G_needed G_can_be_done h
abbrev d__law_needs : Stmt := top 27
def s__law_needs (T : Tb) : SS := (ssCons (ssAsg (sLc false [4] (siArg itRng1 (saCons (sVar 0) saNil)) (sgName 4) (fun _ h => .ok true h) (sCall lenD (saCons (sLc false [7] (siSeq (sVar 1)) (sgName 7) (sTru (sOp (inD false) (sVar 4) (sVar 7))) (sVar 7)) saNil))) (sgName 3))
  (ssCons (ssRet (sLkL 2 (sLkL 3 (sLc false [5, 6] (siArg itZipY (saCons (sVar 3) (saCons (sVar 2) saNil))) (sgTup 2 (sgCons (sgName 5) (sgCons (sgName 6) sgNil))) (fun _ h => .ok true h) (sOp fdivD (sOp subD (sOp (addD false) (sVar 5) (sVar 6)) (sK (.int 1))) (sVar 6))))))
  ssNil))
def f__law_needs (T : Tb) : List D → Bs → R D := runFn 3 8 (s__law_needs T)
theorem b__law_needs {Z : Cfg} {X : Cx} {W : WX}  (h : XO Z tx 0 ["_law_servers", "_law_transfers_here", "_law_ports", "_law_degrees", "_law_server", "_law_degree", "_law_number_here", "_law_pair"] (defScope d__law_needs) none X W) : PSs X (defBody d__law_needs) (tS' Z.T W (s__law_needs Z.T)) :=
  (psv_cons (s_setLc (own := [("_law_server", 4)]) h (by decide +kernel) (by decide +kernel) (i_rng1 h (by decide +kernel) (pav_cons rfl (v_var (i := 0) h (by decide +kernel)) pav_nil)) (fun _ h1 => ⟨(g_name h1 (by decide +kernel) rfl), ptv_nil, (v_bf B_len h1 (by decide +kernel) (pav_cons rfl (v_lc (own := [("_law_pair", 7)]) h1 (by decide +kernel) (i_seq h1 (v_var (i := 1) h1 (by decide +kernel))) (fun _ h2 => ⟨(g_name h2 (by decide +kernel) rfl), (ptv_one (t_cmp C_in h2 rfl (v_var (i := 4) h2 (by decide +kernel)) (v_var (i := 7) h2 (by decide +kernel)))), (v_var (i := 7) h2 (by decide +kernel))⟩)) pav_nil))⟩))
  (psv_cons (psv_ret (pv_lkL 2 (pv_lkL 3 (v_lc (own := [("_law_degree", 5), ("_law_number_here", 6)]) h (by decide +kernel) (i_zipY h (by decide +kernel) (pav_cons rfl (v_var (i := 3) h (by decide +kernel)) (pav_cons rfl (v_var (i := 2) h (by decide +kernel)) pav_nil))) (fun _ h1 => ⟨(g_tup h1 rfl (pgsv_cons rfl (g_name h1 (by decide +kernel) rfl) (pgsv_cons rfl (g_name h1 (by decide +kernel) rfl) pgsv_nil))), ptv_nil, (v_fdiv h1 (v_sub h1 (v_add h1 (v_var (i := 5) h1 (by decide +kernel)) (v_var (i := 6) h1 (by decide +kernel))) pv_int) (v_var (i := 6) h1 (by decide +kernel)))⟩)))))
  psv_nil))
theorem g__law_needs {Z : Cfg} (z : Z.Ok tx) (D : DefAt Z "_law_needs" d__law_needs)  : FnG Z "_law_needs" 1 (f__law_needs Z.T) :=
  fn_of (k := 0) (N := ["_law_servers", "_law_transfers_here", "_law_ports", "_law_degrees", "_law_server", "_law_degree", "_law_number_here", "_law_pair"]) (ps := ["_law_servers", "_law_transfers_here", "_law_ports"]) z D ⟨rfl, rfl, rfl, by decide +kernel, rfl, by decide +kernel, by decide +kernel⟩ (fun _ _ _ _ _ _ us hl => match us, hl with | [_, _, _], _ => rfl) fun X W h => b__law_needs  h
abbrev d_is_two_sided : Stmt := top 19
def s_is_two_sided (T : Tb) : SS := (ssCons (ssAsg (sLc false [2, 3] (siSeq (sVar 0)) (sgTup 2 (sgCons (sgName 2) (sgCons (sgName 3) sgNil))) (fun _ h => .ok true h) (sVar 2)) (sgName 1))
  (ssCons (ssRet (sNot (sCall anyD' (saCons (sLc false [2, 3] (siSeq (sVar 0)) (sgTup 2 (sgCons (sgName 2) (sgCons (sgName 3) sgNil))) (fun _ h => .ok true h) (sOp (inD false) (sVar 3) (sVar 1))) saNil))))
  ssNil))
def f_is_two_sided (T : Tb) : List D → Bs → R D := runFn 1 4 (s_is_two_sided T)
theorem b_is_two_sided {Z : Cfg} {X : Cx} {W : WX}  (h : XO Z tx 0 ["transfers", "senders", "sender", "receiver"] (defScope d_is_two_sided) none X W) : PSs X (defBody d_is_two_sided) (tS' Z.T W (s_is_two_sided Z.T)) :=
  (psv_cons (s_setLcN h (by decide +kernel) (by decide +kernel) (v_lc (own := [("sender", 2), ("receiver", 3)]) h (by decide +kernel) (i_seq h (v_var (i := 0) h (by decide +kernel))) (fun _ h1 => ⟨(g_tup h1 rfl (pgsv_cons rfl (g_name h1 (by decide +kernel) rfl) (pgsv_cons rfl (g_name h1 (by decide +kernel) rfl) pgsv_nil))), ptv_nil, (v_var (i := 2) h1 (by decide +kernel))⟩)))
  (psv_cons (psv_ret (pv_not (v_bf B_any h (by decide +kernel) (pav_cons rfl (v_lc (own := [("sender", 2), ("receiver", 3)]) h (by decide +kernel) (i_seq h (v_var (i := 0) h (by decide +kernel))) (fun _ h1 => ⟨(g_tup h1 rfl (pgsv_cons rfl (g_name h1 (by decide +kernel) rfl) (pgsv_cons rfl (g_name h1 (by decide +kernel) rfl) pgsv_nil))), ptv_nil, (v_cmp C_in h1 rfl (v_var (i := 3) h1 (by decide +kernel)) (v_var (i := 1) h1 (by decide +kernel)))⟩)) pav_nil))))
  psv_nil))
theorem g_is_two_sided {Z : Cfg} (z : Z.Ok tx) (D : DefAt Z "is_two_sided" d_is_two_sided)  : FnG Z "is_two_sided" 1 (f_is_two_sided Z.T) :=
  fn_of (k := 0) (N := ["transfers", "senders", "sender", "receiver"]) (ps := ["transfers"]) z D ⟨rfl, rfl, rfl, by decide +kernel, rfl, by decide +kernel, by decide +kernel⟩ (fun _ _ _ _ _ _ us hl => match us, hl with | [_], _ => rfl) fun X W h => b_is_two_sided  h
abbrev d_fewest_rounds : Stmt := top 20
def s_fewest_rounds (T : Tb) : SS := (ssCons (ssExpr (sCall (f_check_transfers T) (saCons (sVar 0) (saCons (sVar 1) saNil))))
  (ssCons (ssExpr (sCall (f_check_ports T) (saCons (sVar 0) (saCons (sVar 2) saNil))))
  (ssCons (ssIf (sAnd (sNot (sCall (f_is_two_sided T) (saCons (sVar 1) saNil))) (sCall anyD' (saCons (sLc false [4] (siSeq (sVar 2)) (sgName 4) (fun _ h => .ok true h) (sOp (eqD false) (sOp modD (sVar 4) (sK (.int 2))) (sK (.int 1)))) saNil)))
  (ssCons (fun _ _ => .no)
  ssNil)
  ssNil)
  (ssCons (ssRet (sCall maxD (saCons (sLc false [3, 4] (siArg itZipX (saCons (sCall (f_degrees_of T) (saCons (sVar 0) (saCons (sVar 1) saNil))) (saCons (sVar 2) saNil))) (sgTup 2 (sgCons (sgName 3) (sgCons (sgName 4) sgNil))) (fun _ h => .ok true h) (sCall (f_needed T) (saCons (sVar 3) (saCons (sVar 4) saNil)))) saNil)))
  ssNil))))
def f_fewest_rounds (T : Tb) : List D → Bs → R D := runFn 3 5 (s_fewest_rounds T)
theorem b_fewest_rounds {Z : Cfg} {X : Cx} {W : WX} (G_check_transfers : FnG Z "check_transfers" 2 (f_check_transfers Z.T)) (G_check_ports : FnG Z "check_ports" 2 (f_check_ports Z.T)) (G_degrees_of : FnG Z "degrees_of" 1 (f_degrees_of Z.T)) (G_needed : FnG Z "needed" 1 (f_needed Z.T)) (G_is_two_sided : FnG Z "is_two_sided" 1 (f_is_two_sided Z.T)) (h : XO Z tx 2 ["servers", "transfers", "ports", "degree", "number"] (defScope d_fewest_rounds) none X W) : PSs X (defBody d_fewest_rounds) (tS' Z.T W (s_fewest_rounds Z.T)) :=
  (psv_cons (psv_expr rfl (v_call h G_check_transfers rfl (by decide +kernel) rfl (pav_cons rfl (v_var (i := 0) h (by decide +kernel)) (pav_cons rfl (v_var (i := 1) h (by decide +kernel)) pav_nil))))
  (psv_cons (psv_expr rfl (v_call h G_check_ports rfl (by decide +kernel) rfl (pav_cons rfl (v_var (i := 0) h (by decide +kernel)) (pav_cons rfl (v_var (i := 2) h (by decide +kernel)) pav_nil))))
  (psv_cons (psv_if (PW.pt (pvt_and (pvt_not (pvt_val rfl (v_call h G_is_two_sided rfl (by decide +kernel) rfl (pav_cons rfl (v_var (i := 1) h (by decide +kernel)) pav_nil)))) (pvt_and1 (pvt_val rfl (v_bf B_any h (by decide +kernel) (pav_cons rfl (v_lc (own := [("number", 4)]) h (by decide +kernel) (i_seq h (v_var (i := 2) h (by decide +kernel))) (fun _ h1 => ⟨(g_name h1 (by decide +kernel) rfl), ptv_nil, (v_cmp C_eq h1 rfl (v_mod h1 (v_var (i := 4) h1 (by decide +kernel)) pv_int) pv_int)⟩)) pav_nil))))))
  (psv_cons pvs_never
  psv_nil)
  psv_nil)
  (psv_cons (psv_ret (v_bf B_max h (by decide +kernel) (pav_cons rfl (v_lc (own := [("degree", 3), ("number", 4)]) h (by decide +kernel) (i_zipX h (by decide +kernel) (pav_cons rfl (v_call h G_degrees_of rfl (by decide +kernel) rfl (pav_cons rfl (v_var (i := 0) h (by decide +kernel)) (pav_cons rfl (v_var (i := 1) h (by decide +kernel)) pav_nil))) (pav_cons rfl (v_var (i := 2) h (by decide +kernel)) pav_nil))) (fun _ h1 => ⟨(g_tup h1 rfl (pgsv_cons rfl (g_name h1 (by decide +kernel) rfl) (pgsv_cons rfl (g_name h1 (by decide +kernel) rfl) pgsv_nil))), ptv_nil, (v_call h1 G_needed rfl (by decide +kernel) rfl (pav_cons rfl (v_var (i := 3) h1 (by decide +kernel)) (pav_cons rfl (v_var (i := 4) h1 (by decide +kernel)) pav_nil)))⟩)) pav_nil)))
  psv_nil))))
theorem g_fewest_rounds {Z : Cfg} (z : Z.Ok tx) (D : DefAt Z "fewest_rounds" d_fewest_rounds) (G_check_transfers : FnG Z "check_transfers" 2 (f_check_transfers Z.T)) (G_check_ports : FnG Z "check_ports" 2 (f_check_ports Z.T)) (G_degrees_of : FnG Z "degrees_of" 1 (f_degrees_of Z.T)) (G_needed : FnG Z "needed" 1 (f_needed Z.T)) (G_is_two_sided : FnG Z "is_two_sided" 1 (f_is_two_sided Z.T)) : FnG Z "fewest_rounds" 3 (f_fewest_rounds Z.T) :=
  fn_of (k := 2) (N := ["servers", "transfers", "ports", "degree", "number"]) (ps := ["servers", "transfers", "ports"]) z D ⟨rfl, rfl, rfl, by decide +kernel, rfl, by decide +kernel, by decide +kernel⟩ (fun _ _ _ _ _ _ us hl => match us, hl with | [_, _, _], _ => rfl) fun X W h => b_fewest_rounds G_check_transfers G_check_ports G_degrees_of G_needed G_is_two_sided h
abbrev d_law : Stmt := top 29
def t1_law (T : Tb) : SS := (ssAsg (sOp (addD false) (sK (.int 2)) (sOp modD (sCall intD (saCons (sCall (f__law_number T) (saCons (sVar 0) (saCons (sK (.int 0)) saNil))) saNil)) (sK (.int 4)))) (sgName 1))
def t2_law (T : Tb) : SS := (ssAsg (sCall (f__law_transfers T) (saCons (sVar 0) (saCons (sK (.int 1)) (saCons (sVar 1) (saCons (sK (.int 8)) saNil))))) (sgName 2))
def t3_law (T : Tb) : SS := (ssAsg (sCall tupleD (saCons (sLc false [8] (siArg itRng1 (saCons (sVar 1) saNil)) (sgName 8) (fun _ h => .ok true h) (sOp (addD false) (sK (.int 1)) (sOp modD (sCall intD (saCons (sCall (f__law_number T) (saCons (sVar 0) (saCons (sOp (addD false) (sK (.int 60)) (sVar 8)) saNil))) saNil)) (sK (.int 3))))) saNil)) (sgName 3))
def t4_law (T : Tb) : SS := (ssAsg (sIte (sOp (eqD false) (sOp modD (sCall intD (saCons (sCall (f__law_number T) (saCons (sVar 0) (saCons (sK (.int 70)) saNil))) saNil)) (sK (.int 2))) (sK (.int 0))) (sOp (mulD false) (sTup (saCons (sK (.int 1)) saNil)) (sVar 1)) (sVar 3)) (sgName 3))
def t5_law (T : Tb) : SS := (ssAsg (sK (.int 0)) (sgName 4))
def l6_law (T : Tb) : SS := (ssCons (ssAsg (sOp (addD false) (sVar 4) (sK (.int 1))) (sgName 4))
  ssNil)
def t6_law (T : Tb) : SS := (whileS (sNot (sCall (f__law_done T 40) (saCons (sVar 1) (saCons (sVar 2) (saCons (sVar 3) (saCons (sLst false saNil) (saCons (sVar 4) saNil)))))))
  (l6_law T) 1000)
def t7_law (T : Tb) : SS := (ssAsg (sTup (saCons (sCall (f_tried_rounds T) (saCons (sVar 1) (saCons (sVar 2) (saCons (sVar 3) saNil)))) (saCons (sCall maxD (saCons (sCall (f__law_needs T) (saCons (sVar 1) (saCons (sVar 2) (saCons (sVar 3) saNil)))) saNil)) saNil))) (sgTup 2 (sgCons (sgName 5) (sgCons (sgName 6) sgNil))))
def t8_law (T : Tb) : SS := (ssIf (sOr (sOp (eqD true) (sVar 5) (sVar 4)) (sOp ltS (sVar 5) (sVar 6)))
  (ssCons (ssRet (sK (.bl false)))
  ssNil)
  ssNil)
def t9_law (T : Tb) : SS := (ssIf (sOr (sAnd (sCall (f_is_two_sided T) (saCons (sVar 2) saNil)) (sOp (eqD true) (sVar 5) (sVar 6))) (sAnd (sOp (eqD false) (sVar 2) (sLst false saNil)) (sOp (eqD true) (sVar 5) (sK (.int 0)))))
  (ssCons (ssRet (sK (.bl false)))
  ssNil)
  ssNil)
def t10_law (T : Tb) : SS := (ssAsg (sCall tupleD (saCons (sLc false [9] (siSeq (sVar 3)) (sgName 9) (fun _ h => .ok true h) (sOp (mulD false) (sK (.int 2)) (sVar 9))) saNil)) (sgName 7))
def t11_law (T : Tb) : SS := (ssIf (sOp (eqD true) (sCall (f_tried_rounds T) (saCons (sVar 1) (saCons (sVar 2) (saCons (sVar 7) saNil)))) (sCall (f_fewest_rounds T) (saCons (sVar 1) (saCons (sVar 2) (saCons (sVar 7) saNil)))))
  (ssCons (ssRet (sK (.bl false)))
  ssNil)
  ssNil)
def t12_law (T : Tb) : SS := (ssIf (sAnd (sOp (eqD false) (sVar 3) (sOp (mulD false) (sTup (saCons (sK (.int 1)) saNil)) (sVar 1))) (sOp gtS (sVar 5) (sOp fdivD (sOp (mulD false) (sVar 6) (sK (.int 3))) (sK (.int 2)))))
  (ssCons (ssRet (sK (.bl false)))
  ssNil)
  ssNil)
def t13_law (T : Tb) : SS := (ssRet (sOp (eqD false) (sCall (f_tried_rounds T) (saCons (sVar 1) (saCons (sUn (revY false) (sVar 2)) (saCons (sVar 3) saNil)))) (sVar 5)))
def s_law (T : Tb) : SS := (ssCons (t1_law T)
  (ssCons (t2_law T)
  (ssCons (t3_law T)
  (ssCons (t4_law T)
  (ssCons (t5_law T)
  (ssCons (t6_law T)
  (ssCons (t7_law T)
  (ssCons (t8_law T)
  (ssCons (t9_law T)
  (ssCons (t10_law T)
  (ssCons (t11_law T)
  (ssCons (t12_law T)
  (ssCons (t13_law T)
  ssNil)))))))))))))
def f_law (T : Tb) : List D → Bs → R D := runFn 1 10 (s_law T)
theorem b_law {Z : Cfg} {X : Cx} {W : WX} (G__law_number : FnG Z "_law_number" 1 (f__law_number Z.T)) (G__law_transfers : FnG Z "_law_transfers" 2 (f__law_transfers Z.T)) (G__law_done : FnG Z "_law_done" 41 (f__law_done Z.T 40)) (G_tried_rounds : FnG Z "tried_rounds" 44 (f_tried_rounds Z.T)) (G__law_needs : FnG Z "_law_needs" 1 (f__law_needs Z.T)) (G_is_two_sided : FnG Z "is_two_sided" 1 (f_is_two_sided Z.T)) (G_fewest_rounds : FnG Z "fewest_rounds" 3 (f_fewest_rounds Z.T)) (h : XO Z tx 44 ["_law_script", "_law_servers", "_law_transfers_here", "_law_ports", "_law_least", "_law_found", "_law_needs_here", "_law_even", "_law_at", "_law_number_here"] (defScope d_law) none X W) : PSs X (defBody d_law) (tS' Z.T W (s_law Z.T)) :=
  (psv_cons (s_set h (by decide +kernel) rfl (v_add h pv_int (v_mod h (v_bt B_int h (by decide +kernel) (pav_cons rfl (v_call h G__law_number rfl (by decide +kernel) rfl (pav_cons rfl (v_var (i := 0) h (by decide +kernel)) (pav_cons rfl pv_int pav_nil))) pav_nil)) pv_int)))
  (psv_cons (s_set h (by decide +kernel) rfl (v_call h G__law_transfers rfl (by decide +kernel) rfl (pav_cons rfl (v_var (i := 0) h (by decide +kernel)) (pav_cons rfl pv_int (pav_cons rfl (v_var (i := 1) h (by decide +kernel)) (pav_cons rfl pv_int pav_nil))))))
  (psv_cons (s_set h (by decide +kernel) rfl (v_bt B_tuple h (by decide +kernel) (pav_cons rfl (v_lc (own := [("_law_at", 8)]) h (by decide +kernel) (i_rng1 h (by decide +kernel) (pav_cons rfl (v_var (i := 1) h (by decide +kernel)) pav_nil)) (fun _ h1 => ⟨(g_name h1 (by decide +kernel) rfl), ptv_nil, (v_add h1 pv_int (v_mod h1 (v_bt B_int h1 (by decide +kernel) (pav_cons rfl (v_call h1 G__law_number rfl (by decide +kernel) rfl (pav_cons rfl (v_var (i := 0) h1 (by decide +kernel)) (pav_cons rfl (v_add h1 pv_int (v_var (i := 8) h1 (by decide +kernel))) pav_nil))) pav_nil)) pv_int))⟩)) pav_nil)))
  (psv_cons (s_set h (by decide +kernel) rfl (pv_ite (t_cmp C_eq h rfl (v_mod h (v_bt B_int h (by decide +kernel) (pav_cons rfl (v_call h G__law_number rfl (by decide +kernel) rfl (pav_cons rfl (v_var (i := 0) h (by decide +kernel)) (pav_cons rfl pv_int pav_nil))) pav_nil)) pv_int) pv_int) (v_mul h (pv_tup (pav_cons rfl pv_int pav_nil)) (v_var (i := 1) h (by decide +kernel))) (v_var (i := 3) h (by decide +kernel))))
  (psv_cons (s_set h (by decide +kernel) rfl pv_int)
  (psv_cons (s_while h (pvt_not (pvt_val rfl (v_call h G__law_done rfl (by decide +kernel) rfl (pav_cons rfl (v_var (i := 1) h (by decide +kernel)) (pav_cons rfl (v_var (i := 2) h (by decide +kernel)) (pav_cons rfl (v_var (i := 3) h (by decide +kernel)) (pav_cons rfl (pv_lst pav_nil) (pav_cons rfl (v_var (i := 4) h (by decide +kernel)) pav_nil))))))))
  (psv_cons (s_set h (by decide +kernel) rfl (v_add h (v_var (i := 4) h (by decide +kernel)) pv_int))
  psv_nil))
  (psv_cons (s_par h (by decide +kernel) (by decide +kernel) (by decide +kernel) (by decide +kernel) (pav_cons rfl (v_call h G_tried_rounds rfl (by decide +kernel) rfl (pav_cons rfl (v_var (i := 1) h (by decide +kernel)) (pav_cons rfl (v_var (i := 2) h (by decide +kernel)) (pav_cons rfl (v_var (i := 3) h (by decide +kernel)) pav_nil)))) (pav_cons rfl (v_bf B_max h (by decide +kernel) (pav_cons rfl (v_call h G__law_needs rfl (by decide +kernel) rfl (pav_cons rfl (v_var (i := 1) h (by decide +kernel)) (pav_cons rfl (v_var (i := 2) h (by decide +kernel)) (pav_cons rfl (v_var (i := 3) h (by decide +kernel)) pav_nil)))) pav_nil)) pav_nil)))
  (psv_cons (psv_if (PW.pt (pvt_or (t_cmp C_ne h rfl (v_var (i := 5) h (by decide +kernel)) (v_var (i := 4) h (by decide +kernel))) (pvt_or1 (t_cmp C_ltS h rfl (v_var (i := 5) h (by decide +kernel)) (v_var (i := 6) h (by decide +kernel))))))
  (psv_cons (psv_ret pv_bl)
  psv_nil)
  psv_nil)
  (psv_cons (psv_if (PW.pt (pvt_or (PW.pt (pvt_and (pvt_val rfl (v_call h G_is_two_sided rfl (by decide +kernel) rfl (pav_cons rfl (v_var (i := 2) h (by decide +kernel)) pav_nil))) (pvt_and1 (t_cmp C_ne h rfl (v_var (i := 5) h (by decide +kernel)) (v_var (i := 6) h (by decide +kernel)))))) (pvt_or1 (PW.pt (pvt_and (t_cmp C_eq h rfl (v_var (i := 2) h (by decide +kernel)) (pv_lst pav_nil)) (pvt_and1 (t_cmp C_ne h rfl (v_var (i := 5) h (by decide +kernel)) pv_int)))))))
  (psv_cons (psv_ret pv_bl)
  psv_nil)
  psv_nil)
  (psv_cons (s_set h (by decide +kernel) rfl (v_bt B_tuple h (by decide +kernel) (pav_cons rfl (v_lc (own := [("_law_number_here", 9)]) h (by decide +kernel) (i_seq h (v_var (i := 3) h (by decide +kernel))) (fun _ h1 => ⟨(g_name h1 (by decide +kernel) rfl), ptv_nil, (v_mul h1 pv_int (v_var (i := 9) h1 (by decide +kernel)))⟩)) pav_nil)))
  (psv_cons (psv_if (t_cmp C_ne h rfl (v_call h G_tried_rounds rfl (by decide +kernel) rfl (pav_cons rfl (v_var (i := 1) h (by decide +kernel)) (pav_cons rfl (v_var (i := 2) h (by decide +kernel)) (pav_cons rfl (v_var (i := 7) h (by decide +kernel)) pav_nil)))) (v_call h G_fewest_rounds rfl (by decide +kernel) rfl (pav_cons rfl (v_var (i := 1) h (by decide +kernel)) (pav_cons rfl (v_var (i := 2) h (by decide +kernel)) (pav_cons rfl (v_var (i := 7) h (by decide +kernel)) pav_nil)))))
  (psv_cons (psv_ret pv_bl)
  psv_nil)
  psv_nil)
  (psv_cons (psv_if (PW.pt (pvt_and (t_cmp C_eq h rfl (v_var (i := 3) h (by decide +kernel)) (v_mul h (pv_tup (pav_cons rfl pv_int pav_nil)) (v_var (i := 1) h (by decide +kernel)))) (pvt_and1 (t_cmp C_gtS h rfl (v_var (i := 5) h (by decide +kernel)) (v_fdiv h (v_mul h (v_var (i := 6) h (by decide +kernel)) pv_int) pv_int)))))
  (psv_cons (psv_ret pv_bl)
  psv_nil)
  psv_nil)
  (psv_cons (psv_ret (v_cmp C_eq h rfl (v_call h G_tried_rounds rfl (by decide +kernel) rfl (pav_cons rfl (v_var (i := 1) h (by decide +kernel)) (pav_cons rfl (pv_revY h.K (v_var (i := 2) h (by decide +kernel))) (pav_cons rfl (v_var (i := 3) h (by decide +kernel)) pav_nil)))) (v_var (i := 5) h (by decide +kernel))))
  psv_nil)))))))))))))
end VI.K28
end
section
namespace VI.K28
open PySem PySem.Spec PyProof.Rows L2 VI
def dd__law_number : He.DefD := ⟨("_law_number", none), "_law_number", "_law_number", defArgs d__law_number, defBody d__law_number, defScope d__law_number, [], []⟩
def dd__law_transfers : He.DefD := ⟨("_law_transfers", none), "_law_transfers", "_law_transfers", defArgs d__law_transfers, defBody d__law_transfers, defScope d__law_transfers, [], []⟩
def dd__law_done : He.DefD := ⟨("_law_done", none), "_law_done", "_law_done", defArgs d__law_done, defBody d__law_done, defScope d__law_done, [], []⟩
def dd_is_number : He.DefD := ⟨("is_number", none), "is_number", "is_number", defArgs d_is_number, defBody d_is_number, defScope d_is_number, [], []⟩
def dd_check_transfers : He.DefD := ⟨("check_transfers", none), "check_transfers", "check_transfers", defArgs d_check_transfers, defBody d_check_transfers, defScope d_check_transfers, [], []⟩
def dd_check_ports : He.DefD := ⟨("check_ports", none), "check_ports", "check_ports", defArgs d_check_ports, defBody d_check_ports, defScope d_check_ports, [], []⟩
def dd_degrees_of : He.DefD := ⟨("degrees_of", none), "degrees_of", "degrees_of", defArgs d_degrees_of, defBody d_degrees_of, defScope d_degrees_of, [], []⟩
def dd_needed : He.DefD := ⟨("needed", none), "needed", "needed", defArgs d_needed, defBody d_needed, defScope d_needed, [], []⟩
def dd_fits : He.DefD := ⟨("fits", none), "fits", "fits", defArgs d_fits, defBody d_fits, defScope d_fits, [], []⟩
def dd_can_be_done : He.DefD := ⟨("can_be_done", none), "can_be_done", "can_be_done", defArgs d_can_be_done, defBody d_can_be_done, defScope d_can_be_done, [], []⟩
def dd_tried_rounds : He.DefD := ⟨("tried_rounds", none), "tried_rounds", "tried_rounds", defArgs d_tried_rounds, defBody d_tried_rounds, defScope d_tried_rounds, [], []⟩
def dd__law_needs : He.DefD := ⟨("_law_needs", none), "_law_needs", "_law_needs", defArgs d__law_needs, defBody d__law_needs, defScope d__law_needs, [], []⟩
def dd_is_two_sided : He.DefD := ⟨("is_two_sided", none), "is_two_sided", "is_two_sided", defArgs d_is_two_sided, defBody d_is_two_sided, defScope d_is_two_sided, [], []⟩
def dd_fewest_rounds : He.DefD := ⟨("fewest_rounds", none), "fewest_rounds", "fewest_rounds", defArgs d_fewest_rounds, defBody d_fewest_rounds, defScope d_fewest_rounds, [], []⟩
def dd_law : He.DefD := ⟨("law", none), "law", "law", defArgs d_law, defBody d_law, defScope d_law, [], []⟩
def fn : List He.DefD := [dd__law_number, dd__law_transfers, dd__law_done, dd_is_number, dd_check_transfers, dd_check_ports, dd_degrees_of, dd_needed, dd_fits, dd_can_be_done, dd_tried_rounds, dd__law_needs, dd_is_two_sided, dd_fewest_rounds, dd_law]
def fa : List He.Fa := [.glo "_law_number", .glo "_law_transfers", .glo "_law_done", .glo "is_number", .glo "check_transfers", .glo "check_ports", .glo "degrees_of", .glo "needed", .glo "fits", .glo "can_be_done", .glo "tried_rounds", .glo "_law_needs", .glo "is_two_sided", .glo "fewest_rounds", .glo "law", .free "all", .free "any", .free "bool", .free "enumerate", .free "int", .free "isinstance", .free "len", .free "list", .free "max", .free "min", .free "range", .free "tuple", .free "zip", .int "MOST_SERVERS" 8, .int "MOST_TRANSFERS" 16, .int "MOST_TRIED" 8, .int "MOST_PORTS" 8]
def ct : Ct := ⟨[], [], [], [], [], [], [], [], []⟩
abbrev Rr : PySem.W.OpenRow := PySem.W.OpenLaw.row PySem.Challenge.rw_copylots_k28_whole_rounds_tried
def as0 : List Addr := [3, 6, 4, 24, 37, 49, 70, 82, 94, 103, 108, 113, 118, 125, 130, 135, 140, 147, 152, 159, 166, 171, 176, 181, 186, 0, 23, 36, 48, 69, 81, 93, 102, 107, 112, 117, 124, 129, 134, 139, 146, 151, 158, 165, 170, 175, 180, 185, 22, 25, 35, 47, 67, 68, 80, 92, 97, 98, 99, 100]
def as1 : List Addr := [101, 104, 105, 106, 109, 110, 111, 114, 115, 116, 119, 120, 121, 122, 123, 126, 127, 128, 131, 132, 133, 136, 137, 138, 141, 142, 143, 144, 145, 148, 149, 150, 153, 154, 155, 156, 157, 160, 161, 162, 163, 164, 167, 168, 169, 172, 173, 174, 177, 178, 179, 182, 183, 184, 66, 55, 61, 62, 63, 64]
def as2 : List Addr := [65]
def asA : List Addr := as0 ++ as1 ++ as2
abbrev hk : PySem.W.Hook := hookCA asA ct fa fn
def ob (s : PySem.W.SharedT) : He.AlD := obsCA asA ct fa fn (HandSHeadRun.getT s)
theorem ob_eq (s : PySem.W.SharedT) : ob s = hk.obs s.abs := obsCA_eq (HandSHeadRun.getT_eq s)
abbrev loose : List Str := ["LotError", "BadServers", "TooLarge", "BadTransfers", "BadPorts", "NotScheduled", "MOST_SERVERS", "is_number", "MOST_TRANSFERS", "MOST_TRIED", "MOST_PORTS", "check_transfers", "check_ports", "degrees_of", "needed", "fits", "is_two_sided", "fewest_rounds", "can_be_done", "tried_rounds", "_law_number", "_law_transfers", "_law_fits", "_law_needs", "_law_done"]
theorem run1 : Run1 Rr 4000 := by
  intro w os
  kernel_rfl
theorem run2 : Run2 Rr (PySem.W.view Rr.prog [29]) 4000 loose := by
  intro w os
  kernel_rfl
theorem run3 : Run3 Rr hk ob 4000 := by
  intro w os
  kernel_rfl
theorem run (w : World) : HandSHeadRun.RunEq Rr (PySem.W.view Rr.prog [29]) hk ob 4000 loose w := run_of run1 run2 run3 w
end VI.K28
end
section
namespace VI.K28
open PySem PySem.Spec PyProof.Rows L2 VI VI.Std VI.Fl VI.Ec VI.Eu
open VI.Lay (rgI lt_ok ge_ok lenTI fil_emb all_emb any_emb)
section
variable {K : PySem.W.Frag} {h : Bs} {n : Nat} {Tr : List P2} {P X C : List Int} {k : Nat} {v r s : Int} {ρ : Ev} {d : D} {xs : List D}
def Sq (d : D) (xs : List D) : Prop := d = .lst xs ∨ d = .tup xs
theorem Sq.it (q : Sq d xs) : itSeq d h = .ok (xs, none) h := by rcases q with rfl | rfl <;> rfl
theorem Sq.sq (q : Sq d xs) : seqOf h d = some xs := by rcases q with rfl | rfl <;> rfl
theorem Sq.len (q : Sq d xs) : lenD [d] h = .ok (.int xs.length) h := by rcases q with rfl | rfl <;> rfl
theorem Sq.seq (q : Sq d xs) {i : Nat} (e : ρ[i]? = some (some d)) : (siSeq (sVar i)) ρ h = .ok (xs, none) h := by
  unfold siSeq
  rw [var_ok e, bind_ok]
  exact q.it
abbrev tD (Tr : List P2) : List D := Tr.map Ec.prD
theorem in_p {p : P2} {neg : Bool} : inD neg (.int v) (Ec.prD p) h = .ok (.bl (if neg then !inc v p else inc v p)) h := in_tI (x := v) (l := [p.1, p.2])
theorem at_ : ∀ {xs : List D} {x : D} {j : Nat} {h : Bs}, xs[j]? = some x → ixD (.tup xs) (.int j) h = .ok x h := fun {xs x j h} e => by
  show (match atI xs (j : Int) with | some x => VI.R.ok x h | none => .no) = _
  rw [Fl.atI_get e]
def two (Tr : List P2) : Bool := !(Tr.any fun p => decide (p.2 ∈ Tr.map (·.1)))
theorem fst_k {i j1 j2 : Nat} {ρ' : P2 → Ev} (q : Sq d (tD Tr)) (hl : Tr.length ≤ 900) (ei : ρ[i]? = some (some d)) (e1 : ∀ p, sgTup 2 (sgCons (sgName j1) (sgCons (sgName j2) sgNil)) (Ec.prD p) (wipeE ρ [j1, j2]) h = .ok (ρ' p) h) (e2 : ∀ p, (sVar j1) (ρ' p) h = .ok (.int p.1) h) : (sLc false [j1, j2] (siSeq (sVar i)) (sgTup 2 (sgCons (sgName j1) (sgCons (sgName j2) sgNil))) (fun _ h => .ok true h) (sVar j1)) ρ h = .ok (lI (Tr.map (·.1))) h := by
  have sz : (1000 : Nat) ≤ sizeLine := by decide
  refine lc_ok (q.seq ei) (ys := (Tr.map (·.1)).map .int) ?_ (by rw [List.length_map, List.length_map]; omega)
  rw [List.map_map]
  exact lc_emb1 Ec.prD _ Tr fun p _ => ⟨ρ' p, e1 p, e2 p⟩
theorem two_k (q : Sq d (tD Tr)) (hl : Tr.length ≤ 60) : f_is_two_sided (tbC ct K) [d] h = .ok (.bl (two Tr)) h := by
  have sz : (1000 : Nat) ≤ sizeLine := by decide
  refine run_rt rfl ?_ rfl
  show s_is_two_sided (tbC ct K) [some d, none, none, none] (inB h) = _
  unfold s_is_two_sided
  refine (cons_nx (ρ1 := [some d, some (lI (Tr.map (·.1))), none, none]) (h1 := inB h) (asg_ok (fst_k (ρ' := fun p => [some d, none, some (.int p.1), some (.int p.2)]) q (by omega) rfl (fun p => rfl) fun p => rfl) rfl)).trans ?_
  exact ret_ok (not_ok (any_emb (h := inB h) (own := [2, 3]) (it := siSeq (sVar 0)) (g := sgTup 2 (sgCons (sgName 2) (sgCons (sgName 3) sgNil))) (el := sOp (inD false) (sVar 3) (sVar 1)) (ρ := [some d, some (lI (Tr.map (·.1))), none, none]) Ec.prD Tr (fun p => decide (p.2 ∈ Tr.map (·.1))) (q.seq rfl) (fun p _ => ⟨[some d, some (lI (Tr.map (·.1))), some (.int p.1), some (.int p.2)], rfl, op_ok (x := .int p.2) (y := lI (Tr.map (·.1))) rfl rfl (in_lI (neg := false))⟩) (by omega)))
def dgs (n : Nat) (Tr : List P2) : List Int := (rgI n).map fun v => ((deg Tr v : Nat) : Int)
theorem dgs_len : (dgs n Tr).length = n := by unfold dgs; rw [List.length_map, Lay.rgI_len]
theorem len_deg {i j k : Nat} (q : Sq d (tD Tr)) (hl : Tr.length ≤ 60) (ei : ρ[i]? = some (some d)) (ev : ρ[j]? = some (some (.int v))) (hij : i ≠ k) (hj : j ≠ k) (hk : k < ρ.length) : (sCall lenD (saCons (sLc false [k] (siSeq (sVar i)) (sgName k) (sTru (sOp (inD false) (sVar j) (sVar k))) (sVar k)) saNil)) ρ h = .ok (.int (deg Tr v)) h := by
  have sz : (1000 : Nat) ≤ sizeLine := by decide
  have fl := fil_emb (h := h) (own := [k]) (it := siSeq (sVar i)) (g := sgName k) (tt := sOp (inD false) (sVar j) (sVar k)) (el := sVar k) (ρ := ρ) Ec.prD Tr (fun p => inc v p) (q.seq ei) (fun p _ => ⟨(wipeE ρ [k]).set k (some (Ec.prD p)), rfl, op_ok (h1 := h) (h2 := h) (x := .int v) (y := Ec.prD p) (var_ok (by
    rw [List.getElem?_set_ne (by omega)]
    show (ρ.set k none)[j]? = _
    rw [List.getElem?_set_ne (by omega)]
    exact ev)) (var_ok (List.getElem?_set_self (by show k < (ρ.set k none).length; rw [List.length_set]; exact hk))) (in_p (neg := false)), var_ok (List.getElem?_set_self (by show k < (ρ.set k none).length; rw [List.length_set]; exact hk))⟩) (by omega)
  refine call_ok (xs := [.lst ((Tr.filter fun p => inc v p).map Ec.prD)]) (cons_ok fl rfl) ?_
  show VI.R.ok (D.int ((Tr.filter fun p => inc v p).map Ec.prD).length) h = _
  rw [List.length_map]
  rfl
theorem degs_k (q : Sq d (tD Tr)) (hl : Tr.length ≤ 60) (hn : n ≤ 8) : f_degrees_of (tbC ct K) [.int n, d] h = .ok (lI (dgs n Tr)) h := by
  have sz : (1000 : Nat) ≤ sizeLine := by decide
  refine run_rt rfl ?_ (noDs_ints _)
  show s_degrees_of (tbC ct K) [some (.int n), some d, none, none] (inB h) = _
  unfold s_degrees_of
  refine ret_ok (lc_ok (arg_ok (h1 := inB h) (xs := [.int n]) rfl (rng_I (by omega))) (ys := (dgs n Tr).map .int) ?_ (by rw [List.length_map, dgs_len]; omega))
  unfold dgs
  rw [List.map_map]
  exact lc_emb1 .int _ (rgI n) fun v _ => ⟨[some (.int n), some d, some (.int v), none], rfl, len_deg q hl rfl rfl (by decide) (by decide) (by show 3 < 4; decide)⟩
def nd1 (a p : Int) : Int := -((-a) / p)
def nds (n : Nat) (Tr : List P2) (P : List Int) : List Int := ((dgs n Tr).zip P).map fun z => nd1 z.1 z.2
structure Pr (n : Nat) (P : List Int) : Prop where
  len : P.length = n
  lo : ∀ p ∈ P, 1 ≤ p ∧ p ≤ 8
theorem nds_len (p : Pr n P) : (nds n Tr P).length = n := by
  unfold nds
  rw [List.length_map, List.length_zip, dgs_len, p.len]
  omega
theorem nd_up {a p : Int} (hp : 1 ≤ p) : (a + p - 1) / p = nd1 a p := by
  unfold nd1
  have h1 := Int.mul_ediv_add_emod (-a) p
  have h2 := Int.emod_nonneg (-a) (b := p) (by omega)
  have h3 := Int.emod_lt_of_pos (-a) (b := p) (by omega)
  generalize (-a) % p = m at *
  generalize (-a) / p = q at *
  have e : a + p - 1 = (p - 1 - m) + p * (-q) := by
    rw [Int.mul_neg]
    omega
  rw [e, Int.add_mul_ediv_left _ _ (by omega), Int.ediv_eq_zero_of_lt (by omega) (by omega)]
  omega
theorem needed_k {a p : Int} (hp : 1 ≤ p ∧ p ≤ 8) : f_needed (tbC ct K) [.int a, .int p] h = .ok (.int (nd1 a p)) h := by
  refine run_rt rfl ?_ rfl
  show s_needed (tbC ct K) [some (.int a), some (.int p)] (inB h) = _
  unfold s_needed
  exact ret_ok (un_ok (x := .int ((-a) / p)) (op_ok (x := .int (-a)) (y := .int p) (un_ok (x := .int a) rfl rfl) rfl (fdivI ⟨by omega, by have := log2_lt (i := p) (k := 10) (by omega) (by omega); omega⟩)) rfl)
theorem zip_ii : ∀ (A B : List Int), zipL (A.map D.int) (B.map D.int) = (A.zip B).map fun z => D.tup [.int z.1, .int z.2]
  | [], _ => by simp [zipL]
  | _ :: _, [] => by simp [zipL]
  | x :: A, y :: B => by
    have := zip_ii A B
    simp only [List.map_cons, zipL, List.zip_cons_cons, this]
theorem lawneeds_k (p : Pr n P) (q : Sq d (tD Tr)) (hl : Tr.length ≤ 60) (hn : n ≤ 8) : f__law_needs (tbC ct K) [.int n, d, tI P] h = .ok (lI (nds n Tr P)) h := by
  have sz : (1000 : Nat) ≤ sizeLine := by decide
  refine run_rt rfl ?_ (noDs_ints _)
  show s__law_needs (tbC ct K) [some (.int n), some d, some (tI P), none, none, none, none, none] (inB h) = _
  unfold s__law_needs
  have e3 : (sLc false [4] (siArg itRng1 (saCons (sVar 0) saNil)) (sgName 4) (fun _ h => .ok true h) (sCall lenD (saCons (sLc false [7] (siSeq (sVar 1)) (sgName 7) (sTru (sOp (inD false) (sVar 4) (sVar 7))) (sVar 7)) saNil))) [some (.int n), some d, some (tI P), none, none, none, none, none] (inB h) = .ok (lI (dgs n Tr)) (inB h) := by
    refine lc_ok (arg_ok (h1 := inB h) (xs := [.int n]) rfl (rng_I (by omega))) (ys := (dgs n Tr).map .int) ?_ (by rw [List.length_map, dgs_len]; omega)
    unfold dgs
    rw [List.map_map]
    exact lc_emb1 .int _ (rgI n) fun v _ => ⟨[some (.int n), some d, some (tI P), none, some (.int v), none, none, none], rfl, len_deg q hl rfl rfl (by decide) (by decide) (by show 7 < 8; decide)⟩
  refine (cons_nx (ρ1 := [some (.int n), some d, some (tI P), some (lI (dgs n Tr)), none, none, none, none]) (h1 := inB h) (asg_ok e3 rfl)).trans (ret_ok ?_)
  have lk : ∀ s : SV, (sLkL 2 (sLkL 3 s)) [some (.int n), some d, some (tI P), some (lI (dgs n Tr)), none, none, none, none] (inB h) = s [some (.int n), some d, some (tI P), some (lI (dgs n Tr)), none, none, none, none] (inB h) := fun s => rfl
  refine (lk _).trans (lc_ok (xs := ((dgs n Tr).zip P).map fun z => D.tup [.int z.1, .int z.2]) (arg_ok (h1 := inB h) (xs := [lI (dgs n Tr), tI P]) rfl (by rw [← zip_ii]; rfl)) (ys := (nds n Tr P).map .int) ?_ (by rw [List.length_map, nds_len p]; omega))
  unfold nds
  rw [List.map_map]
  refine lc_emb1 (fun z : Int × Int => D.tup [.int z.1, .int z.2]) _ ((dgs n Tr).zip P) fun z hz => ⟨[some (.int n), some d, some (tI P), some (lI (dgs n Tr)), none, some (.int z.1), some (.int z.2), none], rfl, ?_⟩
  have pz := p.lo z.2 (List.of_mem_zip hz).2
  refine (op_ok (x := .int (z.1 + z.2 - 1)) (y := .int z.2) (op_ok (x := .int (z.1 + z.2)) (y := .int 1) (op_ok (x := .int z.1) (y := .int z.2) rfl rfl rfl) rfl rfl) rfl (fdivI ⟨by omega, by have := log2_lt (i := z.2) (k := 10) (by omega) (by omega); omega⟩)).trans ?_
  rw [nd_up pz.1]
  rfl
theorem all_n (q : Sq d (X.map .int)) {i j : Nat} {a c : SV} {lo hi : Int} (hl : X.length ≤ 900) (ei : ρ[i]? = some (some d)) (ha : ∀ x : Int, a ((wipeE ρ [j]).set j (some (.int x))) h = .ok (.int lo) h) (hc : ∀ x : Int, c ((wipeE ρ [j]).set j (some (.int x))) h = .ok (.int hi) h) (hj : j < ρ.length) : (sCall allD' (saCons (sLc false [j] (siSeq (sVar i)) (sgName j) (fun _ h => .ok true h) (sCall (f_is_number (tbC ct K)) (saCons (sVar j) (saCons a (saCons c saNil))))) saNil)) ρ h = .ok (.bl (X.all fun x => decide (lo ≤ x) && decide (x ≤ hi))) h := by
  have sz : (1000 : Nat) ≤ sizeLine := by decide
  exact all_emb (h := h) (own := [j]) .int X _ (q.seq ei) (fun x _ => ⟨(wipeE ρ [j]).set j (some (.int x)), rfl, call_ok (h1 := h) (xs := [.int x, .int lo, .int hi]) (cons_ok (var_ok (List.getElem?_set_self (by show j < (ρ.set j none).length; rw [List.length_set]; exact hj))) (cons_ok (ha x) (cons_ok (hc x) rfl))) num_ok⟩) (by omega)
theorem ports_k (p : Pr n P) (hn : n ≤ 8) : f_check_ports (tbC ct K) [.int n, tI P] h = .ok .non h := by
  have pl := p.len
  refine run_preN (hh := inB h) (ρ := [some (.int n), some (tI P), none]) rfl ?_ (by show h.bs.take h.bs.length = h.bs; exact List.take_length)
  show s_check_ports (tbC ct K) [some (.int n), some (tI P), none] (inB h) = _
  unfold s_check_ports
  have c1 : (sOr (sNot (sUn (isiD (tbC ct K) 4) (sVar 1))) (sOp (eqD true) (sCall lenD (saCons (sVar 1) saNil)) (sVar 0))) [some (.int n), some (tI P), none] (inB h) = .ok (.bl (!true || false)) (inB h) := by
    refine or_ok (not_ok (un_ok (x := tI P) rfl rfl)) fun _ => (op_ok (x := .int P.length) (y := .int n) (call_ok (xs := [tI P]) rfl lenTI) rfl (eq_ints (neg := true))).trans ?_
    rw [pl]
    simp
  have c2 := all_n (K := K) (h := inB h) (X := P) (d := tI P) (.inr rfl) (i := 1) (j := 2) (a := sK (.int 1)) (c := sK (.int 8)) (ρ := [some (.int n), some (tI P), none]) (by omega) rfl (fun x => rfl) (fun x => rfl) (by show 2 < 3; decide)
  have z : (P.all fun x => decide (1 ≤ x) && decide (x ≤ 8)) = true := List.all_eq_true.mpr fun x hx => by
    have := p.lo x hx
    rw [Bool.and_eq_true, decide_eq_true_eq, decide_eq_true_eq]
    exact this
  rw [z] at c2
  exact (cons_nx (if_f c1)).trans ((cons_nx (if_f (not_ok c2))).trans rfl)
def eT (p : P2 × Nat) : D := .tup [.int p.2, Ec.prD p.1]
theorem ct_loop (t : Trs n Tr) : ∀ (l : List (P2 × Nat)) (x2 x3 : Option D), (∀ z ∈ l, z.1 ∈ Tr) → ∃ y2 y3, loopS (sgTup 2 (sgCons (sgName 2) (sgCons (sgName 3) sgNil))) (l1_check_transfers (tbC ct K)) (l.map eT) [some (.int n), some d, x2, x3, none] h = .nx [some (.int n), some d, y2, y3, none] h
  | [], x2, x3, _ => ⟨x2, x3, rfl⟩
  | z :: l, x2, x3, hl => by
    have sz : (1000 : Nat) ≤ sizeLine := by decide
    have hz := hl z List.mem_cons_self
    have r1 := t.r1 z.1 hz
    have r2 := t.r2 z.1 hz
    have ne := t.ne z.1 hz
    obtain ⟨y2, y3, ih⟩ := ct_loop t l (some (.int z.2)) (some (Ec.prD z.1)) fun w hw => hl w (List.mem_cons_of_mem _ hw)
    refine ⟨y2, y3, ?_⟩
    rw [List.map_cons]
    refine (loop_step (ρ1 := [some (.int n), some d, some (.int z.2), some (Ec.prD z.1), none]) (h1 := h) rfl ?_).trans ih
    have c0 := all_n (K := K) (h := h) (X := [z.1.1, z.1.2]) (d := Ec.prD z.1) (.inr rfl) (i := 3) (j := 4) (a := sK (.int 0)) (c := sOp subD (sVar 0) (sK (.int 1))) (lo := 0) (hi := (n : Int) - 1) (ρ := [some (.int n), some d, some (.int z.2), some (Ec.prD z.1), none]) (by show 2 ≤ 900; decide) rfl (fun x => rfl) (fun x => op_ok (x := .int n) (y := .int 1) rfl rfl rfl) (by show 4 < 5; decide)
    have e0 : ([z.1.1, z.1.2].all fun x => decide (0 ≤ x) && decide (x ≤ (n : Int) - 1)) = true := List.all_eq_true.mpr fun x hx => by
      rw [Bool.and_eq_true, decide_eq_true_eq, decide_eq_true_eq]
      simp only [List.mem_cons, List.not_mem_nil, or_false] at hx
      rcases hx with rfl | rfl <;> omega
    rw [e0] at c0
    have c1 : (sOr (sNot (sUn (isiD (tbC ct K) 4) (sVar 3))) (sOr (sOp (eqD true) (sCall lenD (saCons (sVar 3) saNil)) (sK (.int 2))) (sNot (sCall allD' (saCons (sLc false [4] (siSeq (sVar 3)) (sgName 4) (fun _ h => .ok true h) (sCall (f_is_number (tbC ct K)) (saCons (sVar 4) (saCons (sK (.int 0)) (saCons (sOp subD (sVar 0) (sK (.int 1))) saNil))))) saNil))))) [some (.int n), some d, some (.int z.2), some (Ec.prD z.1), none] h = .ok (.bl (!true || (false || !true))) h :=
      or_ok (not_ok (un_ok (x := Ec.prD z.1) rfl rfl)) fun _ => or_ok ((op_ok (x := .int 2) (y := .int 2) (call_ok (xs := [Ec.prD z.1]) rfl rfl) rfl (eq_ints (neg := true))).trans (by simp)) fun _ => not_ok c0
    have c2 : (sOp (eqD false) (sOp ixD (sVar 3) (sK (.int 0))) (sOp ixD (sVar 3) (sK (.int 1)))) [some (.int n), some d, some (.int z.2), some (Ec.prD z.1), none] h = .ok (.bl false) h := by
      refine (op_ok (x := .int z.1.1) (y := .int z.1.2) (op_ok (x := Ec.prD z.1) (y := .int (0 : Nat)) rfl rfl (at_ rfl)) (op_ok (x := Ec.prD z.1) (y := .int (1 : Nat)) rfl rfl (at_ rfl)) (eq_ints (neg := false))).trans ?_
      rw [decide_eq_false ne]
      rfl
    unfold l1_check_transfers
    exact (cons_nx (if_f c1)).trans ((cons_nx (if_f c2)).trans rfl)
theorem transfers_k (t : Trs n Tr) (q : Sq d (tD Tr)) (hl : Tr.length ≤ 16) (hn : 1 ≤ n ∧ n ≤ 8) : f_check_transfers (tbC ct K) [.int n, d] h = .ok .non h := by
  have sz : (1000 : Nat) ≤ sizeLine := by decide
  obtain ⟨y2, y3, e⟩ := ct_loop (K := K) (h := inB h) (d := d) t Tr.zipIdx none none fun z hz => by
    obtain ⟨_, h2, h3⟩ := List.mem_zipIdx hz
    rw [h3]
    exact List.getElem_mem _
  refine run_preN (hh := inB h) (ρ := [some (.int n), some d, y2, y3, none]) rfl ?_ (by show h.bs.take h.bs.length = h.bs; exact List.take_length)
  show s_check_transfers (tbC ct K) [some (.int n), some d, none, none, none] (inB h) = _
  unfold s_check_transfers
  have c1 : (sNot (sCall (f_is_number (tbC ct K)) (saCons (sVar 0) (saCons (sK (.int 1)) (saCons (sK (.int 8)) saNil))))) [some (.int n), some d, none, none, none] (inB h) = .ok (.bl (!(decide (1 ≤ (n : Int)) && decide ((n : Int) ≤ 8)))) (inB h) := not_ok (call_ok (xs := [.int n, .int 1, .int 8]) rfl num_ok)
  rw [decide_eq_true (by omega : 1 ≤ (n : Int)), decide_eq_true (by omega : (n : Int) ≤ 8)] at c1
  have c2 : (sOr (sNot (sUn (isiD2 (tbC ct K) 5 4) (sVar 1))) (sOp gtS (sCall lenD (saCons (sVar 1) saNil)) (sK (.int 16)))) [some (.int n), some d, none, none, none] (inB h) = .ok (.bl (!true || false)) (inB h) := by
    refine or_ok (not_ok (un_ok (x := d) rfl ?_)) fun _ => (op_ok (x := .int (tD Tr).length) (y := .int 16) (call_ok (xs := [d]) rfl q.len) rfl rfl).trans ?_
    · rcases q with rfl | rfl <;> rfl
    · show VI.R.ok (D.bl (decide ((16 : Int) < ((tD Tr).length : Nat)))) (inB h) = _
      rw [decide_eq_false (by rw [List.length_map]; omega)]
  refine (cons_nx (if_f c1)).trans ((cons_nx (if_f c2)).trans ?_)
  have it : (siArg itEnum2 (saCons (sVar 1) saNil)) [some (.int n), some d, none, none, none] (inB h) = .ok (Tr.zipIdx.map eT, none) (inB h) := by
    refine arg_ok (xs := [d]) rfl ?_
    have : itEnum2 [d] (inB h) = .ok (enumL 0 (tD Tr), none) (inB h) := by rcases q with rfl | rfl <;> rfl
    rw [this, VI.Q.enum_map]
    rfl
  exact (cons_nx (for_ok it e)).trans rfl
end
end VI.K28
end
section
namespace VI.K28
open PySem PySem.Spec PyProof.Rows L2 VI VI.Std VI.Fl VI.Ec VI.Eu
open VI.Lay (rgI lt_ok ge_ok lenTI fil_emb all_emb any_emb)
section
variable {K : PySem.W.Frag} {h : Bs} {n m R : Nat} {Tr E A : List P2} {P X C O S T : List Int} {k i : Nat} {v r s : Int} {ρ : Ev} {d dx : D} {xs : List D} {c : List Int}
variable {cc : Int → Nat}
def rnd (R : Nat) (A : List P2) : List Int := colr (prt R (A.map (·.1)) c0) (prt R (A.map (·.2)) c0)
def odp (P : List Int) : Bool := P.any fun p => decide (p % 2 = 1)
def okk (Tr : List P2) (P : List Int) : Bool := two Tr || !odp P
noncomputable def RR (n : Nat) (Tr : List P2) (P : List Int) : Int := maxI (nds n Tr P)
theorem odp_k {j : Nat} (hl : P.length ≤ 900) (e2 : ρ[2]? = some (some (tI P))) (hj : j < ρ.length) : (sCall anyD' (saCons (sLc false [j] (siSeq (sVar 2)) (sgName j) (fun _ h => .ok true h) (sOp (eqD false) (sOp modD (sVar j) (sK (.int 2))) (sK (.int 1)))) saNil)) ρ h = .ok (.bl (odp P)) h := by
  have sz : (1000 : Nat) ≤ sizeLine := by decide
  exact any_emb (h := h) (own := [j]) .int P (fun p => decide (p % 2 = 1)) (Sq.seq (.inr rfl) e2) (fun p _ => ⟨(wipeE ρ [j]).set j (some (.int p)), rfl, op_ok (h1 := h) (h2 := h) (x := .int (p % 2)) (y := .int 1) (op_ok (h1 := h) (h2 := h) (x := .int p) (y := .int 2) (var_ok (List.getElem?_set_self (by show j < (ρ.set j none).length; rw [List.length_set]; exact hj))) rfl (modI (by decide))) rfl (eq_ints (neg := false))⟩) (by omega)
theorem bad_k {j : Nat} (q : Sq d (tD Tr)) (hT : Tr.length ≤ 60) (hl : P.length ≤ 900) (e1 : ρ[1]? = some (some d)) (e2 : ρ[2]? = some (some (tI P))) (hj : j < ρ.length) : (sAnd (sNot (sCall (f_is_two_sided (tbC ct K)) (saCons (sVar 1) saNil))) (sCall anyD' (saCons (sLc false [j] (siSeq (sVar 2)) (sgName j) (fun _ h => .ok true h) (sOp (eqD false) (sOp modD (sVar j) (sK (.int 2))) (sK (.int 1)))) saNil))) ρ h = .ok (.bl (!okk Tr P)) h := by
  refine (and_ok (not_ok (call_ok (h1 := h) (xs := [d]) (cons_ok (var_ok e1) rfl) (two_k q hT))) fun _ => odp_k hl e2 hj).trans ?_
  unfold okk
  rw [Bool.not_or, Bool.not_not]
theorem need_l {j1 j2 : Nat} (p : Pr n P) (q : Sq d (tD Tr)) (hT : Tr.length ≤ 60) (hn : n ≤ 8) {ρ' : Int × Int → Ev} (e0 : ρ[0]? = some (some (.int n))) (e1 : ρ[1]? = some (some d)) (e2 : ρ[2]? = some (some (tI P))) (g1 : ∀ z : Int × Int, sgTup 2 (sgCons (sgName j1) (sgCons (sgName j2) sgNil)) (D.tup [.int z.1, .int z.2]) (wipeE ρ [j1, j2]) h = .ok (ρ' z) h) (g2 : ∀ z, (sVar j1) (ρ' z) h = .ok (.int z.1) h) (g3 : ∀ z, (sVar j2) (ρ' z) h = .ok (.int z.2) h) : (sLc false [j1, j2] (siArg itZipX (saCons (sCall (f_degrees_of (tbC ct K)) (saCons (sVar 0) (saCons (sVar 1) saNil))) (saCons (sVar 2) saNil))) (sgTup 2 (sgCons (sgName j1) (sgCons (sgName j2) sgNil))) (fun _ h => .ok true h) (sCall (f_needed (tbC ct K)) (saCons (sVar j1) (saCons (sVar j2) saNil)))) ρ h = .ok (lI (nds n Tr P)) h := by
  have sz : (1000 : Nat) ≤ sizeLine := by decide
  refine lc_ok (xs := ((dgs n Tr).zip P).map fun z => D.tup [.int z.1, .int z.2]) (arg_ok (h1 := h) (xs := [lI (dgs n Tr), tI P]) (cons_ok (call_ok (h1 := h) (xs := [.int n, d]) (cons_ok (var_ok e0) (cons_ok (var_ok e1) rfl)) (degs_k q hT hn)) (cons_ok (var_ok e2) rfl)) (by rw [← zip_ii]; rfl)) (ys := (nds n Tr P).map .int) ?_ (by rw [List.length_map, nds_len p]; omega)
  unfold nds
  rw [List.map_map]
  exact lc_emb1 (fun z : Int × Int => D.tup [.int z.1, .int z.2]) _ ((dgs n Tr).zip P) fun z hz => ⟨ρ' z, g1 z, call_ok (h1 := h) (xs := [.int z.1, .int z.2]) (cons_ok (g2 z) (cons_ok (g3 z) rfl)) (needed_k (p.lo z.2 (List.of_mem_zip hz).2))⟩
theorem nds_ne (p : Pr n P) (hn : 1 ≤ n) : nds n Tr P ≠ [] := fun z => by
  have := nds_len (Tr := Tr) p
  rw [z, List.length_nil] at this
  omega
theorem fewest_k (p : Pr n P) (t : Trs n Tr) (q : Sq d (tD Tr)) (hl : Tr.length ≤ 16) (hn : 1 ≤ n ∧ n ≤ 8) (ok : okk Tr P = true) : f_fewest_rounds (tbC ct K) [.int n, d, tI P] h = .ok (.int (RR n Tr P)) h := by
  have pl := p.len
  refine run_rt rfl ?_ rfl
  show s_fewest_rounds (tbC ct K) [some (.int n), some d, some (tI P), none, none] (inB h) = _
  unfold s_fewest_rounds
  have b := bad_k (K := K) (h := inB h) (j := 4) (P := P) (ρ := [some (.int n), some d, some (tI P), none, none]) q (by omega) (by omega) rfl rfl (by show 4 < 5; decide)
  rw [ok] at b
  refine (cons_nx (expr_ok (call_ok (h1 := inB h) (xs := [.int n, d]) rfl (transfers_k t q hl hn)))).trans ?_
  refine (cons_nx (expr_ok (call_ok (h1 := inB h) (xs := [.int n, tI P]) rfl (ports_k p hn.2)))).trans ?_
  refine (cons_nx (if_f b)).trans (ret_ok ?_)
  exact call_ok (h1 := inB h) (xs := [lI (nds n Tr P)]) (cons_ok (need_l (ρ' := fun z => [some (.int n), some d, some (tI P), some (.int z.1), some (.int z.2)]) p q (by omega) hn.2 rfl rfl rfl (fun z => rfl) (fun z => rfl) fun z => rfl) rfl) (maxL_k (nds_ne p hn.1))
theorem tup_lI (hl : X.length ≤ 1000) : ∀ g : Bs, tupleD [lI X] g = .ok (tI X) g := fun g => by
  have sz : (1000 : Nat) ≤ sizeLine := by decide
  show newT (X.map D.int) g = _
  rw [newT_f (by rw [List.length_map]; omega)]
def prs (n : Nat) (Tr : List P2) : List P2 := if two Tr then Tr else dir n Tr
noncomputable def rds (n : Nat) (Tr : List P2) (P : List Int) : List Int := if RR n Tr P = 0 then [] else rnd (RR n Tr P).toNat (prs n Tr)
theorem prs_len (t : Trs n Tr) : (prs n Tr).length = Tr.length := by
  unfold prs
  split
  · rfl
  · exact dir_len t
theorem prs_get (t : Trs n Tr) (hi : i < (prs n Tr).length) : (prs n Tr)[i] = Tr[i]'(by rw [prs_len t] at hi; exact hi) ∨ (prs n Tr)[i] = ((Tr[i]'(by rw [prs_len t] at hi; exact hi)).2, (Tr[i]'(by rw [prs_len t] at hi; exact hi)).1) := by
  by_cases q : two Tr = true
  · left
    unfold prs
    simp only [q, if_true]
  · have e : prs n Tr = dir n Tr := by unfold prs; rw [if_neg q]
    have := dir_get t (i := i) (by rw [← e]; exact hi)
    simp only [e]
    exact this
theorem nd1_nn {a p : Int} (ha : 0 ≤ a) (hp : 1 ≤ p) : 0 ≤ nd1 a p ∧ nd1 a p ≤ a ∧ a ≤ nd1 a p * p := by
  unfold nd1
  have h1 := Int.mul_ediv_add_emod (-a) p
  have h2 := Int.emod_nonneg (-a) (b := p) (by omega)
  have h3 := Int.emod_lt_of_pos (-a) (b := p) (by omega)
  have h4 : -a / p ≤ 0 := Int.ediv_nonpos_of_nonpos_of_neg' ha hp
  have h5 : p * (-a / p) ≤ -a / p := by
    have := Int.mul_le_mul_of_nonpos_right (a := p) (b := 1) (c := -a / p) hp h4
    rw [Int.one_mul] at this
    exact this
  have h6 : -(-a / p) * p = -(p * (-a / p)) := by rw [Int.neg_mul, Int.mul_comm]
  refine ⟨by omega, ?_, by omega⟩
  have : -a ≤ -a / p := by
    refine Int.le_ediv_of_mul_le (by omega) ?_
    have := Int.mul_le_mul_of_nonpos_left (a := -a) (b := p) (c := 1) (by omega) hp
    rw [Int.mul_one] at this
    exact this
  omega
where
  Int.ediv_nonpos_of_nonpos_of_neg' {a p : Int} (ha : 0 ≤ a) (hp : 1 ≤ p) : -a / p ≤ 0 := by
    have := Int.ediv_le_ediv (a := -a) (b := 0) (c := p) (by omega) (by omega)
    rw [Int.zero_ediv] at this
    exact this
theorem deg_le (A : List P2) (v : Int) : deg A v ≤ A.length := List.length_filter_le _ _
theorem nds_nn (p : Pr n P) : ∀ x ∈ nds n Tr P, 0 ≤ x ∧ x ≤ Tr.length := fun x hx => by
  obtain ⟨z, hz, rfl⟩ := List.mem_map.mp hx
  obtain ⟨a, b⟩ := List.of_mem_zip hz
  obtain ⟨v, _, e⟩ := List.mem_map.mp a
  have pz := p.lo z.2 b
  have d1 := deg_le Tr v
  have := nd1_nn (a := z.1) (p := z.2) (by omega) pz.1
  omega
theorem RR_16 (p : Pr n P) (hn : 1 ≤ n) : 0 ≤ RR n Tr P ∧ RR n Tr P ≤ Tr.length := nds_nn p _ (maxI_mem (nds_ne p hn))
theorem prt_few' (hR : 0 < R) (q : P2) : @List.count P2 instBEqOfDecidableEq q (prt R X c0) ≤ R := by
  have := prt_few (X := X) hR q
  refine Nat.le_trans (Nat.le_of_eq ?_) this
  unfold List.count
  refine List.countP_congr fun x _ => ?_
  exact (@beq_iff_eq P2 instBEqOfDecidableEq inferInstance x q).trans (@beq_iff_eq P2 instBEqProd inferInstance x q).symm
end
end VI.K28
end
section
namespace VI.K28
open PySem PySem.Spec PyProof.Rows L2 VI VI.Std VI.Fl VI.Ec VI.Eu
open VI.Lay (rgI lt_ok ge_ok lenTI fil_emb all_emb any_emb)
section
variable {K : PySem.W.Frag} {h : Bs} {n m R : Nat} {Tr E A : List P2} {P X C O S T : List Int} {k i : Nat} {v r s : Int} {ρ : Ev} {d dx : D} {xs : List D} {c : List Int}
def cut (Tr : List P2) (X : List Int) (r : Int) : List P2 := ((Tr.zip X).filter fun z => decide (z.2 = r)).map (·.1)
def fB (n : Nat) (Tr : List P2) (P X : List Int) : Bool := X.all fun r => (rgI n).all fun v => decide (((deg (cut Tr X r) v : Nat) : Int) ≤ P.getD v.toNat 0)
theorem cut_two (e : A.length = Tr.length) (H : ∀ (i : Nat) (h1 : i < A.length) (h2 : i < Tr.length), A[i] = Tr[i] ∨ A[i] = (Tr[i].2, Tr[i].1)) (ne : ∀ p ∈ Tr, p.1 ≠ p.2) : deg (cut Tr c r) v = (((A.map (·.1)).zip c).filter fun z => decide (z.1 = v) && decide (z.2 = r)).length + (((A.map (·.2)).zip c).filter fun z => decide (z.1 = v) && decide (z.2 = r)).length := by
  induction Tr generalizing A c with
  | nil =>
    have : A = [] := List.length_eq_zero_iff.mp e
    subst this
    rfl
  | cons p Tr ih =>
    match A, e, H with
    | a :: A, e, H =>
      match c with
      | [] => rfl
      | x :: c =>
        have ih := ih (A := A) (c := c) (by simpa using e) (fun i h1 h2 => H (i + 1) (by rw [List.length_cons]; omega) (by rw [List.length_cons]; omega)) fun q hq => ne q (List.mem_cons_of_mem _ hq)
        have h0 : a = p ∨ a = (p.2, p.1) := H 0 (by simp) (by simp)
        have np := ne p List.mem_cons_self
        have ec : cut (p :: Tr) (x :: c) r = if x = r then p :: cut Tr c r else cut Tr c r := by
          unfold cut
          rw [List.zip_cons_cons, List.filter_cons]
          by_cases w : x = r
          · rw [if_pos (by simpa using w), if_pos w, List.map_cons]
          · rw [if_neg (by simpa using w), if_neg w]
        rw [ec, List.map_cons, List.map_cons, List.zip_cons_cons, List.zip_cons_cons, List.filter_cons, List.filter_cons]
        by_cases w : x = r
        · rw [if_pos w, deg_cons, ih, decide_eq_true w, Bool.and_true, Bool.and_true]
          by_cases i1 : inc v p = true
          · rw [if_pos i1]
            have j := inc_iff.mp i1
            have : (a.1 = v ∧ a.2 ≠ v) ∨ (a.1 ≠ v ∧ a.2 = v) := by
              rcases h0 with rfl | rfl
              · rcases j with z | z
                · exact .inl ⟨z.symm, fun y => np (z.symm.trans y.symm)⟩
                · exact .inr ⟨fun y => np (y.trans z), z.symm⟩
              · rcases j with z | z
                · exact .inr ⟨fun y => np (z.symm.trans y.symm), z.symm⟩
                · exact .inl ⟨z.symm, fun y => np (y.trans z)⟩
            rcases this with ⟨y1, y2⟩ | ⟨y1, y2⟩
            · rw [if_pos (by simpa using y1), if_neg (by simpa using y2), List.length_cons]
              omega
            · rw [if_neg (by simpa using y1), if_pos (by simpa using y2), List.length_cons]
              omega
          · rw [if_neg i1]
            have : a.1 ≠ v ∧ a.2 ≠ v := by
              have j1 : ¬ (v = p.1 ∨ v = p.2) := fun z => i1 (inc_iff.mpr z)
              rcases h0 with rfl | rfl
              · exact ⟨fun z => j1 (.inl z.symm), fun z => j1 (.inr z.symm)⟩
              · exact ⟨fun z => j1 (.inr z.symm), fun z => j1 (.inl z.symm)⟩
            rw [if_neg (by simpa using this.1), if_neg (by simpa using this.2)]
            rfl
        · rw [if_neg w, ih, decide_eq_false w, Bool.and_false, Bool.and_false]
          rfl
theorem mul_cut {a q R : Nat} (hR : 0 < R) (h : a * R ≤ q * R + (R - 1)) : a ≤ q := by
  apply Classical.byContradiction
  intro z
  have : (q + 1) * R ≤ a * R := Nat.mul_le_mul_right R (by omega)
  rw [Nat.succ_mul] at this
  omega
theorem cnt_deg1 : (Tr.map (·.1)).count v ≤ deg Tr v := by
  induction Tr with
  | nil => exact Nat.le_refl _
  | cons p Tr ih =>
    rw [List.map_cons, List.count_cons, deg_cons]
    by_cases q : p.1 = v
    · rw [if_pos (by simpa using q), if_pos (inc_iff.mpr (.inl q.symm))]
      omega
    · rw [if_neg (by simpa using q)]
      omega
theorem cnt_deg2 : (Tr.map (·.2)).count v ≤ deg Tr v := by
  induction Tr with
  | nil => exact Nat.le_refl _
  | cons p Tr ih =>
    rw [List.map_cons, List.count_cons, deg_cons]
    by_cases q : p.2 = v
    · rw [if_pos (by simpa using q), if_pos (inc_iff.mpr (.inr q.symm))]
      omega
    · rw [if_neg (by simpa using q)]
      omega
theorem two_one (h : two Tr = true) : (Tr.map (·.1)).count v = 0 ∨ (Tr.map (·.2)).count v = 0 := by
  by_cases q : v ∈ Tr.map (·.1)
  · right
    refine List.count_eq_zero.mpr fun w => ?_
    obtain ⟨p, hp, e⟩ := List.mem_map.mp w
    unfold two at h
    rw [Bool.not_eq_true', List.any_eq_false] at h
    exact h p hp (decide_eq_true (by rw [e]; exact q))
  · exact .inl (List.count_eq_zero.mpr q)
theorem nds_at (p : Pr n P) (hv : 0 ≤ v ∧ v < (n : Int)) : (nds n Tr P).getD v.toNat 0 = nd1 (deg Tr v) (P.getD v.toNat 0) ∧ P.getD v.toNat 0 ∈ P ∧ (nds n Tr P).getD v.toNat 0 ∈ nds n Tr P := by
  obtain ⟨k, rfl⟩ : ∃ k : Nat, v = (k : Int) := ⟨v.toNat, by omega⟩
  rw [Int.toNat_natCast]
  have hk : k < n := by omega
  have pl := p.len
  have h1 : k < (nds n Tr P).length := by rw [nds_len p]; exact hk
  have e1 : (nds n Tr P).getD k 0 = (nds n Tr P)[k] := by
    rw [List.getD_eq_getElem?_getD, List.getElem?_eq_getElem h1]
    rfl
  have e2 : P.getD k 0 = P[k]'(by omega) := by
    rw [List.getD_eq_getElem?_getD, List.getElem?_eq_getElem (by omega)]
    rfl
  have e3 : (nds n Tr P)[k]? = some (nd1 (deg Tr (k : Int)) (P[k]'(by omega))) := by
    unfold nds
    rw [List.getElem?_map, List.getElem?_eq_getElem (by rw [List.length_zip, dgs_len]; omega), List.getElem_zip]
    have : (dgs n Tr)[k]'(by rw [dgs_len]; exact hk) = ((deg Tr (k : Int) : Nat) : Int) := by
      have a : (dgs n Tr)[k]? = some ((deg Tr (k : Int) : Nat) : Int) := by
        unfold dgs rgI
        rw [List.getElem?_map, List.getElem?_map, List.getElem?_range hk]
        rfl
      rw [List.getElem?_eq_getElem (by rw [dgs_len]; exact hk)] at a
      exact Option.some.inj a
    rw [this]
    rfl
  rw [List.getElem?_eq_getElem h1] at e3
  rw [e1, e2, Option.some.inj e3]
  exact ⟨rfl, List.getElem_mem _, by rw [← Option.some.inj e3]; exact List.getElem_mem _⟩
theorem deg_R (p : Pr n P) (hn : 1 ≤ n) (hv : 0 ≤ v ∧ v < (n : Int)) : (deg Tr v : Int) ≤ RR n Tr P * P.getD v.toNat 0 := by
  obtain ⟨a, b, c⟩ := nds_at (Tr := Tr) p hv
  have pz := p.lo _ b
  have le := maxI_le c
  have := (nd1_nn (a := (deg Tr v : Int)) (p := P.getD v.toNat 0) (by omega) pz.1).2.2
  rw [a] at le
  have : nd1 (deg Tr v) (P.getD v.toNat 0) * P.getD v.toNat 0 ≤ RR n Tr P * P.getD v.toNat 0 := Int.mul_le_mul_of_nonneg_right le (by omega)
  omega
theorem R0_nil (p : Pr n P) (t : Trs n Tr) (hn : 1 ≤ n) (h : RR n Tr P = 0) : Tr = [] := by
  cases e : Tr with
  | nil => rfl
  | cons q l =>
    exfalso
    subst e
    have d1 := deg_R (Tr := q :: l) p hn (t.r1 q List.mem_cons_self)
    rw [h, Int.zero_mul] at d1
    rw [deg_cons, if_pos (inc_iff.mpr (.inl rfl))] at d1
    omega
theorem rds_ok (p : Pr n P) (t : Trs n Tr) (hn : 1 ≤ n ∧ n ≤ 8) (ok : okk Tr P = true) : (rds n Tr P).length = Tr.length ∧ (∀ x ∈ rds n Tr P, 0 ≤ x ∧ x < RR n Tr P) ∧ fB n Tr P (rds n Tr P) = true := by
  have rr := RR_16 (Tr := Tr) p hn.1
  by_cases r0 : RR n Tr P = 0
  · have := R0_nil p t hn.1 r0
    subst this
    have er : rds n [] P = [] := if_pos r0
    rw [er]
    exact ⟨rfl, (fun x hx => by cases hx), rfl⟩
  · obtain ⟨R, hR⟩ : ∃ R : Nat, RR n Tr P = (R : Int) := ⟨(RR n Tr P).toNat, by omega⟩
    have er : rds n Tr P = rnd R (prs n Tr) := by
      unfold rds
      rw [if_neg r0, hR, Int.toNat_natCast]
    have hR0 : 0 < R := by omega
    have G := colr_ok (Ts := prt R ((prs n Tr).map (·.1)) c0) (Hs := prt R ((prs n Tr).map (·.2)) c0) (Δ := R) (prt_few' hR0) (prt_few' hR0)
    have cl : (rnd R (prs n Tr)).length = Tr.length := by
      unfold rnd
      rw [G.2, List.length_zip, prt_len, prt_len, List.length_map, List.length_map, prs_len t]
      omega
    rw [er]
    refine ⟨cl, fun x hx => ?_, ?_⟩
    · have := G.1.lo x hx
      omega
    · refine List.all_eq_true.mpr fun r _ => List.all_eq_true.mpr fun v hv => decide_eq_true ?_
      have hv := Lay.mem_rgI.mp hv
      have dR := deg_R (Tr := Tr) p hn.1 hv
      have pm := (nds_at (Tr := Tr) p hv).2.1
      have pz := p.lo _ pm
      obtain ⟨pp, hpp⟩ : ∃ pp : Nat, P.getD v.toNat 0 = (pp : Int) := ⟨(P.getD v.toNat 0).toNat, by omega⟩
      rw [hR, hpp] at dR
      rw [hpp]
      have dR : deg Tr v ≤ pp * R := by
        rw [Nat.mul_comm]
        exact Int.ofNat_le.mp (by rw [Int.natCast_mul]; exact dR)
      rw [cut_two (A := prs n Tr) (prs_len t) (fun i h1 h2 => prs_get t h1) t.ne]
      have G1 : Pro (rnd R (prs n Tr)).length (ndX (prt R ((prs n Tr).map (·.1)) c0)) (nc (rnd R (prs n Tr))) := G.1.pT
      have G2 : Pro (rnd R (prs n Tr)).length (ndX (prt R ((prs n Tr).map (·.2)) c0)) (nc (rnd R (prs n Tr))) := G.1.pH
      have f1 := part_fit (X := (prs n Tr).map (·.1)) hR0 (c := rnd R (prs n Tr)) (by rw [cl, List.length_map, prs_len t]; exact Nat.le_refl _) G1 v r
      have f2 := part_fit (X := (prs n Tr).map (·.2)) hR0 (c := rnd R (prs n Tr)) (by rw [cl, List.length_map, prs_len t]; exact Nat.le_refl _) G2 v r
      generalize ((((prs n Tr).map (·.1)).zip (rnd R (prs n Tr))).filter fun z => decide (z.1 = v) && decide (z.2 = r)).length = a at *
      generalize ((((prs n Tr).map (·.2)).zip (rnd R (prs n Tr))).filter fun z => decide (z.1 = v) && decide (z.2 = r)).length = b at *
      by_cases w : two Tr = true
      · have e : prs n Tr = Tr := by unfold prs; rw [if_pos w]
        rw [e] at f1 f2
        have k1 := cnt_deg1 (Tr := Tr) (v := v)
        have k2 := cnt_deg2 (Tr := Tr) (v := v)
        rcases two_one (v := v) w with z | z
        · have a0 : a ≤ 0 := mul_cut hR0 (by rw [z] at f1; omega)
          have b0 : b ≤ pp := mul_cut hR0 (by omega)
          omega
        · have a0 : a ≤ pp := mul_cut hR0 (by omega)
          have b0 : b ≤ 0 := mul_cut hR0 (by rw [z] at f2; omega)
          omega
      · have e : prs n Tr = dir n Tr := by unfold prs; rw [if_neg w]
        rw [e] at f1 f2
        obtain ⟨o1, o2⟩ := dir_out t hv
        have ev : pp % 2 = 0 := by
          unfold okk at ok
          have w' : two Tr = false := by simpa using w
          rw [w', Bool.false_or, Bool.not_eq_true'] at ok
          unfold odp at ok
          rw [List.any_eq_false] at ok
          have := ok _ pm
          rw [hpp] at this
          have : ¬ ((pp : Int) % 2 = 1) := fun z => this (decide_eq_true z)
          omega
        obtain ⟨q, rfl⟩ : ∃ q, pp = 2 * q := ⟨pp / 2, by omega⟩
        have e2 : 2 * q * R = 2 * (q * R) := Nat.mul_assoc 2 q R
        have a0 : a ≤ q := mul_cut hR0 (by omega)
        have b0 : b ≤ q := mul_cut hR0 (by omega)
        omega
end
end VI.K28
end
section
namespace VI.K28
open VI.Eu VI.Ec
open VI.Lay (rgI mem_rgI rgI_len)
open VI.Fl (maxI_mem maxI_le maxI)
section
variable {n m k : Nat} {Tr : List P2} {P X A : List Int} {r v x y : Int}
structure Vx (n : Nat) (Tr : List P2) (P : List Int) (k : Nat) (X : List Int) : Prop where
  len : X.length = Tr.length
  lo : ∀ x ∈ X, 0 ≤ x ∧ x < (k : Int)
  fb : fB n Tr P X = true
def Ext (n : Nat) (Tr : List P2) (P : List Int) (k : Nat) (A : List Int) : Prop := ∃ X, Vx n Tr P k X ∧ A <+: X
theorem fB_iff : fB n Tr P X = true ↔ ∀ r ∈ X, ∀ v ∈ rgI n, ((deg (cut Tr X r) v : Nat) : Int) ≤ P.getD v.toNat 0 := by
  unfold fB
  rw [List.all_eq_true]
  refine ⟨fun h r hr v hv => ?_, fun h r hr => ?_⟩
  · exact of_decide_eq_true (List.all_eq_true.mp (h r hr) v hv)
  · exact List.all_eq_true.mpr fun v hv => decide_eq_true (h r hr v hv)
theorem deg_sub {A B : List P2} (s : A.Sublist B) (v : Int) : deg A v ≤ deg B v := (s.filter _).length_le
theorem zip_take : ∀ (j : Nat) (A : List P2) (B : List Int), (A.take j).zip (B.take j) = (A.zip B).take j
  | 0, _, _ => by simp
  | j + 1, [], _ => by simp
  | j + 1, _ :: _, [] => by simp
  | j + 1, x :: A, y :: B => by simp [zip_take j A B]
theorem fB_take (h : fB n Tr P X = true) (j : Nat) : fB n (Tr.take j) P (X.take j) = true := by
  rw [fB_iff] at h ⊢
  intro r hr v hv
  have := h r (List.mem_of_mem_take hr) v hv
  have s : (cut (Tr.take j) (X.take j) r).Sublist (cut Tr X r) := by
    unfold cut
    rw [zip_take]
    exact ((List.take_sublist j _).filter _).map _
  have := deg_sub s v
  omega
theorem cut_map {f : Int → Int} (inj : ∀ a b, f a = f b → a = b) (r : Int) : cut Tr (X.map f) (f r) = cut Tr X r := by
  unfold cut
  rw [List.zip_map_right, List.filter_map, List.map_map]
  have e : ((fun z : P2 × Int => decide (z.2 = f r)) ∘ Prod.map id f) = fun z => decide (z.2 = r) := by
    funext z
    show decide (f z.2 = f r) = decide (z.2 = r)
    exact decide_eq_decide.mpr ⟨fun e => inj _ _ e, fun e => by rw [e]⟩
  rw [e]
  rfl
theorem fB_map {f : Int → Int} (inj : ∀ a b, f a = f b → a = b) (h : fB n Tr P X = true) : fB n Tr P (X.map f) = true := by
  rw [fB_iff] at h ⊢
  intro r hr v hv
  obtain ⟨s, hs, rfl⟩ := List.mem_map.mp hr
  rw [cut_map inj]
  exact h s hs v hv
def srch (n : Nat) (Tr : List P2) (P : List Int) (k : Nat) : Nat → Nat → List Int → Bool
  | 0, _, _ => true
  | f + 1, c, A => (List.range (min k (c + 1))).any fun l => fB n (Tr.take (A.length + 1)) P (A ++ [(l : Int)]) && srch n Tr P k f (max c (l + 1)) (A ++ [(l : Int)])
structure Inv (c : Nat) (A : List Int) : Prop where
  lo : ∀ x ∈ A, 0 ≤ x ∧ x < (c : Int)
  all : ∀ j < c, (j : Int) ∈ A
theorem Inv.more {c l : Nat} (I : Inv c A) (hl : l ≤ c) : Inv (max c (l + 1)) (A ++ [(l : Int)]) := by
  refine ⟨fun x hx => ?_, fun j hj => ?_⟩
  · rcases List.mem_append.mp hx with hx | hx
    · have := I.lo x hx
      omega
    · rw [List.mem_singleton.mp hx]
      omega
  · by_cases q : j < c
    · exact List.mem_append_left _ (I.all j q)
    · have : j = l := by omega
      exact List.mem_append_right _ (by rw [this]; exact List.mem_singleton_self _)
theorem srch_iff : ∀ (f c : Nat) (A : List Int), A.length + f = Tr.length → Inv c A → fB n (Tr.take A.length) P A = true → c ≤ k → (srch n Tr P k f c A = true ↔ Ext n Tr P k A)
  | 0, c, A, hl, I, hb, hc => by
    refine ⟨fun _ => ⟨A, ⟨by omega, fun x hx => ?_, ?_⟩, List.prefix_refl A⟩, fun _ => rfl⟩
    · have := I.lo x hx
      omega
    · rw [List.take_of_length_le (by omega)] at hb
      exact hb
  | f + 1, c, A, hl, I, hb, hc => by
    have ih := fun (l : Nat) (h1 : l ≤ c) (h2 : fB n (Tr.take (A.length + 1)) P (A ++ [(l : Int)]) = true) (h3 : l < k) => srch_iff f (max c (l + 1)) (A ++ [(l : Int)]) (by rw [List.length_append, List.length_singleton]; omega) (I.more h1) (by rw [List.length_append, List.length_singleton]; exact h2) (by omega)
    constructor
    · intro h
      obtain ⟨l, hl1, hl2⟩ := List.any_eq_true.mp h
      have hl1 := List.mem_range.mp hl1
      rw [Bool.and_eq_true] at hl2
      obtain ⟨X, V, pr⟩ := (ih l (by omega) hl2.1 (by omega)).mp hl2.2
      exact ⟨X, V, (List.prefix_append _ _).trans pr⟩
    · rintro ⟨X, V, pr⟩
      have hA : A.length < X.length := by have := V.len; omega
      obtain ⟨B, rfl⟩ := pr
      cases B with
      | nil => rw [List.append_nil] at hA; omega
      | cons x B =>
        have hx := V.lo x (by simp)
        have key : ∀ (l : Nat) (X' : List Int), l ≤ c → l < k → Vx n Tr P k X' → A ++ [(l : Int)] <+: X' → srch n Tr P k (f + 1) c A = true := fun l X' h1 h2 V' pr' => by
          refine List.any_eq_true.mpr ⟨l, List.mem_range.mpr (by omega), ?_⟩
          have t := fB_take V'.fb (A.length + 1)
          have e : X'.take (A.length + 1) = A ++ [(l : Int)] := by
            have := List.prefix_iff_eq_take.mp pr'
            rw [List.length_append, List.length_singleton] at this
            exact this.symm
          rw [e] at t
          rw [Bool.and_eq_true]
          exact ⟨t, (ih l h1 t h2).mpr ⟨X', V', pr'⟩⟩
        by_cases q : x < (c : Int)
        · have ex : ((x.toNat : Nat) : Int) = x := by omega
          refine key x.toNat _ (by omega) (by omega) V ?_
          rw [ex]
          exact ⟨B, by simp⟩
        · have inj : ∀ a b, Sn.sw (c : Int) x a = Sn.sw (c : Int) x b → a = b := fun a b e => Sn.sw_inj e
          refine key c ((A ++ x :: B).map (Sn.sw (c : Int) x)) (Nat.le_refl c) (by omega) ⟨by rw [List.length_map]; exact V.len, fun z hz => ?_, fB_map inj V.fb⟩ ?_
          · obtain ⟨y, hy, rfl⟩ := List.mem_map.mp hz
            have := V.lo y hy
            unfold Sn.sw
            split
            · exact hx
            · split
              · omega
              · exact this
          · have eA : A.map (Sn.sw (c : Int) x) = A := by
              refine (List.map_congr_left fun a ha => ?_).trans (List.map_id A)
              have := I.lo a ha
              exact Sn.sw_ne (by omega) (by omega)
            have ex : Sn.sw (c : Int) x x = c := by
              unfold Sn.sw
              split
              · omega
              · rw [if_pos rfl]
            refine ⟨B.map (Sn.sw (c : Int) x), ?_⟩
            rw [List.map_append, List.map_cons, eA, ex]
            simp
def can (n : Nat) (Tr : List P2) (P : List Int) (k : Nat) : Bool := srch n Tr P k Tr.length 0 []
theorem can_iff : can n Tr P k = true ↔ ∃ X, Vx n Tr P k X := by
  have h := srch_iff (n := n) (Tr := Tr) (P := P) (k := k) Tr.length 0 [] (by simp) ⟨fun x hx => (by cases hx), fun j hj => absurd hj (by omega)⟩ rfl (by omega)
  unfold can
  rw [h]
  exact ⟨fun ⟨X, V, _⟩ => ⟨X, V⟩, fun ⟨X, V⟩ => ⟨X, V, List.nil_prefix⟩⟩
theorem sum_keys : ∀ (S : List Int) (L : List (P2 × Int)), S.Nodup → (∀ z ∈ L, z.2 ∈ S) → (S.map fun s => (L.filter fun z => decide (z.2 = s)).length).sum = L.length
  | S, [], _, _ => by
    have : ∀ S : List Int, (S.map fun s => (([] : List (P2 × Int)).filter fun z => decide (z.2 = s)).length).sum = 0 := fun S => by
      induction S with
      | nil => rfl
      | cons s S ih => rw [List.map_cons, List.sum_cons, ih]; rfl
    exact this S
  | S, z :: L, nd, h => by
    have ih := sum_keys S L nd fun w hw => h w (List.mem_cons_of_mem _ hw)
    have hz := h z List.mem_cons_self
    have key : ∀ S : List Int, (S.map fun s => ((z :: L).filter fun z => decide (z.2 = s)).length).sum = (S.map fun s => (L.filter fun z => decide (z.2 = s)).length).sum + S.count z.2 := fun S => by
      induction S with
      | nil => rfl
      | cons s S ihS =>
        rw [List.map_cons, List.map_cons, List.sum_cons, List.sum_cons, ihS, List.filter_cons, List.count_cons]
        by_cases q : z.2 = s
        · rw [if_pos (decide_eq_true q), if_pos (by simpa using q.symm), List.length_cons]
          omega
        · rw [if_neg (by simpa using q), if_neg (by simpa using fun z => q z.symm)]
          omega
    rw [key, ih, count_nd nd hz, List.length_cons]
theorem sum_le {f : Int → Nat} {b : Nat} : ∀ S : List Int, (∀ s ∈ S, f s ≤ b) → (S.map f).sum ≤ S.length * b
  | [], _ => by simp
  | s :: S, h => by
    have ih := sum_le S fun x hx => h x (List.mem_cons_of_mem _ hx)
    have := h s List.mem_cons_self
    rw [List.map_cons, List.sum_cons, List.length_cons, Nat.add_mul]
    omega
theorem zip_fst' (A : List P2) (B : List Int) (h : A.length = B.length) : (A.zip B).map (·.1) = A := by
  have := List.map_fst_zip (l₁ := A) (l₂ := B) (by omega)
  exact this
theorem deg_cut (v r : Int) : deg (cut Tr X r) v = (((Tr.zip X).filter fun z => inc v z.1).filter fun z => decide (z.2 = r)).length := by
  unfold deg cut
  rw [List.filter_map, List.length_map, List.filter_filter, List.filter_filter]
  congr 2
  funext z
  show (inc v z.1 && _) = _
  exact Bool.and_comm _ _
theorem deg_top (V : Vx n Tr P k X) (p : Pr n P) (hv : 0 ≤ v ∧ v < (n : Int)) : (deg Tr v : Int) ≤ k * P.getD v.toNat 0 := by
  have pv : 0 ≤ P.getD v.toNat 0 := by
    have := p.lo _ (nds_at (Tr := Tr) p hv).2.1
    omega
  obtain ⟨b, eb⟩ : ∃ b : Nat, (b : Int) = P.getD v.toNat 0 := ⟨(P.getD v.toNat 0).toNat, by omega⟩
  have s := sum_keys (rgI k) ((Tr.zip X).filter fun z => inc v z.1) (rg_nd k) fun z hz => by
    have := List.of_mem_zip (List.mem_filter.mp hz).1
    exact mem_rgI.mpr (V.lo _ this.2)
  have le := sum_le (f := fun s => (((Tr.zip X).filter fun z => inc v z.1).filter fun z => decide (z.2 = s)).length) (b := b) (rgI k) fun r hr => by
    show (((Tr.zip X).filter fun z => inc v z.1).filter fun z => decide (z.2 = r)).length ≤ b
    by_cases q : r ∈ X
    · have := fB_iff.mp V.fb r q v (mem_rgI.mpr hv)
      rw [deg_cut] at this
      omega
    · have : ((Tr.zip X).filter fun z => inc v z.1).filter (fun z => decide (z.2 = r)) = [] := List.filter_eq_nil_iff.mpr fun z hz w => by
        have := List.of_mem_zip (List.mem_filter.mp hz).1
        exact q (of_decide_eq_true w ▸ this.2)
      rw [this]
      exact Nat.zero_le _
  rw [rgI_len] at le
  have e : ((Tr.zip X).filter fun z => inc v z.1).length = deg Tr v := by
    unfold deg
    have : Tr.filter (inc v) = ((Tr.zip X).map (·.1)).filter (inc v) := by rw [zip_fst' _ _ V.len.symm]
    rw [this, List.filter_map, List.length_map]
    rfl
  have c : ((k * b : Nat) : Int) = k * P.getD v.toNat 0 := by rw [Int.natCast_mul, eb]
  rw [← c]
  omega
theorem nd1_le {a p : Int} (hp : 1 ≤ p) (h : a ≤ k * p) : nd1 a p ≤ k := by
  unfold nd1
  have : -(k : Int) ≤ -a / p := Int.le_ediv_of_mul_le (by omega) (by rw [Int.neg_mul]; omega)
  omega
theorem zip_eq (p : Pr n P) (A : List P2) : (dgs n A).zip P = (rgI n).map fun v => (((deg A v : Nat) : Int), P.getD v.toNat 0) := by
  refine List.ext_getElem (by rw [List.length_zip, dgs_len, p.len, List.length_map, rgI_len]; omega) fun i h1 h2 => ?_
  rw [List.length_zip, dgs_len, p.len] at h1
  have hp : i < P.length := by rw [p.len]; omega
  rw [List.getElem_zip, List.getElem_map]
  have er : (rgI n)[i]'(by rw [rgI_len]; omega) = (i : Int) := by
    unfold rgI
    rw [List.getElem_map, List.getElem_range]
  have ed : (dgs n A)[i]'(by rw [dgs_len]; omega) = ((deg A (i : Int) : Nat) : Int) := by
    unfold dgs
    rw [List.getElem_map, er]
  rw [ed, er, Int.toNat_natCast, List.getD_eq_getElem?_getD, List.getElem?_eq_getElem hp]
  rfl
theorem mem_nds (p : Pr n P) (h : x ∈ nds n Tr P) : ∃ v, (0 ≤ v ∧ v < (n : Int)) ∧ x = nd1 (deg Tr v) (P.getD v.toNat 0) := by
  unfold nds at h
  rw [zip_eq p, List.map_map] at h
  obtain ⟨v, hv, rfl⟩ := List.mem_map.mp h
  exact ⟨v, mem_rgI.mp hv, rfl⟩
theorem RR_le (p : Pr n P) (hn : 1 ≤ n) (V : Vx n Tr P k X) : RR n Tr P ≤ k := by
  obtain ⟨v, hv, e⟩ := mem_nds p (maxI_mem (nds_ne (Tr := Tr) p hn))
  show maxI (nds n Tr P) ≤ k
  rw [e]
  exact nd1_le (p.lo _ (nds_at (Tr := Tr) p hv).2.1).1 (deg_top V p hv)
theorem cut_few (hX : X.length = Tr.length) (nd : X.Nodup) (v r : Int) : deg (cut Tr X r) v ≤ 1 := by
  have e : ((Tr.zip X).filter fun z => decide (z.2 = r)).length = (X.filter fun x => decide (x = r)).length := by
    have s : (Tr.zip X).map (·.2) = X := List.map_snd_zip (l₁ := Tr) (l₂ := X) (by omega)
    have : X.filter (fun x => decide (x = r)) = ((Tr.zip X).map (·.2)).filter fun x => decide (x = r) := by rw [s]
    rw [this, List.filter_map, List.length_map]
    rfl
  have l1 : (X.filter fun x => decide (x = r)).length ≤ 1 := by
    have := nd_le (l := X.filter fun x => decide (x = r)) (u := [r]) (nd.sublist List.filter_sublist) fun y hy => by
      rw [of_decide_eq_true (List.mem_filter.mp hy).2]
      exact List.mem_singleton_self _
    exact this
  have l2 : deg (cut Tr X r) v ≤ (cut Tr X r).length := List.length_filter_le _ _
  have l3 : (cut Tr X r).length = ((Tr.zip X).filter fun z => decide (z.2 = r)).length := by unfold cut; rw [List.length_map]
  omega
theorem own_rounds (p : Pr n P) : Vx n Tr P Tr.length (rgI Tr.length) := by
  refine ⟨rgI_len, fun x hx => mem_rgI.mp hx, fB_iff.mpr fun r hr v hv => ?_⟩
  have a := cut_few (Tr := Tr) (X := rgI Tr.length) rgI_len (rg_nd _) v r
  have := p.lo _ (nds_at (Tr := Tr) p (mem_rgI.mp hv)).2.1
  omega
theorem zip_rev : ∀ (A : List P2) (B : List Int), A.length = B.length → A.reverse.zip B.reverse = (A.zip B).reverse
  | [], [], _ => rfl
  | [], _ :: _, h => by simp at h
  | _ :: _, [], h => by simp at h
  | x :: A, y :: B, h => by
    have h' : A.length = B.length := by simpa using h
    rw [List.reverse_cons, List.reverse_cons, List.zip_append (by simpa using h'), zip_rev A B h']
    simp
theorem Vx.rev (V : Vx n Tr P k X) : Vx n Tr.reverse P k X.reverse := by
  refine ⟨by rw [List.length_reverse, List.length_reverse]; exact V.len, fun x hx => V.lo x (List.mem_reverse.mp hx), fB_iff.mpr fun r hr v hv => ?_⟩
  have := fB_iff.mp V.fb r (List.mem_reverse.mp hr) v hv
  have e : deg (cut Tr.reverse X.reverse r) v = deg (cut Tr X r) v := by
    unfold cut
    rw [zip_rev _ _ V.len.symm, List.filter_reverse, List.map_reverse]
    unfold deg
    rw [List.filter_reverse, List.length_reverse]
  rw [e]
  exact this
theorem can_rev : can n Tr.reverse P k = can n Tr P k := by
  rw [Bool.eq_iff_iff, can_iff, can_iff]
  exact ⟨fun ⟨X, V⟩ => ⟨X.reverse, by have := V.rev; rw [List.reverse_reverse] at this; exact this⟩, fun ⟨X, V⟩ => ⟨X.reverse, V.rev⟩⟩
theorem nd_one {L : List Nat} (nd : L.Nodup) (h : ∀ i ∈ L, ∀ j ∈ L, i = j) : L.length ≤ 1 := by
  match L, nd, h with
  | [], _, _ => simp
  | [_], _, _ => simp
  | i :: j :: L, nd, h =>
    have := h i (by simp) j (by simp)
    rw [List.nodup_cons] at nd
    exact absurd (by rw [this]; simp) nd.1
theorem tr_ed : Tr = (List.range Tr.length).map (Sn.ed Tr) := by
  refine List.ext_getElem (by simp) fun i h1 h2 => ?_
  rw [List.getElem_map, List.getElem_range]
  unfold Sn.ed
  rw [List.getD_eq_getElem?_getD, List.getElem?_eq_getElem h1]
  rfl
theorem dg_deg : Sn.dg Tr Tr.length v = deg Tr v := by
  have e : deg Tr v = deg ((List.range Tr.length).map (Sn.ed Tr)) v := by rw [← tr_ed]
  rw [e, Sn.deg_F]
  rfl
theorem one_port (hP : P = List.replicate n 1) (hn : 1 ≤ n) (hn8 : n ≤ 8) (t : Trs n Tr) : ∃ X, Vx n Tr P (RR n Tr P * 3 / 2).toNat X := by
  have p : Pr n P := ⟨by rw [hP, List.length_replicate], fun x hx => by rw [hP] at hx; rw [List.eq_of_mem_replicate hx]; decide⟩
  have p1 : ∀ v, (0 ≤ v ∧ v < (n : Int)) → P.getD v.toNat 0 = 1 := fun v hv => by
    have := (nds_at (Tr := Tr) p hv).2.1
    rw [hP] at this ⊢
    exact List.eq_of_mem_replicate this
  have top : ∀ x, (deg Tr x : Int) ≤ RR n Tr P := fun v => by
    by_cases hv : 0 ≤ v ∧ v < (n : Int)
    · obtain ⟨a1, _, a3⟩ := nds_at (Tr := Tr) p hv
      have := maxI_le a3
      rw [a1, p1 v hv] at this
      have e : nd1 (deg Tr v) 1 = deg Tr v := by unfold nd1; rw [Int.ediv_one]; omega
      rw [e] at this
      exact this
    · have z : deg Tr v = 0 := deg_0 fun q hq => by
        have := t.r1 q hq
        have := t.r2 q hq
        constructor <;> (intro e; omega)
      have b := (nds_at (Tr := Tr) (v := 0) p (by omega))
      have := maxI_le b.2.2
      rw [b.1, p1 0 (by omega)] at this
      have e : nd1 (deg Tr 0) 1 = deg Tr 0 := by unfold nd1; rw [Int.ediv_one]; omega
      rw [e] at this
      rw [z]
      show ((0 : Nat) : Int) ≤ maxI _
      omega
  have r0 := top 0
  obtain ⟨Δ, eΔ⟩ : ∃ Δ : Nat, (Δ : Int) = RR n Tr P := ⟨(RR n Tr P).toNat, by omega⟩
  rw [← eΔ]
  obtain ⟨k, ek⟩ : ∃ k : Nat, k = ((Δ : Int) * 3 / 2).toNat := ⟨_, rfl⟩
  rw [← ek]
  have mem : ∀ i < Tr.length, Sn.ed Tr i ∈ Tr := fun i hi => by
    unfold Sn.ed
    rw [List.getD_eq_getElem?_getD, List.getElem?_eq_getElem hi]
    exact List.getElem_mem hi
  obtain ⟨c, C⟩ := Sn.shannon (E := Tr) (n := n) (k := k) (Δ := Δ) (by omega) Tr.length (fun i hi => ⟨mem_rgI.mpr (t.r1 _ (mem i hi)), mem_rgI.mpr (t.r2 _ (mem i hi))⟩) (fun i hi => t.ne _ (mem i hi)) fun x => by
    rw [dg_deg]
    have := top x
    omega
  refine ⟨(List.range Tr.length).map c, ⟨by simp, fun x hx => ?_, fB_iff.mpr fun r hr v hv => ?_⟩⟩
  · obtain ⟨i, hi, rfl⟩ := List.mem_map.mp hx
    exact mem_rgI.mp (C.2 i (List.mem_range.mp hi))
  · rw [p1 v (mem_rgI.mp hv)]
    have ez : Tr.zip ((List.range Tr.length).map c) = (List.range Tr.length).map fun i => (Sn.ed Tr i, c i) := by
      refine List.ext_getElem (by simp) fun i h1 h2 => ?_
      rw [List.getElem_zip, List.getElem_map, List.getElem_map, List.getElem_range]
      have hi : i < Tr.length := by simpa using h2
      congr 1
      unfold Sn.ed
      rw [List.getD_eq_getElem?_getD, List.getElem?_eq_getElem hi]
      rfl
    have := nd_one (L := ((List.range Tr.length).filter fun i => inc v (Sn.ed Tr i)).filter fun i => decide (c i = r)) ((List.nodup_range.sublist List.filter_sublist).sublist List.filter_sublist) fun i hi j hj => by
      obtain ⟨i1, i2⟩ := List.mem_filter.mp hi
      obtain ⟨j1, j2⟩ := List.mem_filter.mp hj
      obtain ⟨i1, i3⟩ := List.mem_filter.mp i1
      obtain ⟨j1, j3⟩ := List.mem_filter.mp j1
      exact C.1 i j v (List.mem_range.mp i1) (List.mem_range.mp j1) i3 j3 ((of_decide_eq_true i2).trans (of_decide_eq_true j2).symm)
    rw [deg_cut, ez, List.filter_map, List.filter_map, List.length_map]
    show (((((List.range Tr.length).filter fun i => inc v (Sn.ed Tr i)).filter fun i => decide (c i = r)).length : Nat) : Int) ≤ 1
    omega
theorem least (p : Pr n P) (hn : 1 ≤ n) : ∃ L : Nat, can n Tr P L = true ∧ (∀ j < L, can n Tr P j = false) ∧ RR n Tr P ≤ L ∧ L ≤ Tr.length := by
  have top : can n Tr P Tr.length = true := can_iff.mpr ⟨_, own_rounds p⟩
  have : ∀ f a : Nat, (∀ j < a, can n Tr P j = false) → a + f = Tr.length → ∃ L : Nat, can n Tr P L = true ∧ (∀ j < L, can n Tr P j = false) ∧ L ≤ Tr.length := fun f => by
    induction f with
    | zero => exact fun a h e => ⟨a, by rw [show a = Tr.length by omega]; exact top, h, by omega⟩
    | succ f ih =>
      intro a h e
      cases q : can n Tr P a with
      | true => exact ⟨a, q, h, by omega⟩
      | false =>
        refine ih (a + 1) (fun j hj => ?_) (by omega)
        by_cases w : j = a
        · rw [w]; exact q
        · exact h j (by omega)
  obtain ⟨L, h1, h2, h3⟩ := this Tr.length 0 (fun j hj => absurd hj (by omega)) (by omega)
  obtain ⟨X, V⟩ := can_iff.mp h1
  exact ⟨L, h1, h2, RR_le p hn V, h3⟩
end
end VI.K28
end
section
namespace VI.K28
open PySem PySem.Spec PyProof.Rows L2 VI VI.Std VI.Fl VI.Ec VI.Eu
open VI.Lay (rgI lt_ok ge_ok lenTI fil_emb all_emb any_emb)
section
variable {K : PySem.W.Frag} {h : Bs} {n m R : Nat} {Tr E A : List P2} {P X Y C O S T ns ms : List Int} {k i : Nat} {v r s s' : Int} {ρ : Ev} {d dx : D} {xs : List D} {c : List Int}
theorem trs_nil : Trs n [] := ⟨(fun p hp => by cases hp), (fun p hp => by cases hp), (fun p hp => by cases hp)⟩
theorem trs_app (t : Trs n Tr) {p : P2} (h0 : p.1 ≠ p.2) (h1 : 0 ≤ p.1 ∧ p.1 < (n : Int)) (h2 : 0 ≤ p.2 ∧ p.2 < (n : Int)) : Trs n (Tr ++ [p]) := by
  refine ⟨fun q hq => ?_, fun q hq => ?_, fun q hq => ?_⟩
  · rcases List.mem_append.mp hq with z | z
    · exact t.ne q z
    · rw [List.mem_singleton.mp z]; exact h0
  · rcases List.mem_append.mp hq with z | z
    · exact t.r1 q z
    · rw [List.mem_singleton.mp z]; exact h1
  · rcases List.mem_append.mp hq with z | z
    · exact t.r2 q z
    · rw [List.mem_singleton.mp z]; exact h2
theorem other_ne {n s w : Int} (hw : 0 ≤ w ∧ w < n - 1) : s ≠ (s + 1 + w) % n := fun e => by
  have h1 := Int.mul_ediv_add_emod (s + 1 + w) n
  rw [← e] at h1
  generalize (s + 1 + w) / n = q at h1
  by_cases z : q ≤ 0
  · have : n * q ≤ n * 0 := Int.mul_le_mul_of_nonneg_left z (by omega)
    omega
  · have : n * 1 ≤ n * q := Int.mul_le_mul_of_nonneg_left (by omega) (by omega)
    omega
theorem tr_loop (hs : ns.length ≤ 63) (hn : 2 ≤ n ∧ n ≤ 8) {g : Bs} {x3 : Option D} : ∀ (l : List Nat) (Tr : List P2) (x5 x6 x7 : Option D), Trs n Tr → (∀ j ∈ l, j ≤ 100) → Tr.length + l.length ≤ 1000 → ∃ y5 y6 y7 Tr', Trs n Tr' ∧ Tr'.length = Tr.length + l.length ∧
    loopS (sgName 5) (l1__law_transfers (tbC ct K)) (l.map fun (j : Nat) => D.int (j : Int)) [some (.scr ns), some (.int 1), some (.int n), x3, some (.ref g.bs.length), x5, x6, x7] (VI.Q.b1 g (tD Tr)) = .nx [some (.scr ns), some (.int 1), some (.int n), x3, some (.ref g.bs.length), y5, y6, y7] (VI.Q.b1 g (tD Tr'))
  | [], Tr, x5, x6, x7, t, _, _ => ⟨x5, x6, x7, Tr, t, rfl, rfl⟩
  | j :: l, Tr, x5, x6, x7, t, hj, hl => by
    rw [List.length_cons] at hl
    have j0 := hj j List.mem_cons_self
    obtain ⟨z, hz⟩ := Lay.num2 hs (VI.Q.b1 g (tD Tr))
    have hz' : ∀ i : Int, 0 ≤ i → i < 2 ^ 63 → f__law_number (tbC ct K) [.scr ns, .int i] (VI.Q.b1 g (tD Tr)) = .ok (.int (z i)) (VI.Q.b1 g (tD Tr)) := hz
    have num : ∀ {c : Int} {ρ : Ev}, 0 ≤ c → c ≤ 1000 → ρ[0]? = some (some (.scr ns)) → ρ[1]? = some (some (.int 1)) → ρ[5]? = some (some (.int j)) → (sCall intD (saCons (sCall (f__law_number (tbC ct K)) (saCons (sVar 0) (saCons (sOp (addD false) (sOp (addD false) (sVar 1) (sK (.int c))) (sOp (mulD false) (sK (.int 2)) (sVar 5))) saNil))) saNil)) ρ (VI.Q.b1 g (tD Tr)) = .ok (.int (z (1 + c + 2 * (j : Int)))) (VI.Q.b1 g (tD Tr)) := fun {c ρ} h1 h2 e0 e1 e5 => by
      have ml : (sOp (mulD false) (sK (.int 2)) (sVar 5)) ρ (VI.Q.b1 g (tD Tr)) = .ok (.int (2 * (j : Int))) (VI.Q.b1 g (tD Tr)) := op_ok (x := .int 2) (y := .int j) rfl (var_ok e5) (by
        have := log2_lt (i := (j : Int)) (k := 10) (by omega) (by omega)
        have := log2_lt (i := (2 : Int)) (k := 10) (by omega) (by omega)
        rw [mulI (by omega)])
      have ad : (sOp (addD false) (sVar 1) (sK (.int c))) ρ (VI.Q.b1 g (tD Tr)) = .ok (.int (1 + c)) (VI.Q.b1 g (tD Tr)) := op_ok (x := .int 1) (y := .int c) (var_ok e1) rfl rfl
      exact call_ok (xs := [.int (z (1 + c + 2 * (j : Int)))]) (cons_ok (call_ok (xs := [.scr ns, .int (1 + c + 2 * (j : Int))]) (cons_ok (var_ok e0) (cons_ok (op_ok (x := .int (1 + c)) (y := .int (2 * (j : Int))) ad ml rfl) rfl)) (hz' _ (by omega) (by omega))) rfl) rfl
    obtain ⟨a, ea⟩ : ∃ a : Int, a = z (1 + 1 + 2 * (j : Int)) % (n : Int) := ⟨_, rfl⟩
    obtain ⟨w, ew⟩ : ∃ w : Int, w = z (1 + 2 + 2 * (j : Int)) % ((n : Int) - 1) := ⟨_, rfl⟩
    have ar : 0 ≤ a ∧ a < (n : Int) := by rw [ea]; exact ⟨Int.emod_nonneg _ (by omega), Int.emod_lt_of_pos _ (by omega)⟩
    have wr : 0 ≤ w ∧ w < (n : Int) - 1 := by rw [ew]; exact ⟨Int.emod_nonneg _ (by omega), Int.emod_lt_of_pos _ (by omega)⟩
    obtain ⟨b, eb⟩ : ∃ b : Int, b = (a + 1 + w) % (n : Int) := ⟨_, rfl⟩
    have br : 0 ≤ b ∧ b < (n : Int) := by rw [eb]; exact ⟨Int.emod_nonneg _ (by omega), Int.emod_lt_of_pos _ (by omega)⟩
    have ne : a ≠ b := by rw [eb]; exact other_ne wr
    obtain ⟨y5, y6, y7, Tr', t', tl, ih⟩ := tr_loop hs hn (g := g) (x3 := x3) l (Tr ++ [(a, b)]) (some (.int j)) (some (.int a)) (some (.int b)) (trs_app t ne ar br) (fun q hq => hj q (List.mem_cons_of_mem _ hq)) (by rw [List.length_append, List.length_singleton]; omega)
    refine ⟨y5, y6, y7, Tr', t', by rw [tl, List.length_append, List.length_singleton, List.length_cons]; omega, ?_⟩
    rw [List.map_cons]
    refine (loop_step (ρ1 := [some (.scr ns), some (.int 1), some (.int n), x3, some (.ref g.bs.length), some (.int j), x6, x7]) (h1 := VI.Q.b1 g (tD Tr)) rfl ?_).trans ih
    unfold l1__law_transfers
    refine (cons_nx (ρ1 := [some (.scr ns), some (.int 1), some (.int n), x3, some (.ref g.bs.length), some (.int j), some (.int a), x7]) (h1 := VI.Q.b1 g (tD Tr)) (asg_ok ((op_ok (x := .int (z (1 + 1 + 2 * (j : Int)))) (y := .int n) (num (c := 1) (by decide) (by decide) rfl rfl rfl) rfl (modI (by omega))).trans (by rw [← ea])) rfl)).trans ?_
    have e7 : (sOp modD (sOp (addD false) (sOp (addD false) (sVar 6) (sK (.int 1))) (sOp modD (sCall intD (saCons (sCall (f__law_number (tbC ct K)) (saCons (sVar 0) (saCons (sOp (addD false) (sOp (addD false) (sVar 1) (sK (.int 2))) (sOp (mulD false) (sK (.int 2)) (sVar 5))) saNil))) saNil)) (sOp subD (sVar 2) (sK (.int 1))))) (sVar 2)) [some (.scr ns), some (.int 1), some (.int n), x3, some (.ref g.bs.length), some (.int j), some (.int a), x7] (VI.Q.b1 g (tD Tr)) = .ok (.int b) (VI.Q.b1 g (tD Tr)) := by
      rw [eb, ew]
      exact op_ok (x := .int (a + 1 + z (1 + 2 + 2 * (j : Int)) % ((n : Int) - 1))) (y := .int n) (op_ok (x := .int (a + 1)) (y := .int (z (1 + 2 + 2 * (j : Int)) % ((n : Int) - 1))) (op_ok (x := .int a) (y := .int 1) rfl rfl rfl) (op_ok (x := .int (z (1 + 2 + 2 * (j : Int)))) (y := .int ((n : Int) - 1)) (num (c := 2) (by decide) (by decide) rfl rfl rfl) (op_ok (x := .int n) (y := .int 1) rfl rfl rfl) (modI (by omega))) rfl) rfl (modI (by omega))
    refine (cons_nx (ρ1 := [some (.scr ns), some (.int 1), some (.int n), x3, some (.ref g.bs.length), some (.int j), some (.int a), some (.int b)]) (h1 := VI.Q.b1 g (tD Tr)) (asg_ok e7 rfl)).trans ?_
    have ap : appD (.ref g.bs.length) [Ec.prD (a, b)] (VI.Q.b1 g (tD Tr)) = .ok .non (VI.Q.b1 g (tD (Tr ++ [(a, b)]))) := by
      rw [VI.Q.app_at VI.Q.b1_at (by rw [List.length_map]; omega) rfl, VI.Q.b1_put]
      show _ = VI.R.ok D.non (VI.Q.b1 g ((Tr ++ [(a, b)]).map Ec.prD))
      rw [List.map_append]
      rfl
    exact (cons_nx (expr_ok (d := .non) (bm_ok (o := .ref g.bs.length) (xs := [Ec.prD (a, b)]) rfl (VI.Q.lst_at' VI.Q.b1_at) (cons_ok (tup_ok (xs := [.int a, .int b]) rfl two_le) rfl) ap))).trans rfl
theorem lawtr_k (hs : ns.length ≤ 63) (hn : 2 ≤ n ∧ n ≤ 8) : ∃ Tr, Trs n Tr ∧ Tr.length ≤ 8 ∧ f__law_transfers (tbC ct K) [.scr ns, .int 1, .int n, .int 8] h = .ok (lP Tr) h := by
  obtain ⟨z, hz⟩ := Lay.num2 hs (VI.Q.b1 (inB h) (tD []))
  have hz' : ∀ i : Int, 0 ≤ i → i < 2 ^ 63 → f__law_number (tbC ct K) [.scr ns, .int i] (VI.Q.b1 (inB h) (tD [])) = .ok (.int (z i)) (VI.Q.b1 (inB h) (tD [])) := hz
  obtain ⟨m, em⟩ : ∃ m : Nat, (m : Int) = z 1 % 9 := ⟨(z 1 % 9).toNat, by have := Int.emod_nonneg (z 1) (b := 9) (by decide); omega⟩
  have m16 : m ≤ 8 := by
    have := Int.emod_lt_of_pos (z 1) (b := 9) (by decide)
    omega
  obtain ⟨y5, y6, y7, Tr, t, tl, e⟩ := tr_loop (K := K) hs hn (g := inB h) (x3 := some (.int 8)) (List.range m) [] none none none trs_nil (fun j hj => by have := List.mem_range.mp hj; omega) (by rw [List.length_range, List.length_nil]; omega)
  rw [List.length_range, List.length_nil] at tl
  refine ⟨Tr, t, by omega, ?_⟩
  refine VI.Q.run_box (hh := VI.Q.b1 (inB h) (tD Tr)) (b := h.bs.length) rfl ?_ VI.Q.take_b1 (Nat.le_refl _) (VI.Q.b1_at (h := inB h)) (noDs_P _)
  show s__law_transfers (tbC ct K) [some (.scr ns), some (.int 1), some (.int n), some (.int 8), none, none, none, none] (inB h) = _
  unfold s__law_transfers
  refine (cons_nx (ρ1 := [some (.scr ns), some (.int 1), some (.int n), some (.int 8), some (.ref (inB h).bs.length), none, none, none]) (h1 := VI.Q.b1 (inB h) (tD [])) (asg_ok (VI.Q.lst_box (xs := []) rfl (Nat.zero_le _)) rfl)).trans ?_
  refine (cons_nx (for_ok (arg_ok (h1 := VI.Q.b1 (inB h) (tD [])) (xs := [.int m]) (cons_ok ((op_ok (x := .int (z 1)) (y := .int 9) (call_ok (xs := [.int (z 1)]) (cons_ok (call_ok (h1 := VI.Q.b1 (inB h) (tD [])) (xs := [.scr ns, .int 1]) rfl (hz' 1 (by decide) (by decide))) rfl) rfl) (op_ok (x := .int 8) (y := .int 1) rfl rfl rfl) (modI (by decide))).trans (by rw [em])) rfl) (rng_ok (by omega))) e)).trans (ret_ok rfl)
end
end VI.K28
end
section
namespace VI.K28
open PySem PySem.Spec PyProof.Rows L2 VI VI.Std VI.Fl VI.Ec VI.Eu
open VI.Lay (rgI lt_ok ge_ok lenTI fil_emb all_emb any_emb)
section
variable {K : PySem.W.Frag} {h : Bs} {n m R k : Nat} {Tr E A : List P2} {P X C S T : List Int} {i : Nat} {v r s : Int} {ρ : Ev} {d dx : D} {xs : List D}
def zT (z : P2 × Int) : D := .tup [Ec.prD z.1, .int z.2]
theorem zip_T : ∀ (A : List P2) (X : List Int), zipL (tD A) (X.map D.int) = (A.zip X).map zT
  | [], _ => by simp [zipL]
  | _ :: _, [] => by simp [zipL]
  | x :: A, y :: B => by
    have := zip_T A B
    simp only [List.map_cons, zipL, List.zip_cons_cons, this]
    rfl
theorem cut_len : (cut Tr X r).length ≤ Tr.length := by
  unfold cut
  rw [List.length_map]
  refine Nat.le_trans (List.length_filter_le _ _) ?_
  rw [List.length_zip]
  exact Nat.min_le_left _ _
theorem cut_D : (((Tr.zip X).filter fun z => decide (z.2 = r)).map fun z => Ec.prD z.1) = tD (cut Tr X r) := by
  unfold cut
  show _ = (((Tr.zip X).filter fun z => decide (z.2 = r)).map (·.1)).map Ec.prD
  rw [List.map_map]
  rfl
def fR (n : Nat) (Tr : List P2) (P X : List Int) (r : Int) : Bool := (rgI n).all fun v => decide (((deg (cut Tr X r) v : Nat) : Int) ≤ P.getD v.toNat 0)
theorem P_at (p : Pr n P) {j : Nat} (e2 : ρ[2]? = some (some (tI P))) (ej : ρ[j]? = some (some (.int v))) (hv : 0 ≤ v ∧ v < (n : Int)) : (sOp ixD (sVar 2) (sVar j)) ρ h = .ok (.int (P.getD v.toNat 0)) h := by
  obtain ⟨k, rfl⟩ : ∃ k : Nat, v = (k : Int) := ⟨v.toNat, by omega⟩
  rw [Int.toNat_natCast]
  have hk : k < P.length := by rw [p.len]; omega
  refine op_ok (h1 := h) (h2 := h) (x := tI P) (y := .int k) (var_ok e2) (var_ok ej) (at_ ?_)
  rw [List.getElem?_map, List.getElem?_eq_getElem hk, List.getD_eq_getElem?_getD, List.getElem?_eq_getElem hk]
  rfl
theorem any_zip (p : Pr n P) (A : List P2) : (((dgs n A).zip P).any fun z => decide (z.2 < z.1)) = !((rgI n).all fun v => decide (((deg A v : Nat) : Int) ≤ P.getD v.toNat 0)) := by
  have e : (dgs n A).zip P = (rgI n).map fun v => (((deg A v : Nat) : Int), P.getD v.toNat 0) := by
    refine List.ext_getElem (by rw [List.length_zip, dgs_len, p.len, List.length_map, Lay.rgI_len]; omega) fun i h1 h2 => ?_
    rw [List.length_zip, dgs_len, p.len] at h1
    have hp : i < P.length := by rw [p.len]; omega
    rw [List.getElem_zip, List.getElem_map]
    have er : (rgI n)[i]'(by rw [Lay.rgI_len]; omega) = (i : Int) := by
      unfold rgI
      rw [List.getElem_map, List.getElem_range]
    have ed : (dgs n A)[i]'(by rw [dgs_len]; omega) = ((deg A (i : Int) : Nat) : Int) := by
      unfold dgs
      rw [List.getElem_map, er]
    rw [ed, er, Int.toNat_natCast, List.getD_eq_getElem?_getD, List.getElem?_eq_getElem hp]
    rfl
  rw [e, List.any_map, List.not_all_eq_any_not]
  refine List.any_congr rfl fun v => ?_
  show decide (P.getD v.toNat 0 < ((deg A v : Nat) : Int)) = !decide _
  rw [← decide_not]
  exact decide_eq_decide.mpr Int.not_le.symm
theorem ft_loop (p : Pr n P) (q : d = lP Tr) (hT : Tr.length ≤ 60) (hn : n ≤ 8) : ∀ (l : List Int) (x4 x5 : Option D), (l.all (fR n Tr P X) = true ∧ ∃ y4 y5, loopS (sgName 4) (l1_fits (tbC ct K)) (l.map .int) [some (.int n), some d, some (tI P), some (lI X), x4, x5, none, none, none, none] h = .nx [some (.int n), some d, some (tI P), some (lI X), y4, y5, none, none, none, none] h) ∨ (l.all (fR n Tr P X) = false ∧ loopS (sgName 4) (l1_fits (tbC ct K)) (l.map .int) [some (.int n), some d, some (tI P), some (lI X), x4, x5, none, none, none, none] h = .rt (.bl false) h)
  | [], x4, x5 => .inl ⟨rfl, x4, x5, rfl⟩
  | r :: l, x4, x5 => by
    have sz : (1000 : Nat) ≤ sizeLine := by decide
    have cl := cut_len (Tr := Tr) (X := X) (r := r)
    have lc := lc_emb (h := h) (g := sgTup 2 (sgCons (sgName 6) (sgCons (sgName 7) sgNil))) (tt := sTru (sOp (eqD false) (sVar 7) (sVar 4))) (el := sVar 6) (ρ := [some (.int n), some d, some (tI P), some (lI X), some (.int r), x5, none, none, none, none]) zT (fun z => decide (z.2 = r)) (fun z => Ec.prD z.1) (Tr.zip X) fun z _ => ⟨[some (.int n), some d, some (tI P), some (lI X), some (.int r), x5, some (Ec.prD z.1), some (.int z.2), none, none], rfl, tru_ok (op_ok (x := .int z.2) (y := .int r) rfl rfl (eq_ints (neg := false))), fun _ => rfl⟩
    rw [cut_D] at lc
    have e5 : (sCall (f_degrees_of (tbC ct K)) (saCons (sVar 0) (saCons (sLc false [6, 7] (siArg itZipX (saCons (sVar 1) (saCons (sVar 3) saNil))) (sgTup 2 (sgCons (sgName 6) (sgCons (sgName 7) sgNil))) (sTru (sOp (eqD false) (sVar 7) (sVar 4))) (sVar 6)) saNil))) [some (.int n), some d, some (tI P), some (lI X), some (.int r), x5, none, none, none, none] h = .ok (lI (dgs n (cut Tr X r))) h := call_ok (h1 := h) (xs := [.int n, lP (cut Tr X r)]) (cons_ok rfl (cons_ok (lc_ok (arg_ok (h1 := h) (xs := [d, lI X]) rfl (by rw [← zip_T]; rw [q]; rfl)) lc (by rw [List.length_map]; omega)) rfl)) (degs_k (.inl rfl) (by omega) hn)
    have cnd : (sCall anyD' (saCons (sLc false [8, 9] (siArg itZipX (saCons (sVar 5) (saCons (sVar 2) saNil))) (sgTup 2 (sgCons (sgName 8) (sgCons (sgName 9) sgNil))) (fun _ h => .ok true h) (sOp gtS (sVar 8) (sVar 9))) saNil)) [some (.int n), some d, some (tI P), some (lI X), some (.int r), some (lI (dgs n (cut Tr X r))), none, none, none, none] h = .ok (.bl (!fR n Tr P X r)) h := by
      have a := any_emb (h := h) (own := [8, 9]) (it := siArg itZipX (saCons (sVar 5) (saCons (sVar 2) saNil))) (g := sgTup 2 (sgCons (sgName 8) (sgCons (sgName 9) sgNil))) (el := sOp gtS (sVar 8) (sVar 9)) (ρ := [some (.int n), some d, some (tI P), some (lI X), some (.int r), some (lI (dgs n (cut Tr X r))), none, none, none, none]) (fun z : Int × Int => D.tup [.int z.1, .int z.2]) ((dgs n (cut Tr X r)).zip P) (fun z => decide (z.2 < z.1)) (arg_ok (h1 := h) (xs := [lI (dgs n (cut Tr X r)), tI P]) rfl (by rw [← zip_ii]; rfl)) (fun z _ => ⟨[some (.int n), some d, some (tI P), some (lI X), some (.int r), some (lI (dgs n (cut Tr X r))), none, none, some (.int z.1), some (.int z.2)], rfl, op_ok (x := .int z.1) (y := .int z.2) rfl rfl rfl⟩) (by rw [List.length_zip, dgs_len]; omega)
      rw [a, any_zip p]
      rfl
    rw [List.all_cons, List.map_cons]
    cases w : fR n Tr P X r with
    | false =>
      rw [w] at cnd
      refine .inr ⟨rfl, ?_⟩
      refine loop_rt (ρ1 := [some (.int n), some d, some (tI P), some (lI X), some (.int r), x5, none, none, none, none]) (h1 := h) rfl ?_
      unfold l1_fits
      exact (cons_nx (asg_ok e5 rfl)).trans (cons_rt ((if_t cnd).trans (ret_ok rfl)))
    | true =>
      rw [w] at cnd
      have st : loopS (sgName 4) (l1_fits (tbC ct K)) (.int r :: l.map .int) [some (.int n), some d, some (tI P), some (lI X), x4, x5, none, none, none, none] h = loopS (sgName 4) (l1_fits (tbC ct K)) (l.map .int) [some (.int n), some d, some (tI P), some (lI X), some (.int r), some (lI (dgs n (cut Tr X r))), none, none, none, none] h := by
        refine loop_step (ρ1 := [some (.int n), some d, some (tI P), some (lI X), some (.int r), x5, none, none, none, none]) (h1 := h) rfl ?_
        unfold l1_fits
        exact (cons_nx (asg_ok e5 rfl)).trans ((cons_nx (if_f cnd)).trans rfl)
      rw [Bool.true_and]
      rcases ft_loop p q hT hn l (some (.int r)) (some (lI (dgs n (cut Tr X r)))) with ⟨a, y4, y5, e⟩ | ⟨a, e⟩
      · exact .inl ⟨a, y4, y5, st.trans e⟩
      · exact .inr ⟨a, st.trans e⟩
theorem fits_k (p : Pr n P) (q : d = lP Tr) (hT : Tr.length ≤ 60) (hn : n ≤ 8) : f_fits (tbC ct K) [.int n, d, tI P, lI X] h = .ok (.bl (fB n Tr P X)) h := by
  refine run_rt rfl ?_ rfl
  show s_fits (tbC ct K) [some (.int n), some d, some (tI P), some (lI X), none, none, none, none, none, none] (inB h) = _
  unfold s_fits
  rcases ft_loop (K := K) (h := inB h) (X := X) p q hT hn X none none with ⟨a, y4, y5, e⟩ | ⟨a, e⟩
  · have a : fB n Tr P X = true := a
    rw [a]
    exact (cons_nx (for_ok (Sq.seq (.inl rfl) rfl) e)).trans (ret_ok rfl)
  · have a : fB n Tr P X = false := a
    rw [a]
    exact cons_rt (for_rt (Sq.seq (.inl rfl) rfl) e)
abbrev A1 (A : List Int) (l : Nat) : List Int := A ++ [(l : Int)]
def prd (n : Nat) (Tr : List P2) (P : List Int) (k f c : Nat) (A : List Int) (l : Nat) : Bool := fB n (Tr.take (A.length + 1)) P (A1 A l) && srch n Tr P k f (max c (l + 1)) (A1 A l)
def evc (n : Nat) (Tr : List P2) (P : List Int) (A : List Int) (k : Nat) (x5 : Option D) : Ev := [some (.int n), some (lP Tr), some (tI P), some (lI A), some (.int k), x5]
theorem snoc_k {B : List Int} {l : Nat} {x5 : Option D} (hB : B.length ≤ 900) (e5 : x5 = some (.int l)) : (sLst false (saStar (sVar 3) (saCons (sVar 5) saNil))) (evc n Tr P B k x5) h = .ok (lI (A1 B l)) h := by
  have sz : (1000 : Nat) ≤ sizeLine := by decide
  subst e5
  have e : (saStar (sVar 3) (saCons (sVar 5) saNil)) (evc n Tr P B k (some (.int l))) h = .ok ((A1 B l).map .int) h := by
    rw [List.map_append]
    exact Lay.star_ok (x := lI B) (xs := B.map .int) (ys := [.int l]) rfl rfl rfl
  exact lst_ok e (by rw [List.length_map, List.length_append, List.length_singleton]; omega)
theorem cb_loop {f c : Nat} {B : List Int} {rec : List D → Bs → VI.R D} (p : Pr n P) (hT : Tr.length ≤ 60) (hn : n ≤ 8) (hB : B.length ≤ 60) (hr : ∀ l : Nat, l ≤ c → rec [.int n, lP Tr, tI P, lI (A1 B l), .int k] h = .ok (.bl (srch n Tr P k f (max c (l + 1)) (A1 B l))) h) : ∀ (ls : List Nat) (x5 : Option D), (∀ l ∈ ls, l ≤ c) → (ls.any (prd n Tr P k f c B) = true ∧ loopS (sgName 5) (l1_can_be_done (tbC ct K) rec) (ls.map fun (l : Nat) => D.int (l : Int)) (evc n Tr P B k x5) h = .rt (.bl true) h) ∨ (ls.any (prd n Tr P k f c B) = false ∧ ∃ y5, loopS (sgName 5) (l1_can_be_done (tbC ct K) rec) (ls.map fun (l : Nat) => D.int (l : Int)) (evc n Tr P B k x5) h = .nx (evc n Tr P B k y5) h)
  | [], x5, _ => .inr ⟨rfl, x5, rfl⟩
  | l :: ls, x5, hl => by
    have l0 := hl l List.mem_cons_self
    have sn : ∀ {x5 : Option D}, x5 = some (.int l) → _ := fun {x5} e => snoc_k (n := n) (Tr := Tr) (P := P) (k := k) (h := h) (B := B) (l := l) (x5 := x5) (by omega) e
    have sn := sn (x5 := some (.int l)) rfl
    have sl : (sSl false (sVar 1) soNone (soSome (sOp (addD false) (sCall lenD (saCons (sVar 3) saNil)) (sK (.int 1))))) (evc n Tr P B k (some (.int l))) h = .ok (lP (Tr.take (B.length + 1))) h := by
      refine slOk (d := lP Tr) (hi := some ((B.length + 1 : Nat) : Int)) rfl rfl (soOk (op_ok (x := .int B.length) (y := .int 1) (call_ok (h1 := h) (xs := [lI B]) rfl ?_) rfl rfl)) ?_
      · show VI.R.ok (D.int (B.map D.int).length) h = _
        rw [List.length_map]
      · refine (lst_to (by rw [List.length_map]; omega)).trans ?_
        show _ = VI.R.ok (D.lst ((Tr.take (B.length + 1)).map Ec.prD)) h
        rw [List.map_take]
    have c1 : (sCall (f_fits (tbC ct K)) (saCons (sVar 0) (saCons (sSl false (sVar 1) soNone (soSome (sOp (addD false) (sCall lenD (saCons (sVar 3) saNil)) (sK (.int 1))))) (saCons (sVar 2) (saCons (sLst false (saStar (sVar 3) (saCons (sVar 5) saNil))) saNil))))) (evc n Tr P B k (some (.int l))) h = .ok (.bl (fB n (Tr.take (B.length + 1)) P (A1 B l))) h :=
      call_ok (h1 := h) (xs := [.int n, lP (Tr.take (B.length + 1)), tI P, lI (A1 B l)]) (cons_ok rfl (cons_ok sl (cons_ok rfl (cons_ok sn rfl)))) (fits_k p rfl (by rw [List.length_take]; omega) hn)
    have c2 : (sCall rec (saCons (sVar 0) (saCons (sVar 1) (saCons (sVar 2) (saCons (sLst false (saStar (sVar 3) (saCons (sVar 5) saNil))) (saCons (sVar 4) saNil)))))) (evc n Tr P B k (some (.int l))) h = .ok (.bl (srch n Tr P k f (max c (l + 1)) (A1 B l))) h :=
      call_ok (h1 := h) (xs := [.int n, lP Tr, tI P, lI (A1 B l), .int k]) (cons_ok rfl (cons_ok rfl (cons_ok rfl (cons_ok sn rfl)))) (hr l l0)
    have go : prd n Tr P k f c B l = false → l1_can_be_done (tbC ct K) rec (evc n Tr P B k (some (.int l))) h = .nx (evc n Tr P B k (some (.int l))) h := fun q => by
      unfold l1_can_be_done
      unfold prd at q
      cases w : fB n (Tr.take (B.length + 1)) P (A1 B l) with
      | false =>
        rw [w] at c1
        exact (cons_nx (if_f c1)).trans rfl
      | true =>
        rw [w] at c1 q
        have q : srch n Tr P k f (max c (l + 1)) (A1 B l) = false := q
        rw [q] at c2
        exact (cons_nx ((if_t c1).trans ((cons_nx (if_f c2)).trans rfl))).trans rfl
    rw [List.any_cons, List.map_cons]
    cases w : prd n Tr P k f c B l with
    | true =>
      left
      refine ⟨rfl, loop_rt (ρ1 := evc n Tr P B k (some (.int l))) (h1 := h) rfl ?_⟩
      unfold prd at w
      rw [Bool.and_eq_true] at w
      rw [w.1] at c1
      rw [w.2] at c2
      unfold l1_can_be_done
      exact cons_rt ((if_t c1).trans (cons_rt ((if_t c2).trans (ret_ok rfl))))
    | false =>
      rw [Bool.false_or]
      have st := loop_step (g := sgName 5) (ds := ls.map fun (l : Nat) => D.int (l : Int)) (d := .int l) (ρ := evc n Tr P B k x5) (h := h) (ρ1 := evc n Tr P B k (some (.int l))) (h1 := h) rfl (go w)
      rcases cb_loop p hT hn hB hr ls (some (.int l)) (fun q hq => hl q (List.mem_cons_of_mem _ hq)) with ⟨a, e⟩ | ⟨a, y5, e⟩
      · exact .inl ⟨a, st.trans e⟩
      · exact .inr ⟨a, y5, st.trans e⟩
theorem top_c {c : Nat} {B : List Int} (I : Inv c B) : maxI (-1 :: B) = (c : Int) - 1 := by
  have m := maxI_mem (X := -1 :: B) (by simp)
  have hi : maxI (-1 :: B) ≤ (c : Int) - 1 := by
    rcases List.mem_cons.mp m with e | e
    · omega
    · have := I.lo _ e
      omega
  have lo : (c : Int) - 1 ≤ maxI (-1 :: B) := by
    by_cases q : c = 0
    · have := maxI_le (X := -1 :: B) (q := -1) List.mem_cons_self
      omega
    · have := maxI_le (X := -1 :: B) (q := ((c - 1 : Nat) : Int)) (List.mem_cons_of_mem _ (I.all (c - 1) (by omega)))
      omega
  omega
theorem cbd_k (p : Pr n P) (hT : Tr.length ≤ 60) (hn : n ≤ 8) (hk : k ≤ 1000) : ∀ (f F c : Nat) (B : List Int) (h : Bs), B.length + f = Tr.length → f < F → Inv c B → c ≤ B.length → f_can_be_done (tbC ct K) F [.int n, lP Tr, tI P, lI B, .int k] h = .ok (.bl (srch n Tr P k f c B)) h
  | f, 0, c, B, h, _, hF, _, _ => absurd hF (by omega)
  | f, F + 1, c, B, h, hl, hF, I, hc => by
    have sz : (1000 : Nat) ≤ sizeLine := by decide
    refine run_rt rfl ?_ rfl
    show s_can_be_done (tbC ct K) (f_can_be_done (tbC ct K) F) (evc n Tr P B k none) (inB h) = _
    unfold s_can_be_done
    have c1 : (sOp (eqD false) (sCall lenD (saCons (sVar 3) saNil)) (sCall lenD (saCons (sVar 1) saNil))) (evc n Tr P B k none) (inB h) = .ok (.bl (decide (f = 0))) (inB h) := by
      refine (op_ok (x := .int (B.map D.int).length) (y := .int (tD Tr).length) (call_ok (h1 := inB h) (xs := [lI B]) rfl rfl) (call_ok (h1 := inB h) (xs := [lP Tr]) rfl rfl) (eq_ints (neg := false))).trans ?_
      rw [List.length_map, List.length_map]
      show VI.R.ok (D.bl (decide ((B.length : Int) = (Tr.length : Nat)))) _ = _
      congr 2
      exact decide_eq_decide.mpr (by omega)
    cases f with
    | zero => exact cons_rt ((if_t c1).trans (ret_ok rfl))
    | succ f =>
      refine (cons_nx (if_f c1)).trans ?_
      have mx : (sCall maxD (saCons (sLst false (saCons (sUn negD (sK (.int 1))) (saStar (sVar 3) saNil))) saNil)) (evc n Tr P B k none) (inB h) = .ok (.int ((c : Int) - 1)) (inB h) := by
        rw [← top_c I]
        have st : (saStar (sVar 3) saNil) (evc n Tr P B k none) (inB h) = .ok (B.map .int ++ []) (inB h) := Lay.star_ok (x := lI B) rfl rfl rfl
        rw [List.append_nil] at st
        exact call_ok (h1 := inB h) (xs := [lI (-1 :: B)]) (cons_ok (lst_ok (xs := (-1 :: B).map .int) (cons_ok (un_ok (x := .int 1) rfl rfl) st) (by rw [List.length_map, List.length_cons]; omega)) rfl) (maxL_k (by simp))
      have rg : (siArg itRng1 (saCons (sCall minDS (saCons (sVar 4) (saCons (sOp (addD false) (sCall maxD (saCons (sLst false (saCons (sUn negD (sK (.int 1))) (saStar (sVar 3) saNil))) saNil)) (sK (.int 2))) saNil))) saNil)) (evc n Tr P B k none) (inB h) = .ok ((List.range (min k (c + 1))).map fun (l : Nat) => D.int (l : Int), none) (inB h) := by
        have a : (sCall minDS (saCons (sVar 4) (saCons (sOp (addD false) (sCall maxD (saCons (sLst false (saCons (sUn negD (sK (.int 1))) (saStar (sVar 3) saNil))) saNil)) (sK (.int 2))) saNil))) (evc n Tr P B k none) (inB h) = .ok (.int ((min k (c + 1) : Nat) : Int)) (inB h) := by
          refine (call_ok (h1 := inB h) (xs := [.int k, .int ((c : Int) - 1 + 2)]) (cons_ok rfl (cons_ok (op_ok (x := .int ((c : Int) - 1)) (y := .int 2) mx rfl rfl) rfl)) min2).trans ?_
          congr 2
          omega
        refine arg_ok (cons_ok a rfl) ((rng_I (by omega)).trans ?_)
        unfold rgI
        rw [List.map_map]
        rfl
      rcases cb_loop (K := K) (h := inB h) (f := f) (c := c) (B := B) (rec := f_can_be_done (tbC ct K) F) p hT hn (by omega) (fun l hl' => cbd_k p hT hn hk f F (max c (l + 1)) (A1 B l) (inB h) (by rw [List.length_append, List.length_singleton]; omega) (by omega) (I.more hl') (by rw [List.length_append, List.length_singleton]; omega)) (List.range (min k (c + 1))) none (fun l hl => by have := List.mem_range.mp hl; omega) with ⟨a, e⟩ | ⟨a, y5, e⟩
      · have a : srch n Tr P k (f + 1) c B = true := a
        rw [a]
        exact cons_rt (for_rt rg e)
      · have a : srch n Tr P k (f + 1) c B = false := a
        rw [a]
        exact (cons_nx (for_ok rg e)).trans (ret_ok rfl)
end
end VI.K28
end
section
namespace VI.K28
open PySem PySem.Spec PyProof.Rows L2 VI VI.Std VI.Fl VI.Ec VI.Eu
open VI.Lay (rgI lt_ok ge_ok lenTI fil_emb all_emb any_emb)
section
variable {K : PySem.W.Frag} {h : Bs} {n m R k : Nat} {Tr E A : List P2} {P X C S T B : List Int} {i : Nat} {v r s : Int} {ρ : Ev} {d dx : D} {xs : List D}
theorem zip_left : ∀ (A : List P2) (B : List Int), (A.take B.length).zip B = A.zip B
  | [], _ => by simp
  | _ :: _, [] => by simp
  | x :: A, y :: B => by
    rw [List.length_cons, List.take_succ_cons, List.zip_cons_cons, List.zip_cons_cons, zip_left A B]
theorem cut_left : cut (Tr.take X.length) X r = cut Tr X r := by
  unfold cut
  rw [zip_left]
theorem cut_snoc (hl : B.length < Tr.length) {l : Int} : cut (Tr.take (B.length + 1)) (B ++ [l]) r = cut (Tr.take B.length) B r ++ (if l = r then [Tr.getD B.length z2] else []) := by
  have e : Tr.take (B.length + 1) = Tr.take B.length ++ [Tr.getD B.length z2] := by
    rw [List.take_add_one, List.getElem?_eq_getElem hl, List.getD_eq_getElem?_getD, List.getElem?_eq_getElem hl]
    rfl
  unfold cut
  rw [e, List.zip_append (by rw [List.length_take]; omega), List.filter_append, List.map_append]
  congr 1
  by_cases q : l = r
  · rw [if_pos q]
    show (List.filter _ [(Tr.getD B.length z2, l)]).map _ = _
    rw [List.filter_cons, if_pos (decide_eq_true q)]
    rfl
  · rw [if_neg q]
    show (List.filter _ [(Tr.getD B.length z2, l)]).map _ = _
    rw [List.filter_cons, if_neg (by simpa using q)]
    rfl
theorem mem_at (hl : B.length < Tr.length) : Tr.getD B.length z2 ∈ Tr := by
  rw [List.getD_eq_getElem?_getD, List.getElem?_eq_getElem hl]
  exact List.getElem_mem hl
def bz (P : List Int) (Tr : List P2) (B : List Int) (l : Nat) (v : Int) : Bool := decide (((deg (cut Tr (A1 B l) l) v : Nat) : Int) ≤ P.getD v.toNat 0)
theorem busy_ok (p : Pr n P) (t : Trs n Tr) (hl : B.length < Tr.length) (hb : fB n (Tr.take B.length) P B = true) (l : Nat) : (bz P Tr B l (Tr.getD B.length z2).1 && bz P Tr B l (Tr.getD B.length z2).2) = fB n (Tr.take (B.length + 1)) P (A1 B l) := by
  have hq := mem_at hl
  obtain ⟨q, eq⟩ : ∃ q, q = Tr.getD B.length z2 := ⟨_, rfl⟩
  rw [← eq] at hq ⊢
  have e0 : cut Tr (A1 B l) l = cut (Tr.take (B.length + 1)) (A1 B l) l := by
    have := cut_left (Tr := Tr) (X := A1 B l) (r := l)
    rw [List.length_append, List.length_singleton] at this
    exact this.symm
  unfold bz
  rw [e0, Bool.eq_iff_iff, Bool.and_eq_true, decide_eq_true_eq, decide_eq_true_eq]
  constructor
  · rintro ⟨h1, h2⟩
    refine fB_iff.mpr fun r hr v hv => ?_
    have hv' := Lay.mem_rgI.mp hv
    have pm := p.lo _ (nds_at (Tr := Tr) p hv').2.1
    have old : ((deg (cut (Tr.take B.length) B r) v : Nat) : Int) ≤ P.getD v.toNat 0 := by
      by_cases rB : r ∈ B
      · exact fB_iff.mp hb r rB v hv
      · have : cut (Tr.take B.length) B r = [] := by
          unfold cut
          have e : (((Tr.take B.length).zip B).filter fun z => decide (z.2 = r)) = [] := List.filter_eq_nil_iff.mpr fun z hz w => rB (of_decide_eq_true w ▸ (List.of_mem_zip hz).2)
          rw [e]
          rfl
        rw [this]
        show ((0 : Nat) : Int) ≤ _
        omega
    by_cases w : (l : Int) = r
    · by_cases a1 : v = q.1
      · rw [a1, ← w]; exact h1
      · by_cases a2 : v = q.2
        · rw [a2, ← w]; exact h2
        · rw [cut_snoc hl, if_pos w, deg_app, ← eq]
          have : deg [q] v = 0 := by
            unfold deg
            rw [List.filter_cons, if_neg fun z => by rcases inc_iff.mp z with z | z; exact a1 z; exact a2 z]
            rfl
          rw [this]
          exact old
    · rw [cut_snoc hl, if_neg w, List.append_nil]
      exact old
  · intro f
    have f := fB_iff.mp f l (List.mem_append_right _ (List.mem_singleton_self _))
    exact ⟨f q.1 (Lay.mem_rgI.mpr (t.r1 q hq)), f q.2 (Lay.mem_rgI.mpr (t.r2 q hq))⟩
def evq (n : Nat) (Tr : List P2) (P B : List Int) (k : Nat) (x5 x6 x7 x8 x9 x10 x11 : Option D) : Ev := [some (.int n), some (lP Tr), some (tI P), some (lI B), some (.int k), x5, x6, x7, x8, x9, x10, x11, none, none, none]
theorem eq_bb {a b : Bool} : eqD false (.lst [.bl a, .bl b]) (.lst [.bl true, .bl true]) h = .ok (.bl (a && b)) h := by
  cases a <;> cases b <;> rfl
theorem ld_loop {f c : Nat} {rec : List D → Bs → VI.R D} (p : Pr n P) (t : Trs n Tr) (hT : Tr.length ≤ 60) (hn : n ≤ 8) (I : Inv c B) (hl : B.length < Tr.length) (hb : fB n (Tr.take B.length) P B = true) (hr : ∀ l : Nat, l ≤ c → fB n (Tr.take (B.length + 1)) P (A1 B l) = true → rec [.int n, lP Tr, tI P, lI (A1 B l), .int k] h = .ok (.bl (srch n Tr P k f (max c (l + 1)) (A1 B l))) h) : ∀ (j l0 : Nat) (x6 x7 x8 x9 x10 x11 : Option D), l0 ≤ c →
    loopS (sgName 6) (l1__law_done (tbC ct K) rec) ((List.range' l0 j).map fun (l : Nat) => D.int (l : Int)) (evq n Tr P B k (some (.int B.length)) x6 x7 x8 x9 x10 x11) h = .rt (.bl ((List.range' l0 (min j (c + 1 - l0))).any (prd n Tr P k f c B))) h ∨ ((List.range' l0 (min j (c + 1 - l0))).any (prd n Tr P k f c B) = false ∧ ∃ y6 y7 y8 y9 y10 y11, loopS (sgName 6) (l1__law_done (tbC ct K) rec) ((List.range' l0 j).map fun (l : Nat) => D.int (l : Int)) (evq n Tr P B k (some (.int B.length)) x6 x7 x8 x9 x10 x11) h = .nx (evq n Tr P B k (some (.int B.length)) y6 y7 y8 y9 y10 y11) h)
  | 0, l0, x6, x7, x8, x9, x10, x11, _ => .inr ⟨by rw [Nat.zero_min]; rfl, x6, x7, x8, x9, x10, x11, rfl⟩
  | j + 1, l, x6, x7, x8, x9, x10, x11, hc => by
    have sz : (1000 : Nat) ≤ sizeLine := by decide
    obtain ⟨q, eq⟩ : ∃ q, q = Tr.getD B.length z2 := ⟨_, rfl⟩
    have hq : q ∈ Tr := by rw [eq]; exact mem_at hl
    have em : min (j + 1) (c + 1 - l) = min j (c + 1 - (l + 1)) + 1 := by omega
    rw [em, List.range'_succ, List.range'_succ, List.any_cons, List.map_cons]
    have aL : (sOp (addD false) (sVar 3) (sLst false (saCons (sVar 6) saNil))) (evq n Tr P B k (some (.int B.length)) (some (.int l)) x7 x8 x9 x10 x11) h = .ok (lI (A1 B l)) h := op_ok (x := lI B) (y := lI [(l : Int)]) rfl (lst_ok (xs := [.int l]) rfl (by show 1 ≤ sizeLine; omega)) (addL (by rw [List.length_singleton]; omega))
    have e1 : ∀ {x7 : Option D}, (sOp ixD (sVar 1) (sVar 5)) (evq n Tr P B k (some (.int B.length)) (some (.int l)) x7 x8 x9 x10 x11) h = .ok (Ec.prD q) h := fun {x7} => by
      refine op_ok (h1 := h) (h2 := h) (x := lP Tr) (y := .int B.length) rfl rfl (ix_chv (.inl rfl) ?_)
      rw [List.getElem?_map, List.getElem?_eq_getElem hl, eq, List.getD_eq_getElem?_getD, List.getElem?_eq_getElem hl]
      rfl
    have lk : ∀ st : SS, (ssLkL 7 (ssLkL 1 st)) (evq n Tr P B k (some (.int B.length)) (some (.int l)) (some (lI (A1 B l))) (some (.int q.1)) (some (.int q.2)) x10 x11) h = st (evq n Tr P B k (some (.int B.length)) (some (.int l)) (some (lI (A1 B l))) (some (.int q.1)) (some (.int q.2)) x10 x11) h := fun st => rfl
    have cl := cut_len (Tr := Tr) (X := A1 B l) (r := l)
    have lc := lc_emb (h := h) (g := sgTup 2 (sgCons (sgName 12) (sgCons (sgName 13) sgNil))) (tt := sTru (sOp (eqD false) (sVar 13) (sVar 6))) (el := sVar 12) (ρ := evq n Tr P B k (some (.int B.length)) (some (.int l)) (some (lI (A1 B l))) (some (.int q.1)) (some (.int q.2)) x10 x11) zT (fun z => decide (z.2 = (l : Int))) (fun z => Ec.prD z.1) (Tr.zip (A1 B l)) fun z _ => ⟨[some (.int n), some (lP Tr), some (tI P), some (lI B), some (.int k), some (.int B.length), some (.int l), some (lI (A1 B l)), some (.int q.1), some (.int q.2), x10, x11, some (Ec.prD z.1), some (.int z.2), none], rfl, tru_ok (op_ok (x := .int z.2) (y := .int l) rfl rfl (eq_ints (neg := false))), fun _ => rfl⟩
    rw [cut_D] at lc
    have e3 : (sLc false [12, 13] (siArg itZipY (saCons (sVar 1) (saCons (sVar 7) saNil))) (sgTup 2 (sgCons (sgName 12) (sgCons (sgName 13) sgNil))) (sTru (sOp (eqD false) (sVar 13) (sVar 6))) (sVar 12)) (evq n Tr P B k (some (.int B.length)) (some (.int l)) (some (lI (A1 B l))) (some (.int q.1)) (some (.int q.2)) x10 x11) h = .ok (lP (cut Tr (A1 B l) l)) h := lc_ok (arg_ok (h1 := h) (xs := [lP Tr, lI (A1 B l)]) rfl (by rw [← zip_T]; rfl)) lc (by rw [List.length_map]; omega)
    have e4 : (sLc false [14] (siSeq (sTup (saCons (sVar 8) (saCons (sVar 9) saNil)))) (sgName 14) (fun _ h => .ok true h) (sOp leS (sCall lenD (saCons (sLc false [12] (siSeq (sVar 10)) (sgName 12) (sTru (sOp (inD false) (sVar 14) (sVar 12))) (sVar 12)) saNil)) (sOp ixD (sVar 2) (sVar 14)))) (evq n Tr P B k (some (.int B.length)) (some (.int l)) (some (lI (A1 B l))) (some (.int q.1)) (some (.int q.2)) (some (lP (cut Tr (A1 B l) l))) x11) h = .ok (.lst [.bl (bz P Tr B l q.1), .bl (bz P Tr B l q.2)]) h := by
      refine lc_ok (xs := [q.1, q.2].map .int) (seq_ok (d := .tup [.int q.1, .int q.2]) (tup_ok (xs := [.int q.1, .int q.2]) rfl two_le) rfl) (ys := [q.1, q.2].map fun v => D.bl (bz P Tr B l v)) ?_ (by show 2 ≤ sizeLine; omega)
      refine lc_emb1 .int _ [q.1, q.2] fun v hv => ⟨[some (.int n), some (lP Tr), some (tI P), some (lI B), some (.int k), some (.int B.length), some (.int l), some (lI (A1 B l)), some (.int q.1), some (.int q.2), some (lP (cut Tr (A1 B l) l)), x11, none, none, some (.int v)], rfl, ?_⟩
      have hv' : 0 ≤ v ∧ v < (n : Int) := by
        rcases List.mem_cons.mp hv with rfl | hv
        · exact t.r1 q hq
        · rw [List.mem_singleton.mp hv]; exact t.r2 q hq
      exact op_ok (x := .int (deg (cut Tr (A1 B l) l) v)) (y := .int (P.getD v.toNat 0)) (len_deg (Tr := cut Tr (A1 B l) l) (i := 10) (j := 14) (k := 12) (.inl rfl) (by omega) rfl rfl (by decide) (by decide) (by show 12 < 15; decide)) (P_at p rfl rfl hv') rfl
    have bo := busy_ok p t hl hb l
    rw [← eq] at bo
    have e5 : (sAnd (sOp (eqD false) (sVar 11) (sLst false (saCons (sK (.bl true)) (saCons (sK (.bl true)) saNil)))) (sCall rec (saCons (sVar 0) (saCons (sVar 1) (saCons (sVar 2) (saCons (sVar 7) (saCons (sVar 4) saNil))))))) (evq n Tr P B k (some (.int B.length)) (some (.int l)) (some (lI (A1 B l))) (some (.int q.1)) (some (.int q.2)) (some (lP (cut Tr (A1 B l) l))) (some (.lst [.bl (bz P Tr B l q.1), .bl (bz P Tr B l q.2)]))) h = .ok (.bl (prd n Tr P k f c B l)) h := by
      have a : (sOp (eqD false) (sVar 11) (sLst false (saCons (sK (.bl true)) (saCons (sK (.bl true)) saNil)))) (evq n Tr P B k (some (.int B.length)) (some (.int l)) (some (lI (A1 B l))) (some (.int q.1)) (some (.int q.2)) (some (lP (cut Tr (A1 B l) l))) (some (.lst [.bl (bz P Tr B l q.1), .bl (bz P Tr B l q.2)]))) h = .ok (.bl (fB n (Tr.take (B.length + 1)) P (A1 B l))) h := by
        rw [← bo]
        exact op_ok (h2 := h) (x := .lst [.bl (bz P Tr B l q.1), .bl (bz P Tr B l q.2)]) (y := .lst [.bl true, .bl true]) rfl (lst_ok (xs := [.bl true, .bl true]) rfl (by show 2 ≤ sizeLine; omega)) eq_bb
      unfold prd
      exact and_ok a fun w => call_ok (h1 := h) (xs := [.int n, lP Tr, tI P, lI (A1 B l), .int k]) rfl (hr l hc w)
    have e6 : (sOp (inD true) (sVar 6) (sVar 3)) (evq n Tr P B k (some (.int B.length)) (some (.int l)) (some (lI (A1 B l))) (some (.int q.1)) (some (.int q.2)) (some (lP (cut Tr (A1 B l) l))) (some (.lst [.bl (bz P Tr B l q.1), .bl (bz P Tr B l q.2)]))) h = .ok (.bl (!decide ((l : Int) ∈ B))) h := op_ok (x := .int l) (y := lI B) rfl rfl (in_lI (neg := true))
    have upto : ∀ {s : SS} {r : VI.F}, s (evq n Tr P B k (some (.int B.length)) (some (.int l)) (some (lI (A1 B l))) (some (.int q.1)) (some (.int q.2)) (some (lP (cut Tr (A1 B l) l))) (some (.lst [.bl (bz P Tr B l q.1), .bl (bz P Tr B l q.2)]))) h = r → (ssCons (ssAsg (sOp (addD false) (sVar 3) (sLst false (saCons (sVar 6) saNil))) (sgName 7))
  (ssCons (ssAsg (sOp ixD (sVar 1) (sVar 5)) (sgTup 2 (sgCons (sgName 8) (sgCons (sgName 9) sgNil))))
  (ssCons (ssLkL 7 (ssLkL 1 (ssAsg (sLc false [12, 13] (siArg itZipY (saCons (sVar 1) (saCons (sVar 7) saNil))) (sgTup 2 (sgCons (sgName 12) (sgCons (sgName 13) sgNil))) (sTru (sOp (eqD false) (sVar 13) (sVar 6))) (sVar 12)) (sgName 10))))
  (ssCons (ssAsg (sLc false [14] (siSeq (sTup (saCons (sVar 8) (saCons (sVar 9) saNil)))) (sgName 14) (fun _ h => .ok true h) (sOp leS (sCall lenD (saCons (sLc false [12] (siSeq (sVar 10)) (sgName 12) (sTru (sOp (inD false) (sVar 14) (sVar 12))) (sVar 12)) saNil)) (sOp ixD (sVar 2) (sVar 14)))) (sgName 11)) s)))) (evq n Tr P B k (some (.int B.length)) (some (.int l)) x7 x8 x9 x10 x11) h = r := fun {s r} e => by
      refine (cons_nx (ρ1 := evq n Tr P B k (some (.int B.length)) (some (.int l)) (some (lI (A1 B l))) x8 x9 x10 x11) (h1 := h) (asg_ok aL rfl)).trans ?_
      refine (cons_nx (ρ1 := evq n Tr P B k (some (.int B.length)) (some (.int l)) (some (lI (A1 B l))) (some (.int q.1)) (some (.int q.2)) x10 x11) (h1 := h) (asg_ok e1 rfl)).trans ?_
      refine (cons_nx (ρ1 := evq n Tr P B k (some (.int B.length)) (some (.int l)) (some (lI (A1 B l))) (some (.int q.1)) (some (.int q.2)) (some (lP (cut Tr (A1 B l) l))) x11) (h1 := h) ((lk _).trans (asg_ok e3 rfl))).trans ?_
      exact (cons_nx (asg_ok e4 rfl)).trans e
    cases w : prd n Tr P k f c B l with
    | true =>
      left
      rw [w] at e5
      rw [Bool.true_or]
      refine loop_rt (ρ1 := evq n Tr P B k (some (.int B.length)) (some (.int l)) x7 x8 x9 x10 x11) (h1 := h) rfl ?_
      unfold l1__law_done
      exact upto (cons_rt ((if_t e5).trans (ret_ok rfl)))
    | false =>
      rw [w] at e5
      rw [Bool.false_or]
      by_cases lc' : l < c
      · have mB : (l : Int) ∈ B := I.all l lc'
        rw [decide_eq_true mB] at e6
        have st := loop_step (g := sgName 6) (ds := (List.range' (l + 1) j).map fun (l : Nat) => D.int (l : Int)) (d := .int l) (ρ := evq n Tr P B k (some (.int B.length)) x6 x7 x8 x9 x10 x11) (h := h) (ρ1 := evq n Tr P B k (some (.int B.length)) (some (.int l)) x7 x8 x9 x10 x11) (h1 := h) (body := l1__law_done (tbC ct K) rec) (ρ2 := evq n Tr P B k (some (.int B.length)) (some (.int l)) (some (lI (A1 B l))) (some (.int q.1)) (some (.int q.2)) (some (lP (cut Tr (A1 B l) l))) (some (.lst [.bl (bz P Tr B l q.1), .bl (bz P Tr B l q.2)]))) (h2 := h) rfl (by
          unfold l1__law_done
          exact upto ((cons_nx (if_f e5)).trans ((cons_nx (if_f e6)).trans rfl)))
        rcases ld_loop p t hT hn I hl hb hr j (l + 1) (some (.int l)) (some (lI (A1 B l))) (some (.int q.1)) (some (.int q.2)) (some (lP (cut Tr (A1 B l) l))) (some (.lst [.bl (bz P Tr B l q.1), .bl (bz P Tr B l q.2)])) (by omega) with e | ⟨a, y6, y7, y8, y9, y10, y11, e⟩
        · exact .inl (st.trans e)
        · exact .inr ⟨a, y6, y7, y8, y9, y10, y11, st.trans e⟩
      · have lc' : l = c := by omega
        have mB : (l : Int) ∉ B := fun z => by
          have := I.lo _ z
          omega
        rw [decide_eq_false mB] at e6
        have e0 : min j (c + 1 - (l + 1)) = 0 := by omega
        rw [e0]
        left
        refine loop_rt (ρ1 := evq n Tr P B k (some (.int B.length)) (some (.int l)) x7 x8 x9 x10 x11) (h1 := h) rfl ?_
        unfold l1__law_done
        exact upto ((cons_nx (if_f e5)).trans (cons_rt ((if_t e6).trans (ret_ok rfl))))
theorem done_k (p : Pr n P) (t : Trs n Tr) (hT : Tr.length ≤ 60) (hn : n ≤ 8) (hk : k ≤ 1000) : ∀ (f F c : Nat) (B : List Int) (h : Bs), B.length + f = Tr.length → f < F → Inv c B → c ≤ B.length → fB n (Tr.take B.length) P B = true → f__law_done (tbC ct K) F [.int n, lP Tr, tI P, lI B, .int k] h = .ok (.bl (srch n Tr P k f c B)) h
  | f, 0, c, B, h, _, hF, _, _, _ => absurd hF (by omega)
  | f, F + 1, c, B, h, hl, hF, I, hc, hb => by
    refine run_rt rfl ?_ rfl
    show s__law_done (tbC ct K) (f__law_done (tbC ct K) F) (evq n Tr P B k none none none none none none none) (inB h) = _
    unfold s__law_done
    have c0 : (sCall lenD (saCons (sVar 3) saNil)) (evq n Tr P B k none none none none none none none) (inB h) = .ok (.int B.length) (inB h) := by
      refine call_ok (h1 := inB h) (xs := [lI B]) rfl ?_
      show VI.R.ok (D.int (B.map D.int).length) _ = _
      rw [List.length_map]
    refine (cons_nx (ρ1 := evq n Tr P B k (some (.int B.length)) none none none none none none) (h1 := inB h) (asg_ok c0 rfl)).trans ?_
    have c1 : (sOp (eqD false) (sVar 5) (sCall lenD (saCons (sVar 1) saNil))) (evq n Tr P B k (some (.int B.length)) none none none none none none) (inB h) = .ok (.bl (decide (f = 0))) (inB h) := by
      refine (op_ok (x := .int B.length) (y := .int (tD Tr).length) rfl (call_ok (h1 := inB h) (xs := [lP Tr]) rfl rfl) (eq_ints (neg := false))).trans ?_
      rw [List.length_map]
      show VI.R.ok (D.bl (decide ((B.length : Int) = (Tr.length : Nat)))) _ = _
      congr 2
      exact decide_eq_decide.mpr (by omega)
    cases f with
    | zero => exact cons_rt ((if_t c1).trans (ret_ok rfl))
    | succ f =>
      refine (cons_nx (if_f c1)).trans ?_
      have rg : (siArg itRng1 (saCons (sVar 4) saNil)) (evq n Tr P B k (some (.int B.length)) none none none none none none) (inB h) = .ok ((List.range' 0 k).map fun (l : Nat) => D.int (l : Int), none) (inB h) := by
        refine arg_ok (h1 := inB h) (xs := [.int k]) rfl ((rng_I (by omega)).trans ?_)
        unfold rgI
        rw [List.map_map, List.range_eq_range']
        rfl
      have fin : (List.range' 0 (min k (c + 1 - 0))).any (prd n Tr P k f c B) = srch n Tr P k (f + 1) c B := by
        rw [← List.range_eq_range']
        rfl
      rcases ld_loop (K := K) (h := inB h) (f := f) (c := c) (B := B) (k := k) (rec := f__law_done (tbC ct K) F) p t hT hn I (by omega) hb (fun l hl' fb => done_k p t hT hn hk f F (max c (l + 1)) (A1 B l) (inB h) (by rw [List.length_append, List.length_singleton]; omega) (by omega) (I.more hl') (by rw [List.length_append, List.length_singleton]; omega) (by rw [List.length_append, List.length_singleton]; exact fb)) k 0 none none none none none none (by omega) with e | ⟨a, y6, y7, y8, y9, y10, y11, e⟩
      · rw [fin] at e
        exact cons_rt (for_rt rg e)
      · rw [fin] at a
        rw [a]
        exact (cons_nx (for_ok rg e)).trans (ret_ok rfl)
theorem inv_nil : Inv 0 [] := ⟨fun x hx => (by cases hx), fun j hj => absurd hj (by omega)⟩
theorem can_k (p : Pr n P) (hT : Tr.length ≤ 30) (hn : n ≤ 8) (hk : k ≤ 1000) : f_can_be_done (tbC ct K) 40 [.int n, lP Tr, tI P, lI [], .int k] h = .ok (.bl (can n Tr P k)) h := cbd_k p (by omega) hn hk Tr.length 40 0 [] h (by simp) (by omega) inv_nil (Nat.zero_le _)
theorem ldone_k (p : Pr n P) (t : Trs n Tr) (hT : Tr.length ≤ 30) (hn : n ≤ 8) (hk : k ≤ 1000) : f__law_done (tbC ct K) 40 [.int n, lP Tr, tI P, lI [], .int k] h = .ok (.bl (can n Tr P k)) h := done_k p t (by omega) hn hk Tr.length 40 0 [] h (by simp) (by omega) inv_nil (Nat.zero_le _) rfl
theorem tr_while (p : Pr n P) (hT : Tr.length ≤ 30) (hn : n ≤ 8) {L : Nat} (hL : L ≤ 900) (c1 : can n Tr P L = true) (c0 : ∀ j < L, can n Tr P j = false) {x4 x5 : Option D} : ∀ (f a fu : Nat), a + f = L → f < fu → whileS (sNot (sCall (f_can_be_done (tbC ct K) 40) (saCons (sVar 0) (saCons (sVar 1) (saCons (sVar 2) (saCons (sLst false saNil) (saCons (sVar 3) saNil))))))) (l1_tried_rounds (tbC ct K)) fu [some (.int n), some (lP Tr), some (tI P), some (.int a), x4, x5] h = .nx [some (.int n), some (lP Tr), some (tI P), some (.int L), x4, x5] h
  | f, a, 0, _, hf => absurd hf (by omega)
  | f, a, fu + 1, e, hf => by
    have c : (sNot (sCall (f_can_be_done (tbC ct K) 40) (saCons (sVar 0) (saCons (sVar 1) (saCons (sVar 2) (saCons (sLst false saNil) (saCons (sVar 3) saNil))))))) [some (.int n), some (lP Tr), some (tI P), some (.int a), x4, x5] h = .ok (.bl (!can n Tr P a)) h := not_ok (call_ok (h1 := h) (xs := [.int n, lP Tr, tI P, lI [], .int a]) (cons_ok rfl (cons_ok rfl (cons_ok rfl (cons_ok (lst_ok (xs := []) rfl (Nat.zero_le _)) rfl)))) (can_k p hT hn (by omega)))
    cases f with
    | zero =>
      have : a = L := by omega
      subst this
      rw [c1] at c
      exact Mk.while_f c
    | succ f =>
      rw [c0 a (by omega)] at c
      refine (Mk.while_t (ρ1 := [some (.int n), some (lP Tr), some (tI P), some (.int ((a + 1 : Nat) : Int)), x4, x5]) (h1 := h) c ?_).trans (tr_while p hT hn hL c1 c0 f (a + 1) fu (by omega) (by omega))
      unfold l1_tried_rounds
      exact rfl
theorem law_while (p : Pr n P) (t : Trs n Tr) (hT : Tr.length ≤ 30) (hn : n ≤ 8) {L : Nat} (hL : L ≤ 900) (c1 : can n Tr P L = true) (c0 : ∀ j < L, can n Tr P j = false) {x0 : Option D} : ∀ (f a fu : Nat), a + f = L → f < fu → whileS (sNot (sCall (f__law_done (tbC ct K) 40) (saCons (sVar 1) (saCons (sVar 2) (saCons (sVar 3) (saCons (sLst false saNil) (saCons (sVar 4) saNil))))))) (l6_law (tbC ct K)) fu [x0, some (.int n), some (lP Tr), some (tI P), some (.int a), none, none, none, none, none] h = .nx [x0, some (.int n), some (lP Tr), some (tI P), some (.int L), none, none, none, none, none] h
  | f, a, 0, _, hf => absurd hf (by omega)
  | f, a, fu + 1, e, hf => by
    have c : (sNot (sCall (f__law_done (tbC ct K) 40) (saCons (sVar 1) (saCons (sVar 2) (saCons (sVar 3) (saCons (sLst false saNil) (saCons (sVar 4) saNil))))))) [x0, some (.int n), some (lP Tr), some (tI P), some (.int a), none, none, none, none, none] h = .ok (.bl (!can n Tr P a)) h := not_ok (call_ok (h1 := h) (xs := [.int n, lP Tr, tI P, lI [], .int a]) (cons_ok rfl (cons_ok rfl (cons_ok rfl (cons_ok (lst_ok (xs := []) rfl (Nat.zero_le _)) rfl)))) (ldone_k p t hT hn (by omega)))
    cases f with
    | zero =>
      have : a = L := by omega
      subst this
      rw [c1] at c
      exact Mk.while_f c
    | succ f =>
      rw [c0 a (by omega)] at c
      refine (Mk.while_t (ρ1 := [x0, some (.int n), some (lP Tr), some (tI P), some (.int ((a + 1 : Nat) : Int)), none, none, none, none, none]) (h1 := h) c ?_).trans (law_while p t hT hn hL c1 c0 f (a + 1) fu (by omega) (by omega))
      unfold l6_law
      exact rfl
def Lst (n : Nat) (Tr : List P2) (P : List Int) (L : Nat) : Prop := can n Tr P L = true ∧ ∀ j < L, can n Tr P j = false
theorem tried_k {L : Nat} (p : Pr n P) (t : Trs n Tr) (hT : Tr.length ≤ 8) (hn : 1 ≤ n ∧ n ≤ 8) (c : Lst n Tr P L) (hL : L ≤ 900) : f_tried_rounds (tbC ct K) [.int n, lP Tr, tI P] h = .ok (.int L) h := by
  have pl := p.len
  refine run_rt rfl ?_ rfl
  show s_tried_rounds (tbC ct K) [some (.int n), some (lP Tr), some (tI P), none, none, none] (inB h) = _
  unfold s_tried_rounds
  obtain ⟨X, V⟩ := can_iff.mp c.1
  have rl := RR_le p hn.1 V
  have r0 := (RR_16 (Tr := Tr) p hn.1).1
  obtain ⟨a, ea⟩ : ∃ a : Nat, (a : Int) = RR n Tr P := ⟨(RR n Tr P).toNat, by omega⟩
  refine (cons_nx (expr_ok (call_ok (h1 := inB h) (xs := [.int n, lP Tr]) rfl (transfers_k t (.inl rfl) (by omega) hn)))).trans ?_
  refine (cons_nx (expr_ok (call_ok (h1 := inB h) (xs := [.int n, tI P]) rfl (ports_k p hn.2)))).trans ?_
  have c1 : (sOp gtS (sCall lenD (saCons (sVar 1) saNil)) (sK (.int 8))) [some (.int n), some (lP Tr), some (tI P), none, none, none] (inB h) = .ok (.bl false) (inB h) := by
    refine (op_ok (x := .int (tD Tr).length) (y := .int 8) (call_ok (h1 := inB h) (xs := [lP Tr]) rfl rfl) rfl rfl).trans ?_
    show VI.R.ok (D.bl (decide ((8 : Int) < ((tD Tr).length : Nat)))) _ = _
    rw [decide_eq_false (by rw [List.length_map]; omega)]
  refine (cons_nx (if_f c1)).trans ?_
  refine (cons_nx (ρ1 := [some (.int n), some (lP Tr), some (tI P), some (.int a), none, none]) (h1 := inB h) (asg_ok ((call_ok (h1 := inB h) (xs := [lI (nds n Tr P)]) (cons_ok (need_l (ρ' := fun z => [some (.int n), some (lP Tr), some (tI P), none, some (.int z.1), some (.int z.2)]) p (.inl rfl) (by omega) hn.2 rfl rfl rfl (fun z => rfl) (fun z => rfl) fun z => rfl) rfl) (maxL_k (nds_ne p hn.1))).trans (by show VI.R.ok (D.int (RR n Tr P)) _ = _; rw [← ea])) rfl)).trans ?_
  refine (cons_nx (tr_while p (by omega) hn.2 hL c.1 c.2 (L - a) a 1000 (by omega) (by omega))).trans (ret_ok rfl)
end
end VI.K28
end
section
namespace VI.K28
open PySem PySem.Spec PyProof.Rows L2 VI VI.Std VI.Fl VI.Ec VI.Eu
open VI.Lay (rgI lt_ok ge_ok lenTI fil_emb all_emb any_emb)
section
variable {K : PySem.W.Frag} {h : Bs} {n m R k L : Nat} {Tr E A : List P2} {P X C S T B ns : List Int} {i : Nat} {v r s : Int} {ρ : Ev} {d dx : D} {xs : List D}
theorem rep_k {a : Int} {m : Nat} (h1 : 1 ≤ m) (h2 : m ≤ 1000) : mulD false (.tup [.int a]) (.int m) h = .ok (tI (List.replicate m a)) h := by
  have sz : (1000 : Nat) ≤ sizeLine := by decide
  by_cases q : m = 1
  · subst q
    rfl
  · show (if (m : Int) = 1 then R.ok (D.tup [.int a]) h else if [D.int a] ≠ [] ∧ 2 ≤ (m : Int) ∧ (m : Int) ≤ 1000 ∧ [D.int a].length ≤ 1000 then newT (List.replicate ((m : Int)).toNat [D.int a]).flatten h else .no) = _
    rw [if_neg (by omega), if_pos ⟨by simp, by omega, by omega, by simp⟩, Int.toNat_natCast]
    have e : (List.replicate m [D.int a]).flatten = (List.replicate m a).map .int := by
      rw [List.map_replicate]
      clear q h1 h2
      induction m with
      | zero => rfl
      | succ m ih => rw [List.replicate_succ, List.flatten_cons, ih, List.replicate_succ]; rfl
    rw [e, newT_f (by rw [List.length_map, List.length_replicate]; omega)]
theorem lst_ge (p : Pr n P) (hn : 1 ≤ n) (c : Lst n Tr P L) : RR n Tr P ≤ L := by
  obtain ⟨X, V⟩ := can_iff.mp c.1
  exact RR_le p hn V
theorem lst_le (c : Lst n Tr P L) (V : Vx n Tr P k X) : L ≤ k := by
  refine Nat.not_lt.mp fun z => ?_
  have := c.2 k z
  rw [can_iff.mpr ⟨X, V⟩] at this
  cases this
theorem lst_RR (p : Pr n P) (t : Trs n Tr) (hn : 1 ≤ n ∧ n ≤ 8) (ok : okk Tr P = true) (c : Lst n Tr P L) : (L : Int) = RR n Tr P := by
  obtain ⟨a1, a2, a3⟩ := rds_ok p t hn ok
  have r0 := (RR_16 (Tr := Tr) p hn.1).1
  have := lst_ge p hn.1 c
  have := lst_le c (k := (RR n Tr P).toNat) (X := rds n Tr P) ⟨a1, fun x hx => by have := a2 x hx; omega, a3⟩
  omega
theorem lst_rev (c : Lst n Tr P L) : Lst n Tr.reverse P L := ⟨by rw [can_rev]; exact c.1, fun j hj => by rw [can_rev]; exact c.2 j hj⟩
theorem trs_rev (t : Trs n Tr) : Trs n Tr.reverse := ⟨fun p hp => t.ne p (List.mem_reverse.mp hp), fun p hp => t.r1 p (List.mem_reverse.mp hp), fun p hp => t.r2 p (List.mem_reverse.mp hp)⟩
theorem gt_ok {a b : Int} {u w : SV} {ρ : Ev} (e1 : u ρ h = .ok (.int a) h) (e2 : w ρ h = .ok (.int b) h) : (sOp gtS u w) ρ h = .ok (.bl (decide (b < a))) h := op_ok (x := .int a) (y := .int b) e1 e2 rfl
def h0 : Bs := ⟨[0], []⟩
def evl (ns : List Int) (n : Nat) (Tr : List P2) (P : List Int) (x4 x5 x6 x7 : Option D) : Ev := [some (.scr ns), some (.int n), some (lP Tr), some (tI P), x4, x5, x6, x7, none, none]
theorem law_body (hs : ns.length ≤ 63) : s_law (tbC ct K) [some (.scr ns), none, none, none, none, none, none, none, none, none] h0 = .rt (.bl true) h0 := by
  have sz : (1000 : Nat) ≤ sizeLine := by decide
  obtain ⟨z, hz⟩ := Lay.num2 hs h0
  have hz' : ∀ i : Int, 0 ≤ i → i < 2 ^ 63 → f__law_number (tbC ct K) [.scr ns, .int i] h0 = .ok (.int (z i)) h0 := hz
  obtain ⟨n, en⟩ : ∃ n : Nat, (n : Int) = 2 + z 0 % 4 := ⟨(2 + z 0 % 4).toNat, by have := Int.emod_nonneg (z 0) (b := 4) (by decide); omega⟩
  have hn : 2 ≤ n ∧ n ≤ 8 := by
    have := Int.emod_nonneg (z 0) (b := 4) (by decide)
    have := Int.emod_lt_of_pos (z 0) (b := 4) (by decide)
    omega
  have hn1 : 1 ≤ n ∧ n ≤ 8 := by omega
  obtain ⟨Tr, t, hl, e2⟩ := lawtr_k (K := K) (h := h0) hs hn
  obtain ⟨P0, eP⟩ : ∃ P0 : List Int, P0 = (rgI n).map fun v => 1 + z (60 + v) % 3 := ⟨_, rfl⟩
  have p0l : P0.length = n := by rw [eP, List.length_map, Lay.rgI_len]
  have p03 : ∀ x ∈ P0, 1 ≤ x ∧ x ≤ 3 := fun x hx => by
    rw [eP] at hx
    obtain ⟨v, _, rfl⟩ := List.mem_map.mp hx
    have := Int.emod_nonneg (z (60 + v)) (b := 3) (by decide)
    have := Int.emod_lt_of_pos (z (60 + v)) (b := 3) (by decide)
    show 1 ≤ 1 + z (60 + v) % 3 ∧ 1 + z (60 + v) % 3 ≤ 3
    omega
  obtain ⟨P, p, p3, e4⟩ : ∃ P, Pr n P ∧ (∀ x ∈ P, 1 ≤ x ∧ x ≤ 3) ∧ t4_law (tbC ct K) (evl ns n Tr P0 none none none none) h0 = .nx (evl ns n Tr P none none none none) h0 := by
    have cnd : (sOp (eqD false) (sOp modD (sCall intD (saCons (sCall (f__law_number (tbC ct K)) (saCons (sVar 0) (saCons (sK (.int 70)) saNil))) saNil)) (sK (.int 2))) (sK (.int 0))) (evl ns n Tr P0 none none none none) h0 = .ok (.bl (decide (z 70 % 2 = 0))) h0 := op_ok (x := .int (z 70 % 2)) (y := .int 0) (op_ok (x := .int (z 70)) (y := .int 2) (call_ok (xs := [.int (z 70)]) (cons_ok (call_ok (h1 := h0) (xs := [.scr ns, .int 70]) rfl (hz' 70 (by decide) (by decide))) rfl) rfl) rfl (modI (by decide))) rfl (eq_ints (neg := false))
    unfold t4_law
    by_cases q : z 70 % 2 = 0
    · rw [decide_eq_true q] at cnd
      exact ⟨List.replicate n 1, ⟨List.length_replicate, fun x hx => by rw [List.eq_of_mem_replicate hx]; decide⟩, fun x hx => by rw [List.eq_of_mem_replicate hx]; decide, asg_ok (Ec.ite_t cnd (op_ok (h1 := h0) (h2 := h0) (x := .tup [.int 1]) (y := .int n) (tup_ok (xs := [.int 1]) rfl (by show 1 ≤ sizeLine; omega)) rfl (rep_k (by omega) (by omega)))) rfl⟩
    · rw [decide_eq_false q] at cnd
      exact ⟨P0, ⟨p0l, fun x hx => by have := p03 x hx; omega⟩, p03, asg_ok (Ec.ite_f cnd rfl) rfl⟩
  have pl := p.len
  obtain ⟨L, c1, c0, Lge, Lle⟩ := least (Tr := Tr) p hn1.1
  have c : Lst n Tr P L := ⟨c1, c0⟩
  have r0 := RR_16 (Tr := Tr) p hn1.1
  have mx := maxL_k (h := h0) (nds_ne (Tr := Tr) p hn1.1)
  unfold s_law
  refine (cons_nx (ρ1 := [some (.scr ns), some (.int n), none, none, none, none, none, none, none, none]) (h1 := h0) (asg_ok (op_ok (x := .int 2) (y := .int (z 0 % 4)) rfl (op_ok (x := .int (z 0)) (y := .int 4) (call_ok (cons_ok (call_ok (h1 := h0) (xs := [.scr ns, .int 0]) rfl (hz' 0 (by decide) (by decide))) rfl) rfl) rfl (modI (by decide))) rfl) (by rw [← en]; rfl))).trans ?_
  refine (cons_nx (ρ1 := [some (.scr ns), some (.int n), some (lP Tr), none, none, none, none, none, none, none]) (h1 := h0) (asg_ok (call_ok (h1 := h0) (xs := [.scr ns, .int 1, .int n, .int 8]) rfl e2) rfl)).trans ?_
  have e3 : (sLc false [8] (siArg itRng1 (saCons (sVar 1) saNil)) (sgName 8) (fun _ h => .ok true h) (sOp (addD false) (sK (.int 1)) (sOp modD (sCall intD (saCons (sCall (f__law_number (tbC ct K)) (saCons (sVar 0) (saCons (sOp (addD false) (sK (.int 60)) (sVar 8)) saNil))) saNil)) (sK (.int 3))))) [some (.scr ns), some (.int n), some (lP Tr), none, none, none, none, none, none, none] h0 = .ok (lI P0) h0 := by
    refine lc_ok (arg_ok (h1 := h0) (xs := [.int n]) rfl (rng_I (by omega))) (ys := P0.map .int) ?_ (by rw [List.length_map]; omega)
    rw [eP, List.map_map]
    refine lc_emb1 .int _ (rgI n) fun v hv => ⟨[some (.scr ns), some (.int n), some (lP Tr), none, none, none, none, none, some (.int v), none], rfl, ?_⟩
    have hv := Lay.mem_rgI.mp hv
    exact op_ok (x := .int 1) (y := .int (z (60 + v) % 3)) rfl (op_ok (x := .int (z (60 + v))) (y := .int 3) (call_ok (h1 := h0) (xs := [.int (z (60 + v))]) (cons_ok (call_ok (h1 := h0) (xs := [.scr ns, .int (60 + v)]) (cons_ok rfl (cons_ok (op_ok (x := .int 60) (y := .int v) rfl rfl rfl) rfl)) (hz' _ (by omega) (by omega))) rfl) rfl) rfl (modI (by decide))) rfl
  refine (cons_nx (ρ1 := evl ns n Tr P0 none none none none) (h1 := h0) (asg_ok (call_ok (h1 := h0) (xs := [lI P0]) (cons_ok e3 rfl) (tup_lI (by omega) h0)) rfl)).trans ?_
  refine (cons_nx e4).trans ?_
  refine (cons_nx (ρ1 := evl ns n Tr P (some (.int (0 : Nat))) none none none) (h1 := h0) (asg_ok rfl rfl)).trans ?_
  refine (cons_nx (ρ1 := evl ns n Tr P (some (.int L)) none none none) (h1 := h0) (law_while p t (by omega) hn.2 (by omega) c1 c0 L 0 1000 (by omega) (by omega))).trans ?_
  have td : ∀ {x4 x5 x6 x7 : Option D}, (sCall (f_tried_rounds (tbC ct K)) (saCons (sVar 1) (saCons (sVar 2) (saCons (sVar 3) saNil)))) (evl ns n Tr P x4 x5 x6 x7) h0 = .ok (.int L) h0 := fun {x4 x5 x6 x7} => call_ok (h1 := h0) (xs := [.int n, lP Tr, tI P]) rfl (tried_k p t hl hn1 c (by omega))
  have e7 : (sTup (saCons (sCall (f_tried_rounds (tbC ct K)) (saCons (sVar 1) (saCons (sVar 2) (saCons (sVar 3) saNil)))) (saCons (sCall maxD (saCons (sCall (f__law_needs (tbC ct K)) (saCons (sVar 1) (saCons (sVar 2) (saCons (sVar 3) saNil)))) saNil)) saNil))) (evl ns n Tr P (some (.int L)) none none none) h0 = .ok (.tup [.int L, .int (RR n Tr P)]) h0 := tup_ok (xs := [.int L, .int (RR n Tr P)]) (cons_ok td (cons_ok (call_ok (h1 := h0) (xs := [lI (nds n Tr P)]) (cons_ok (call_ok (h1 := h0) (xs := [.int n, lP Tr, tI P]) rfl (lawneeds_k p (.inl rfl) (by omega) hn.2)) rfl) mx) rfl)) two_le
  refine (cons_nx (ρ1 := evl ns n Tr P (some (.int L)) (some (.int L)) (some (.int (RR n Tr P))) none) (h1 := h0) (asg_ok e7 rfl)).trans ?_
  have ne0 : ∀ {a b : Int}, a = b → (if true = true then !decide (a = b) else decide (a = b)) = false := fun {a b} e => by rw [decide_eq_true e]; rfl
  have c8 : (sOr (sOp (eqD true) (sVar 5) (sVar 4)) (sOp ltS (sVar 5) (sVar 6))) (evl ns n Tr P (some (.int L)) (some (.int L)) (some (.int (RR n Tr P))) none) h0 = .ok (.bl (false || false)) h0 := by
    refine or_ok ((op_ok (x := .int L) (y := .int L) rfl rfl (eq_ints (neg := true))).trans (by rw [ne0 rfl])) fun _ => (op_ok (x := .int L) (y := .int (RR n Tr P)) rfl rfl rfl).trans ?_
    show VI.R.ok (D.bl (decide ((L : Int) < RR n Tr P))) h0 = _
    rw [decide_eq_false (by omega)]
  refine (cons_nx (if_f c8)).trans ?_
  have c9 : (sOr (sAnd (sCall (f_is_two_sided (tbC ct K)) (saCons (sVar 2) saNil)) (sOp (eqD true) (sVar 5) (sVar 6))) (sAnd (sOp (eqD false) (sVar 2) (sLst false saNil)) (sOp (eqD true) (sVar 5) (sK (.int 0))))) (evl ns n Tr P (some (.int L)) (some (.int L)) (some (.int (RR n Tr P))) none) h0 = .ok (.bl false) h0 := by
    have a1 : (sAnd (sCall (f_is_two_sided (tbC ct K)) (saCons (sVar 2) saNil)) (sOp (eqD true) (sVar 5) (sVar 6))) (evl ns n Tr P (some (.int L)) (some (.int L)) (some (.int (RR n Tr P))) none) h0 = .ok (.bl (two Tr && false)) h0 := by
      refine and_ok (call_ok (h1 := h0) (xs := [lP Tr]) rfl (two_k (.inl rfl) (by omega))) fun w => (op_ok (x := .int L) (y := .int (RR n Tr P)) rfl rfl (eq_ints (neg := true))).trans ?_
      rw [ne0 (lst_RR p t hn1 (by unfold okk; rw [w]; rfl) c)]
    have a2 : (sAnd (sOp (eqD false) (sVar 2) (sLst false saNil)) (sOp (eqD true) (sVar 5) (sK (.int 0)))) (evl ns n Tr P (some (.int L)) (some (.int L)) (some (.int (RR n Tr P))) none) h0 = .ok (.bl (decide (Tr = []) && false)) h0 := by
      refine and_ok (op_ok (h1 := h0) (h2 := h0) (x := lP Tr) (y := lP []) rfl (lst_ok (xs := []) rfl (Nat.zero_le _)) (eq_lP (neg := false))) fun w => (op_ok (x := .int L) (y := .int 0) rfl rfl (eq_ints (neg := true))).trans ?_
      have w := of_decide_eq_true w
      rw [w] at Lle
      have : L = 0 := by simpa using Lle
      rw [ne0 (by omega)]
    have := or_ok a1 fun _ => a2
    rw [Bool.and_false, Bool.and_false] at this
    exact this
  refine (cons_nx (if_f c9)).trans ?_
  obtain ⟨P2, eP2⟩ : ∃ P2 : List Int, P2 = P.map fun x => 2 * x := ⟨_, rfl⟩
  have p2 : Pr n P2 := ⟨by rw [eP2, List.length_map]; exact pl, fun x hx => by
    rw [eP2] at hx
    obtain ⟨y, hy, rfl⟩ := List.mem_map.mp hx
    have := p3 y hy
    show 1 ≤ 2 * y ∧ 2 * y ≤ 8
    omega⟩
  have od : okk Tr P2 = true := by
    have : odp P2 = false := by
      unfold odp
      rw [List.any_eq_false]
      intro x hx w
      rw [eP2] at hx
      obtain ⟨y, _, rfl⟩ := List.mem_map.mp hx
      have := of_decide_eq_true w
      omega
    unfold okk
    rw [this]
    simp
  have e10 : (sLc false [9] (siSeq (sVar 3)) (sgName 9) (fun _ h => .ok true h) (sOp (mulD false) (sK (.int 2)) (sVar 9))) (evl ns n Tr P (some (.int L)) (some (.int L)) (some (.int (RR n Tr P))) none) h0 = .ok (lI P2) h0 := by
    refine lc_ok (xs := P.map .int) (seq_ok (d := tI P) rfl rfl) (ys := P2.map .int) ?_ (by rw [List.length_map, eP2, List.length_map]; omega)
    rw [eP2, List.map_map]
    refine lc_emb1 .int _ P fun x hx => ⟨[some (.scr ns), some (.int n), some (lP Tr), some (tI P), some (.int L), some (.int L), some (.int (RR n Tr P)), none, none, some (.int x)], rfl, op_ok (x := .int 2) (y := .int x) rfl rfl ?_⟩
    have := p3 x hx
    have := log2_lt (i := x) (k := 10) (by omega) (by omega)
    have := log2_lt (i := (2 : Int)) (k := 10) (by omega) (by omega)
    rw [mulI (by omega)]
    rfl
  refine (cons_nx (ρ1 := evl ns n Tr P (some (.int L)) (some (.int L)) (some (.int (RR n Tr P))) (some (tI P2))) (h1 := h0) (asg_ok (call_ok (h1 := h0) (xs := [lI P2]) (cons_ok e10 rfl) (tup_lI (by rw [p2.len]; omega) h0)) rfl)).trans ?_
  obtain ⟨L2, c21, c20, L2ge, L2le⟩ := least (Tr := Tr) p2 hn1.1
  have c2 : Lst n Tr P2 L2 := ⟨c21, c20⟩
  have c11 : (sOp (eqD true) (sCall (f_tried_rounds (tbC ct K)) (saCons (sVar 1) (saCons (sVar 2) (saCons (sVar 7) saNil)))) (sCall (f_fewest_rounds (tbC ct K)) (saCons (sVar 1) (saCons (sVar 2) (saCons (sVar 7) saNil))))) (evl ns n Tr P (some (.int L)) (some (.int L)) (some (.int (RR n Tr P))) (some (tI P2))) h0 = .ok (.bl false) h0 := by
    refine (op_ok (x := .int L2) (y := .int (RR n Tr P2)) (call_ok (h1 := h0) (xs := [.int n, lP Tr, tI P2]) rfl (tried_k p2 t hl hn1 c2 (by omega))) (call_ok (h1 := h0) (xs := [.int n, lP Tr, tI P2]) rfl (fewest_k p2 t (.inl rfl) (by omega) hn1 od)) (eq_ints (neg := true))).trans ?_
    rw [ne0 (lst_RR p2 t hn1 od c2)]
  refine (cons_nx (if_f c11)).trans ?_
  have c12 : (sAnd (sOp (eqD false) (sVar 3) (sOp (mulD false) (sTup (saCons (sK (.int 1)) saNil)) (sVar 1))) (sOp gtS (sVar 5) (sOp fdivD (sOp (mulD false) (sVar 6) (sK (.int 3))) (sK (.int 2))))) (evl ns n Tr P (some (.int L)) (some (.int L)) (some (.int (RR n Tr P))) (some (tI P2))) h0 = .ok (.bl (decide (P = List.replicate n 1) && false)) h0 := by
    refine and_ok (op_ok (h1 := h0) (h2 := h0) (x := tI P) (y := tI (List.replicate n 1)) rfl (op_ok (h1 := h0) (h2 := h0) (x := .tup [.int 1]) (y := .int n) (tup_ok (xs := [.int 1]) rfl (by show 1 ≤ sizeLine; omega)) rfl (rep_k (by omega) (by omega))) (eq_tI (neg := false))) fun w => ?_
    have ml : (sOp (mulD false) (sVar 6) (sK (.int 3))) (evl ns n Tr P (some (.int L)) (some (.int L)) (some (.int (RR n Tr P))) (some (tI P2))) h0 = .ok (.int (RR n Tr P * 3)) h0 := op_ok (x := .int (RR n Tr P)) (y := .int 3) rfl rfl (by
      have := log2_lt (i := RR n Tr P) (k := 10) (by omega) (by omega)
      have := log2_lt (i := (3 : Int)) (k := 10) (by omega) (by omega)
      rw [mulI (by omega)])
    have dv : (sOp fdivD (sOp (mulD false) (sVar 6) (sK (.int 3))) (sK (.int 2))) (evl ns n Tr P (some (.int L)) (some (.int L)) (some (.int (RR n Tr P))) (some (tI P2))) h0 = .ok (.int (RR n Tr P * 3 / 2)) h0 := op_ok (x := .int (RR n Tr P * 3)) (y := .int 2) ml rfl (fdivI ⟨by omega, by have := log2_lt (i := (2 : Int)) (k := 10) (by omega) (by omega); omega⟩)
    refine (gt_ok (a := (L : Int)) rfl dv).trans ?_
    obtain ⟨X, V⟩ := one_port (of_decide_eq_true w) hn1.1 hn1.2 t
    have := lst_le c V
    rw [decide_eq_false (by omega)]
  rw [Bool.and_false] at c12
  refine (cons_nx (if_f c12)).trans ?_
  show ssCons (t13_law (tbC ct K)) ssNil _ h0 = _
  unfold t13_law
  have rv : (sUn (revY false) (sVar 2)) (evl ns n Tr P (some (.int L)) (some (.int L)) (some (.int (RR n Tr P))) (some (tI P2))) h0 = .ok (lP Tr.reverse) h0 := by
    refine un_ok (x := lP Tr) rfl ?_
    show newL false (Tr.map Ec.prD).reverse h0 = _
    rw [newL_f (by rw [List.length_reverse, List.length_map]; omega)]
    show _ = VI.R.ok (D.lst (Tr.reverse.map Ec.prD)) h0
    rw [List.map_reverse]
  refine ret_ok ((op_ok (x := .int L) (y := .int L) (call_ok (h1 := h0) (xs := [.int n, lP Tr.reverse, tI P]) (cons_ok rfl (cons_ok rv (cons_ok rfl rfl))) (tried_k p (trs_rev t) (by rw [List.length_reverse]; exact hl) hn1 (lst_rev c) (by omega))) rfl (eq_ints (neg := false))).trans ?_)
  simp
theorem plain (K : PySem.W.Frag) (ns : List Int) (hl : ns.length ≤ 63) : ∃ h, f_law (tbC ct K) [.scr ns] bs0 = .ok (.bl true) h := by
  refine ⟨outB bs0 h0, ?_⟩
  unfold f_law runFn
  rw [if_pos (by rfl), show slots 10 [.scr ns] = [some (.scr ns), none, none, none, none, none, none, none, none, none] from rfl, show inB bs0 = h0 from rfl, law_body (K := K) hl]
  rfl
end
end VI.K28
end
section
namespace VI.K28
open PySem PySem.Spec PyProof.Rows L2 VI
theorem zok {w : World} {K : PySem.W.Frag} {h base : Heap} {mg : Str → Option Value} (X : K.In h) (G : h.Ns mainGlobals mg) (c : SaysC ct fa fn K) : Cfg.Ok ⟨tbC ct K, Rr.prog, w, mg, base⟩ tx where
  ok := tbC_ok (by decide +kernel) (by decide +kernel) c.ct
  fr := fun x e => by
    simp only [tx, List.contains_cons, List.contains_nil, Bool.or_false, Bool.or_eq_true, beq_iff_eq] at e
    rcases e with rfl | rfl | rfl | rfl | rfl | rfl | rfl | rfl | rfl | rfl | rfl | rfl | rfl
    · exact He.free_ok X G (c.d.fact 15 (f := .free "all") rfl)
    · exact He.free_ok X G (c.d.fact 16 (f := .free "any") rfl)
    · exact He.free_ok X G (c.d.fact 17 (f := .free "bool") rfl)
    · exact He.free_ok X G (c.d.fact 18 (f := .free "enumerate") rfl)
    · exact He.free_ok X G (c.d.fact 19 (f := .free "int") rfl)
    · exact He.free_ok X G (c.d.fact 20 (f := .free "isinstance") rfl)
    · exact He.free_ok X G (c.d.fact 21 (f := .free "len") rfl)
    · exact He.free_ok X G (c.d.fact 22 (f := .free "list") rfl)
    · exact He.free_ok X G (c.d.fact 23 (f := .free "max") rfl)
    · exact He.free_ok X G (c.d.fact 24 (f := .free "min") rfl)
    · exact He.free_ok X G (c.d.fact 25 (f := .free "range") rfl)
    · exact He.free_ok X G (c.d.fact 26 (f := .free "tuple") rfl)
    · exact He.free_ok X G (c.d.fact 27 (f := .free "zip") rfl)
  co := fun x i e => by
    simp only [tx, List.lookup_cons, List.lookup_nil] at e
    split at e
    · rename_i q; rw [beq_iff_eq] at q; subst q; cases e; exact He.int_ok X G (c.d.fact 28 (f := .int "MOST_SERVERS" 8) rfl)
    split at e
    · rename_i q; rw [beq_iff_eq] at q; subst q; cases e; exact He.int_ok X G (c.d.fact 29 (f := .int "MOST_TRANSFERS" 16) rfl)
    split at e
    · rename_i q; rw [beq_iff_eq] at q; subst q; cases e; exact He.int_ok X G (c.d.fact 30 (f := .int "MOST_TRIED" 8) rfl)
    split at e
    · rename_i q; rw [beq_iff_eq] at q; subst q; cases e; exact He.int_ok X G (c.d.fact 31 (f := .int "MOST_PORTS" 8) rfl)
    cases e
  cl := fun i x e => nomatch (show (none : Option Str) = some x from e)
  ex := fun i x b e => by
    exact nomatch (show (none : Option (Str × Bool)) = some (x, b) from e)
  att := fun i x e => ⟨by show ct.att.getD i "" = x; rw [List.getD_eq_getElem?_getD, show ct.att[i]? = some x from e]; rfl, (List.getElem?_eq_some_iff.mp (show ct.att[i]? = some x from e)).1⟩
theorem dat {w : World} {K : PySem.W.Frag} {h base : Heap} {mg : Str → Option Value} (X : K.In h) (G : h.Ns mainGlobals mg) (c : SaysC ct fa fn K) (i : Nat) (x : Str) (st : Stmt) (e : fn[i]? = some ⟨(x, none), x, x, defArgs st, defBody st, defScope st, [], []⟩) (e2 : fa[i]? = some (.glo x)) : DefAt ⟨tbC ct K, Rr.prog, w, mg, base⟩ x st := by
  obtain ⟨fd, F⟩ := c.d.def_ i e
  exact ⟨_, fd, F, He.glo_ok X G (c.d.fact i e2)⟩
theorem facts {w : World} {K : PySem.W.Frag} {h : Heap} {mg : Str → Option Value} {f : Addr} (X : K.In h) (G : h.Ns mainGlobals mg) (hfa : mg ("law" : Str) = some (.ref f)) (c : SaysC ct fa fn K) :
    ∃ fd : FuncData, (∀ (s : Shared) (v : Value), BindsTo s fd ⟨[v], []⟩ [("_law_script", v)]) ∧ ∀ base : Heap, K.In base → base.Ns mainGlobals mg → FnOk Rr.prog w K mg base (L2.CX Rr.prog w) 45 f fd ["_law_script"] (spF (tbC ct K) (f_law (tbC ct K))) := by
  obtain ⟨fd, F⟩ := c.d.def_ 14 (d := dd_law) rfl
  have e := hfa.symm.trans (He.glo_ok X G (c.d.fact 14 (f := .glo "law") rfl))
  cases e
  have b := FunD.bindsA (ps := ["_law_script"]) F fun _ _ _ _ _ _ us hl => match us, hl with | [_], _ => rfl
  refine ⟨fd, fun s v => b s [v] rfl, fun base _ _ => ?_⟩
  have z : Cfg.Ok ⟨tbC ct K, Rr.prog, w, mg, base⟩ tx := zok X G c
  have G__law_number := g__law_number z (dat X G c 0 "_law_number" d__law_number rfl rfl)
  have G__law_transfers := g__law_transfers z (dat X G c 1 "_law_transfers" d__law_transfers rfl rfl) G__law_number
  have G__law_done := g__law_done z (dat X G c 2 "_law_done" d__law_done rfl rfl)  40
  have G_is_number := g_is_number z (dat X G c 3 "is_number" d_is_number rfl rfl)
  have G_check_transfers := g_check_transfers z (dat X G c 4 "check_transfers" d_check_transfers rfl rfl) G_is_number
  have G_check_ports := g_check_ports z (dat X G c 5 "check_ports" d_check_ports rfl rfl) G_is_number
  have G_degrees_of := g_degrees_of z (dat X G c 6 "degrees_of" d_degrees_of rfl rfl)
  have G_needed := g_needed z (dat X G c 7 "needed" d_needed rfl rfl)
  have G_fits := g_fits z (dat X G c 8 "fits" d_fits rfl rfl) G_degrees_of
  have G_can_be_done := g_can_be_done z (dat X G c 9 "can_be_done" d_can_be_done rfl rfl) G_fits 40
  have G_tried_rounds := g_tried_rounds z (dat X G c 10 "tried_rounds" d_tried_rounds rfl rfl) G_check_transfers G_check_ports G_degrees_of G_needed G_can_be_done
  have G__law_needs := g__law_needs z (dat X G c 11 "_law_needs" d__law_needs rfl rfl)
  have G_is_two_sided := g_is_two_sided z (dat X G c 12 "is_two_sided" d_is_two_sided rfl rfl)
  have G_fewest_rounds := g_fewest_rounds z (dat X G c 13 "fewest_rounds" d_fewest_rounds rfl rfl) G_check_transfers G_check_ports G_degrees_of G_needed G_is_two_sided
  exact fn_sound (T := tbC ct K) (ss := s_law (tbC ct K)) (N := ["_law_script", "_law_servers", "_law_transfers_here", "_law_ports", "_law_least", "_law_found", "_law_needs_here", "_law_even", "_law_at", "_law_number_here"]) (ps := ["_law_script"]) F (S := ⟨rfl, rfl, rfl, by decide +kernel, rfl, by decide +kernel, by decide +kernel⟩) fun cdv A outer s H E hr => b_law G__law_number G__law_transfers G__law_done G_tried_rounds G__law_needs G_is_two_sided G_fewest_rounds ⟨z, rfl, rfl, rfl, rfl, rfl, rfl, by decide +kernel, rfl, rfl, fun _ _ => rfl, rfl, hr, takes_of rfl rfl rfl rfl, passes_of rfl, fun _ => ⟨rfl, rfl, rfl⟩⟩
end VI.K28
open PySem PySem.W PySem.Calls PyProof.Rows
theorem PySem.Challenge.cw_copylots_k28_whole_rounds_tried_holds : PySem.Challenge.rw_copylots_k28_whole_rounds_tried.Holds := by
  w_on; o_law
  refine HandSHeadRun.head_any (r := OpenLaw.row PySem.Challenge.rw_copylots_k28_whole_rounds_tried) (q := view (OpenLaw.row PySem.Challenge.rw_copylots_k28_whole_rounds_tried).prog [29]) (H := VI.K28.hk) (ob := VI.K28.ob) (M := 4000) (loose := VI.K28.loose) (d := HandSHeadRun.topDef (OpenLaw.row PySem.Challenge.rw_copylots_k28_whole_rounds_tried).prog 29) (kwd := []) VI.K28.ob_eq
    (by kernel_rfl) (fun s => by kernel_rfl) VI.K28.run (by kernel_rfl) (by kernel_rfl) (by kernel_rfl) (by rfl) (by first | assumption | decide +kernel) (by decide +kernel) ⟨rfl, rfl, rfl, rfl, rfl, by decide +kernel⟩ ?hw ?hc
  case hw => w_witness2
  case hc =>
    refine VI.walk_w (l := PySem.Challenge.rw_copylots_k28_whole_rounds_tried) (n := 63) (k := 45) (x := "_law_script") rfl (by decide) (by kernel_rfl) ⟨rfl, by decide, by decide⟩ ?_
    intro w mg fa h Y G hmg0
    obtain ⟨K, KX, c⟩ := Y
    have hmg : mg ("law" : PySem.Str) = some (.ref fa) := by
      have e : (HandSHeadRun.topDef (OpenLaw.row PySem.Challenge.rw_copylots_k28_whole_rounds_tried).prog 29).name = ("law" : PySem.Str) := by kernel_rfl
      rw [← e]
      exact hmg0
    obtain ⟨fd, hb, hF⟩ := VI.K28.facts (w := w) KX G hmg c
    exact ⟨K, fd, _, KX, hb, fun H a ns hl hS => VI.start_ok (T := VI.tbC VI.K28.ct K) hS (VI.K28.plain K ns hl).choose_spec, hF⟩
end
