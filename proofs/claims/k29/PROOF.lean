import PyProof.Rows.All
import Wide.All
import OpenK.AllK
import Wide.FinOn
import HandS.ForMost
import HandS.Exc
import HandS.Walk
import HandS.IsInst
import HandS.Lambda
import HandS.TupAny
import HandS.TupMul
import HandS.Star
import HandS.Flow
import HandS.Wide
import HandS.Style
import HandS.Deep
import HandS.TupLe
import KE.DataMinMax
import KE.DataAny
import KE.DataFind
import KE.KTupSum
import HandS.CallSlots
import HandS.CallRecv
import HandS.HeadWalk
import HandS.Defaults
import HandS.Conv
import HandS.SortInts
import KE.KSortedM
import HandS.Zip
import HandS.SetFor
import HandS.HeadEnd
import KE.GoesEnum
import HandS.HeadHook2
import HandS.HeadHook4
import KE.GoesZip
import KE.KDictZip
import KE.SortData
import KE.DataCmp
import HandS.OwnEq
import HandS.Set
import HandS.Strs
import HandS.ForDict
import HandS.DictComp
import KE.KDictDisplayH
import KE.KDictWalk
import KE.KDictCopyH
import KE.KDictItemsList
import HandS.DictTup
import KE.KDictPairs
import KE.KEqNest
import KE.DataEq
import KE.SortKeyHeap
import HandS.ExcOwn
import HandS.HotCalls
import HandS.Text
import KE.KExcIs
import HandS.Head0
import HandS.Head1
import HandS.Head2
import KE.KExcSuper
import HandS.ExcInit
import HandS.SortKw
import KE.KDictSum
import HandS.TupSets
import HandS.HeadHook1
import PySem.Challenge.RW_copylots_k29_whole_alike
set_option Elab.async false
set_option linter.all false
set_option maxRecDepth 100000
set_option maxHeartbeats 0
section
namespace VI
open PySem PySem.Spec PyProof.Rows L2
abbrev Sg := L2.St
inductive Ks where
  | k (l : List Key) | t (l : List (List Key))
def Ks.len : Ks → Nat
  | .k l => l.length
  | .t l => l.length
def kvO : Ks → List V → HO
  | .k l, vs => .dK (l.zip vs)
  | .t l, vs => .dT (l.zip vs)
inductive D where
  | non | bl (b : Bool) | int (i : Int) | str (x : Str)
  | tup (xs : List D) | lst (xs : List D)
  /-- a tuple whose object is known -/
  | tpl (xs : List D)
  | dct (ks : Ks) (vs : List D)
  | obj (c : Nat) (fs : List Nat) (vs : List D)
  /-- an exception that was caught -/
  | exo (c : Nat) (fs : List Nat) (vs : List D)
  | ref (b : Nat)
  /-- the script (a list that is never written) -/
  | scr (ns : List Int)
inductive Bx where
  | lst (lk : Bool) (xs : List D)
  | dct (lk : Bool) (ks : Ks) (vs : List D)
  /-- a dict that is not written any more -/
  | dfz (ks : Ks) (vs : List D)
  | obj (c : Nat) (fs : List Nat) (vs : List D)
  /-- the table of code objects of the t-th def with lambdas -/
  | tbl (t : Nat)
abbrev Ev := List (Option D)
structure Bs where
  fbs : List Nat
  bs : List Bx
mutual
def bel (k : Nat) : D → Prop
  | .tup xs => bels k xs
  | .tpl xs => bels k xs
  | .lst xs => bels k xs
  | .dct _ vs => bels k vs
  | .obj _ _ vs => bels k vs
  | .exo _ _ vs => bels k vs
  | .ref b => b < k
  | _ => True
def bels (k : Nat) : List D → Prop
  | [] => True
  | x :: xs => bel k x ∧ bels k xs
end
def belB (k : Nat) : Bx → Prop
  | .lst _ xs => bels k xs
  | .dct _ _ vs => bels k vs
  | .dfz _ vs => bels k vs
  | .obj _ _ vs => bels k vs
  | .tbl _ => True
mutual
def noR : D → Bool
  | .tup xs => noRs xs
  | .tpl xs => noRs xs
  | .lst xs => noRs xs
  | .dct _ vs => noRs vs
  | .obj _ _ vs => noRs vs
  | .exo _ _ vs => noRs vs
  | .ref _ => false
  | _ => true
def noRs : List D → Bool
  | [] => true
  | x :: xs => noR x && noRs xs
end
mutual
theorem noR.bel {k : Nat} : ∀ d : D, noR d = true → bel k d
  | .non, _ => by simp [VI.bel]
  | .bl _, _ => by simp [VI.bel]
  | .int _, _ => by simp [VI.bel]
  | .str _, _ => by simp [VI.bel]
  | .tup xs, h => by simp only [noR] at h; simp only [VI.bel]; exact noRs.bels xs h
  | .tpl xs, h => by simp only [noR] at h; simp only [VI.bel]; exact noRs.bels xs h
  | .lst xs, h => by simp only [noR] at h; simp only [VI.bel]; exact noRs.bels xs h
  | .dct _ vs, h => by simp only [noR] at h; simp only [VI.bel]; exact noRs.bels vs h
  | .obj _ _ vs, h => by simp only [noR] at h; simp only [VI.bel]; exact noRs.bels vs h
  | .exo _ _ vs, h => by simp only [noR] at h; simp only [VI.bel]; exact noRs.bels vs h
  | .ref b, h => by simp [noR] at h
  | .scr _, _ => by simp [VI.bel]
theorem noRs.bels {k : Nat} : ∀ d : List D, noRs d = true → bels k d
  | [], _ => by simp [VI.bels]
  | x :: xs, h => by simp only [noRs, Bool.and_eq_true] at h; simp only [VI.bels]; exact ⟨noR.bel x h.1, noRs.bels xs h.2⟩
end
structure Tb where
  K : PySem.W.Frag
  cls : Nat → Option Addr
  att : Nat → Str
  /-- how many names -/
  n : Nat
  /-- isinstance: types by numbers (0 NoneType, 1 bool, 2 int, 3 str, 4 tuple, 5 list, 6 dict, 7 + c the class c) -/
  kit : Nat → Nat → Option Bool
  isc : Nat → Bool
  /-- the class c has plain instances with the attribute f -/
  fok : Nat → Nat → Bool
  /-- the tables of code objects: where, the name of the code objects in it -/
  tab : Nat → Addr × Str
  /-- exception classes have the numbers from 1000 on; such a class's instances have the field f -/
  efok : Nat → Nat → Bool
structure XcOk (K : PySem.W.Frag) (C : Addr) : Prop where
  cl : (PySem.W.clsIn K C).isSome = true
  ga : PySem.W.findIn K (.ref C) "__getattribute__" = some (some (.builtin "BaseException.__getattribute__"))
  gg : PySem.W.findIn K (.ref C) "__getattr__" = some none
  exC : PySem.W.subIn K (.ref C) (.type "BaseException") = some true
  hdC : PySem.W.hasDictIn K C = true
  ha : PySem.W.findIn K (.ref C) "__class__" = some (some (.builtin "object.__class__"))
  hn : PySem.W.specialIn K (.builtin "object.__class__") "__get__" = some (some (.builtin "getset_descriptor.__get__"))
  htk : PySem.W.takesIn K (.builtin "object.__class__") = some true
  hm : PySem.W.mroIn K C (.type "object") = some true
  ty : PySem.W.typeIn K (.ref C) = some (.type "type")
def tyS : Nat → String
  | 0 => "NoneType"
  | 1 => "bool"
  | 2 => "int"
  | 3 => "str"
  | 4 => "tuple"
  | 5 => "list"
  | _ => "dict"
def Tb.tyV (T : Tb) (t : Nat) (u : Value) : Prop := if t < 7 then u = .type (tyS t) else ∃ C, T.cls (t - 7) = some C ∧ u = .ref C
structure Tb.Ok (T : Tb) : Prop where
  kit : ∀ t u b tv uv, T.kit t u = some b → T.tyV t tv → T.tyV u uv → PySem.W.kitOne T.K tv uv = some b
  ins : ∀ c C, T.cls c = some C → T.isc c = true → ∀ (H : Hp) (a dx : Addr) (fs : List (Str × V)), H a = some (.ins C dx fs) → TyOf T.K H (.ref a) (.ref C)
  ne : ∀ c C, T.cls c = some C → PySem.W.mroIn T.K C (.type "object") = some true ∧ PySem.W.findIn T.K (.ref C) "__ne__" = some (some (.builtin "object.__ne__"))
  inj : ∀ f g, f < T.n → T.att g = T.att f → g = f
  lt : ∀ c f, T.fok c f = true → f < T.n
  fld : ∀ c f C, T.fok c f = true → T.cls c = some C → Cls T.K C ∧ NoAttr T.K C (T.att f)
  exc : ∀ c C, 1000 ≤ c → T.cls c = some C → XcOk T.K C
  exm : ∀ c u b C E, 1000 ≤ c → 1000 ≤ u → T.kit (7 + c) (7 + u) = some b → T.cls c = some C → T.cls u = some E → PySem.W.exmOne T.K (.ref C) (.ref E) = some b
  efl : ∀ c f C, T.efok c f = true → T.cls c = some C → f < T.n ∧ PySem.W.findIn T.K (.ref C) (T.att f) = some none
structure Mu where
  ad : List Addr
  lk : List Addr
  /-- lists that a comprehension is filling -/
  pr : List Addr
  /-- the heights of the running calls -/
  fb : List Nat
def Mu.no (μ : Mu) (a : Addr) : Prop := a ∉ μ.ad ∧ a ∉ μ.pr
def Mu.push (μ : Mu) (p : Addr) : Mu := { μ with ad := μ.ad ++ [p] }
def FzL (K : PySem.W.Frag) (μ : Mu) (H : Hp) (a : Addr) (xs : List V) : Prop := (Rd H a (.lst xs) ∧ μ.no a) ∨
  ∃ (o : Obj) (its : Array Value) (n : Nat), K.lookup a = some o ∧ o.cls = .type "list" ∧ o.dict = none ∧ o.data = .seq its n ∧ its.size ≤ sizeLine ∧ Vals xs its.toList
theorem FzL.sq {K μ H a xs} (h : FzL K μ H a xs) : SqL K H a xs := by
  rcases h with ⟨h, _⟩ | h
  · exact .inl h
  · exact .inr h
def anyH : HO := .ext fun _ => True
def XdAt (T : Tb) (μ : Mu) (H : Hp) (fs : List Nat) (vs : List V) (d : Option Addr) : Prop := (fs = [] ∧ d = none) ∨ ∃ dx, d = some dx ∧ H dx = some (.xd ((fs.map T.att).zip vs)) ∧ μ.no dx
section
variable (T : Tb) (μ : Mu) (H : Hp)
mutual
def Rep : D → V → Prop
  | .non, v => v = .non
  | .bl b, v => v = .bl b
  | .int i, v => v = .int i
  | .str x, v => v = .str x
  | .tup xs, v => ∃ a vs, v = .ref a ∧ H a = some (.tup vs) ∧ μ.no a ∧ Reps xs vs
  | .tpl xs, v => ∃ a o vs, v = .ref a ∧ H a = some (.frz o (.tup vs)) ∧ (o.cls = .type "tuple" ∧ o.dict = none) ∧ μ.no a ∧ Reps xs vs
  | .lst xs, v => ∃ a vs, v = .ref a ∧ H a = some (.lst vs) ∧ μ.no a ∧ Reps xs vs
  | .dct ks xs, v => ∃ a o vs, v = .ref a ∧ H a = some (.frz o (kvO ks vs)) ∧ μ.no a ∧ ks.len = vs.length ∧ Reps xs vs
  | .obj c fs xs, v => ∃ a C dx vs, v = .ref a ∧ T.cls c = some C ∧ H a = some (.ins C dx ((fs.map T.att).zip vs)) ∧ μ.no a ∧ fs.length = vs.length ∧ Reps xs vs
  | .exo c fs xs, v => ∃ a C o us vs, v = .ref a ∧ T.cls c = some C ∧ H a = some (.frz o anyH) ∧ (o.cls = .ref C ∧ o.data = .fields us) ∧ μ.no a ∧ XdAt T μ H fs vs o.dict ∧ fs.length = vs.length ∧ Reps xs vs
  | .ref b, v => ∃ a, μ.ad[b]? = some a ∧ v = .ref a
  | .scr ns, v => ∃ a, v = .ref a ∧ FzL T.K μ H a (ns.map V.int)
def Reps : List D → List V → Prop
  | [], vs => vs = []
  | x :: xs, vs => ∃ v r, vs = v :: r ∧ Rep x v ∧ Reps xs r
end
def RepB : Bx → Addr → Prop
  | .lst _ xs, a => ∃ vs, H a = some (.lst vs) ∧ Reps T μ H xs vs
  | .dct lk ks xs, a => ∃ vs, (if lk then ∃ o, H a = some (.frz o (kvO ks vs)) else H a = some (kvO ks vs)) ∧ ks.len = vs.length ∧ Reps T μ H xs vs
  | .dfz ks xs, a => ∃ o vs, H a = some (.frz o (kvO ks vs)) ∧ ks.len = vs.length ∧ Reps T μ H xs vs
  | .obj c fs xs, a => ∃ C dx vs, T.cls c = some C ∧ H a = some (.ins C dx ((fs.map T.att).zip vs)) ∧ fs.length = vs.length ∧ Reps T μ H xs vs
  | .tbl t, a => a = (T.tab t).1 ∧ ∃ ps : Array Value, H a = some (.tbl ps) ∧ TriplesOk ps.toList ∧ ∀ (pos : Pos) (cv : Value), codeAmong pos ps.toList = some cv → ∃ c, cv = .ref c ∧ H c = some (LamX.CodeO c (T.tab t).2) ∧ μ.no c
end
def lkd : Bx → Bool
  | .lst lk _ => lk
  | .dct lk _ _ => lk
  | _ => false
structure Rel (T : Tb) (μ : Mu) (h : Bs) (H : Hp) : Prop where
  fb : h.fbs = μ.fb
  prh : ∀ a ∈ μ.pr, (∃ o, H a = some o ∧ ∀ xs, o ≠ .tup xs) ∧ a ∉ μ.ad
  lks : ∀ a ∈ μ.lk, ∃ (b : Nat) (x : Bx), μ.ad[b]? = some a ∧ h.bs[b]? = some x ∧ lkd x = true
  lkf : ∀ (b : Nat) (x : Bx) (a : Addr), h.bs[b]? = some x → lkd x = true → μ.ad[b]? = some a → a ∈ μ.lk
  len : μ.ad.length = h.bs.length
  nd : μ.ad.Nodup
  at_ : ∀ (i : Nat) (b : Bx) (a : Addr), h.bs[i]? = some b → μ.ad[i]? = some a → RepB T μ H b a
  lo : ∀ k ∈ h.fbs, k ≤ h.bs.length
  ord : h.fbs.Pairwise (· ≥ ·)
  wf : ∀ k ∈ h.fbs, ∀ (i : Nat) (b : Bx), i < k → h.bs[i]? = some b → belB k b
def RepE (T : Tb) (μ : Mu) (H : Hp) (ρ : Ev) (σ : Sg) : Prop := ρ.length = σ.length ∧ ∀ (i : Nat) (d : D), ρ[i]? = some (some d) → ∃ v, σ[i]? = some (some v) ∧ Rep T μ H d v
structure Stp (μ : Mu) (H : Hp) (μ' : Mu) (H' : Hp) : Prop where
  fbe : μ'.fb = μ.fb
  pre : ∀ (i : Nat) (a : Addr), μ.ad[i]? = some a → μ'.ad[i]? = some a
  lks : μ'.lk = μ.lk
  prs : ∀ a ∈ μ.pr, a ∈ μ'.pr
  prn : ∀ a ∈ μ'.pr, a ∈ μ.pr ∨ a ∈ μ.ad ∨ H a = none
  keep' : ∀ a o, H a = some o → (a ∉ μ.ad ∨ a ∈ μ.lk) → H' a = some o
  new : ∀ p, p ∈ μ'.ad → p ∈ μ.ad ∨ H p = none
theorem Stp.keep {μ H μ' H'} (s : Stp μ H μ' H') : ∀ a o, H a = some o → a ∉ μ.ad → H' a = some o := fun a o h n => s.keep' a o h (.inl n)
theorem Stp.refl {μ H} : Stp μ H μ H := ⟨rfl, fun _ _ h => h, rfl, fun _ h => h, fun _ h => .inl h, fun _ _ h _ => h, fun _ h => .inl h⟩
theorem Stp.sub {μ H μ' H'} (s : Stp μ H μ' H') {a : Addr} (h : a ∈ μ.ad) : a ∈ μ'.ad := by
  obtain ⟨i, hi⟩ := List.getElem?_of_mem h
  exact List.mem_of_getElem? (s.pre i a hi)
theorem Stp.trans {μ H μ' H' μ'' H''} (s : Stp μ H μ' H') (t : Stp μ' H' μ'' H'') : Stp μ H μ'' H'' where
  fbe := t.fbe.trans s.fbe
  pre := fun i a h => t.pre i a (s.pre i a h)
  lks := t.lks.trans s.lks
  prs := fun a h => t.prs a (s.prs a h)
  prn := fun a h => by
    rcases t.prn a h with z | z | z
    · exact s.prn a z
    · rcases s.new a z with y | y
      · exact .inr (.inl y)
      · exact .inr (.inr y)
    · by_cases hm : a ∈ μ.ad
      · exact .inr (.inl hm)
      · cases e : H a with
        | none => exact .inr (.inr rfl)
        | some o => have := s.keep a o e hm; rw [z] at this; cases this
  keep' := fun a o h n => by
    rcases n with n | n
    · by_cases hm : a ∈ μ'.ad
      · rcases s.new a hm with z | z
        · exact absurd z n
        · rw [z] at h; cases h
      · exact t.keep a o (s.keep a o h n) hm
    · exact t.keep' a o (s.keep' a o h (.inr n)) (.inr (by rw [s.lks]; exact n))
  new := fun p hp => by
    rcases t.new p hp with z | z
    · exact s.new p z
    · by_cases hm : p ∈ μ.ad
      · exact .inl hm
      · cases e : H p with
        | none => exact .inr rfl
        | some o => have := s.keep p o e hm; rw [z] at this; cases this
theorem Stp.laid {μ : Mu} {H : Hp} {p : Addr} {o : HO} (h : H p = none) : Stp μ H μ (upd H p o) :=
  ⟨rfl, fun _ _ e => e, rfl, fun _ z => z, fun _ z => .inl z, fun a u e _ => by rw [upd_ne (ne_of_none e h)]; exact e, fun _ e => .inl e⟩
theorem Stp.box {μ : Mu} {H : Hp} {p : Addr} {o : HO} (h : H p = none) : Stp μ H (μ.push p) (upd H p o) :=
  ⟨rfl, fun i a e => by
      have hl : i < μ.ad.length := (List.getElem?_eq_some_iff.mp e).1
      show (μ.ad ++ [p])[i]? = some a
      rw [List.getElem?_append_left hl]; exact e,
    rfl, fun _ z => z, fun _ z => .inl z, fun a u e _ => by rw [upd_ne (ne_of_none e h)]; exact e,
    fun q hq => by
      rcases List.mem_append.mp (show q ∈ μ.ad ++ [p] from hq) with z | z
      · exact .inl z
      · have : q = p := by simpa using z
        subst this; exact .inr h⟩
theorem Stp.put {μ : Mu} {H : Hp} {p : Addr} {o : HO} (h : p ∈ μ.ad) (hl : p ∉ μ.lk) : Stp μ H μ (upd H p o) :=
  ⟨rfl, fun _ _ e => e, rfl, fun _ z => z, fun _ z => .inl z, fun a u e n => by
    rw [upd_ne (fun z => by
      subst z
      rcases n with n | n
      · exact n h
      · exact hl n)]
    exact e, fun _ e => .inl e⟩
section
variable {T : Tb} {μ μ' : Mu} {H H' : Hp}
theorem Stp.not (s : Stp μ H μ' H') {a : Addr} {o : HO} (h : H a = some o) (n : μ.no a) : μ'.no a := by
  refine ⟨fun hm => ?_, fun hm => ?_⟩
  · rcases s.new a hm with z | z
    · exact n.1 z
    · rw [z] at h; cases h
  · rcases s.prn a hm with z | z | z
    · exact n.2 z
    · exact n.1 z
    · rw [z] at h; cases h
theorem Stp.rd (s : Stp μ H μ' H') {a : Addr} {u : HO} (r : Rd H a u) (n : μ.no a) : Rd H' a u := by
  rcases r with r | ⟨o, r⟩
  · exact .inl (s.keep a _ r n.1)
  · exact .inr ⟨o, s.keep a _ r n.1⟩
theorem Rd.some {a : Addr} {u : HO} (r : Rd H a u) : ∃ o, H a = some o := by
  rcases r with r | ⟨o, r⟩
  · exact ⟨_, r⟩
  · exact ⟨_, r⟩
theorem Stp.fl {K : PySem.W.Frag} (s : Stp μ H μ' H') {a : Addr} {xs : List V} (h : FzL K μ H a xs) : FzL K μ' H' a xs := by
  rcases h with ⟨r, n⟩ | h
  · obtain ⟨o, e⟩ := Rd.some r
    exact .inl ⟨s.rd r n, s.not e n⟩
  · exact .inr h
theorem XdAt.imp {fs : List Nat} {vs : List V} {d : Option Addr} (q : XdAt T μ H fs vs d) (h : ∀ dx u, H dx = some u → μ.no dx → H' dx = some u ∧ μ'.no dx) : XdAt T μ' H' fs vs d := by
  rcases q with q | ⟨dx, e, f, n⟩
  · exact .inl q
  · exact .inr ⟨dx, e, (h dx _ f n).1, (h dx _ f n).2⟩
mutual
theorem Rep.step (s : Stp μ H μ' H') : ∀ (d : D) (v : V), Rep T μ H d v → Rep T μ' H' d v
  | .non, v, h => by simpa [Rep] using h
  | .bl b, v, h => by simpa [Rep] using h
  | .int i, v, h => by simpa [Rep] using h
  | .str x, v, h => by simpa [Rep] using h
  | .tup xs, v, h => by
    simp only [Rep] at h ⊢
    obtain ⟨a, vs, e, f, n, r⟩ := h
    exact ⟨a, vs, e, s.keep a _ f n.1, s.not f n, Reps.step s xs vs r⟩
  | .tpl xs, v, h => by
    simp only [Rep] at h ⊢
    obtain ⟨a, o, vs, e, f, c, n, r⟩ := h
    exact ⟨a, o, vs, e, s.keep a _ f n.1, c, s.not f n, Reps.step s xs vs r⟩
  | .lst xs, v, h => by
    simp only [Rep] at h ⊢
    obtain ⟨a, vs, e, f, n, r⟩ := h
    exact ⟨a, vs, e, s.keep a _ f n.1, s.not f n, Reps.step s xs vs r⟩
  | .dct ks xs, v, h => by
    simp only [Rep] at h ⊢
    obtain ⟨a, o, vs, e, f, n, l, r⟩ := h
    exact ⟨a, o, vs, e, s.keep a _ f n.1, s.not f n, l, Reps.step s xs vs r⟩
  | .obj c fs xs, v, h => by
    simp only [Rep] at h ⊢
    obtain ⟨a, C, dx, vs, e, ec, f, n, l, r⟩ := h
    exact ⟨a, C, dx, vs, e, ec, s.keep a _ f n.1, s.not f n, l, Reps.step s xs vs r⟩
  | .exo c fs xs, v, h => by
    simp only [Rep] at h ⊢
    obtain ⟨a, C, o, us, vs, e, ec, f, eo, n, x, l, r⟩ := h
    exact ⟨a, C, o, us, vs, e, ec, s.keep a _ f n.1, eo, s.not f n, x.imp fun dx u z m => ⟨s.keep dx _ z m.1, s.not z m⟩, l, Reps.step s xs vs r⟩
  | .ref b, v, h => by
    simp only [Rep] at h ⊢
    obtain ⟨a, e, e2⟩ := h
    exact ⟨a, s.pre _ _ e, e2⟩
  | .scr ns, v, h => by
    simp only [Rep] at h ⊢
    obtain ⟨a, e, f⟩ := h
    exact ⟨a, e, s.fl f⟩
theorem Reps.step (s : Stp μ H μ' H') : ∀ (d : List D) (v : List V), Reps T μ H d v → Reps T μ' H' d v
  | [], v, h => by simpa [Reps] using h
  | x :: xs, v, h => by
    simp only [Reps] at h ⊢
    obtain ⟨w, r, e, h1, h2⟩ := h
    exact ⟨w, r, e, Rep.step s x w h1, Reps.step s xs r h2⟩
end
theorem RepE.step (s : Stp μ H μ' H') {ρ : Ev} {σ : Sg} (h : RepE T μ H ρ σ) : RepE T μ' H' ρ σ := ⟨h.1, fun i d e => by
  obtain ⟨v, e1, r⟩ := h.2 i d e
  exact ⟨v, e1, Rep.step s d v r⟩⟩
theorem Reps.length {T : Tb} {μ H} : ∀ {xs : List D} {vs : List V}, Reps T μ H xs vs → xs.length = vs.length
  | [], vs, h => by simp only [Reps] at h; subst h; rfl
  | x :: xs, vs, h => by
    simp only [Reps] at h
    obtain ⟨v, r, rfl, _, h⟩ := h
    simp [Reps.length h]
theorem Reps.get {T : Tb} {μ H} : ∀ {xs : List D} {vs : List V} {i : Nat} {x : D}, Reps T μ H xs vs → xs[i]? = some x → ∃ v, vs[i]? = some v ∧ Rep T μ H x v
  | [], _, _, _, _, e => by simp at e
  | y :: xs, vs, 0, x, h, e => by
    simp only [Reps] at h
    obtain ⟨v, r, rfl, h1, _⟩ := h
    simp at e; subst e
    exact ⟨v, rfl, h1⟩
  | y :: xs, vs, i + 1, x, h, e => by
    simp only [Reps] at h
    obtain ⟨v, r, rfl, _, h2⟩ := h
    obtain ⟨u, e1, r1⟩ := Reps.get (i := i) (x := x) h2 (by simpa using e)
    exact ⟨u, by simpa using e1, r1⟩
theorem Reps.append {T : Tb} {μ H} : ∀ {xs ys : List D} {vs ws : List V}, Reps T μ H xs vs → Reps T μ H ys ws → Reps T μ H (xs ++ ys) (vs ++ ws)
  | [], ys, vs, ws, h, h2 => by simp only [Reps] at h; subst h; exact h2
  | x :: xs, ys, vs, ws, h, h2 => by
    simp only [Reps] at h
    obtain ⟨v, r, rfl, h0, h1⟩ := h
    simp only [List.cons_append, Reps]
    exact ⟨v, r ++ ws, rfl, h0, Reps.append h1 h2⟩
theorem Reps.one {T : Tb} {μ H} {x : D} {v : V} (h : Rep T μ H x v) : Reps T μ H [x] [v] := by
  simp only [Reps]; exact ⟨v, [], rfl, h, rfl⟩
theorem Reps.nil {T : Tb} {μ H} : Reps T μ H [] [] := by simp only [Reps]
theorem Reps.cons {T : Tb} {μ H} {x : D} {v : V} {xs : List D} {vs : List V} (h : Rep T μ H x v) (h2 : Reps T μ H xs vs) : Reps T μ H (x :: xs) (v :: vs) := by
  simp only [Reps]; exact ⟨v, vs, rfl, h, h2⟩
theorem Reps.set {T : Tb} {μ H} {x : D} {v : V} (r : Rep T μ H x v) : ∀ {xs : List D} {vs : List V} (i : Nat), Reps T μ H xs vs → Reps T μ H (xs.set i x) (vs.set i v)
  | [], vs, i, h => by simp only [Reps] at h; subst h; simp [Reps]
  | y :: xs, vs, 0, h => by
    simp only [Reps] at h
    obtain ⟨w, rr, rfl, h0, h1⟩ := h
    exact .cons r h1
  | y :: xs, vs, i + 1, h => by
    simp only [Reps] at h
    obtain ⟨w, rr, rfl, h0, h1⟩ := h
    exact .cons h0 (Reps.set r i h1)
theorem Reps.take {T : Tb} {μ H} : ∀ {xs : List D} {vs : List V} (n : Nat), Reps T μ H xs vs → Reps T μ H (xs.take n) (vs.take n)
  | _, _, 0, _ => by simp [Reps]
  | [], vs, n + 1, h => by simp only [Reps] at h; subst h; simp [Reps]
  | y :: xs, vs, n + 1, h => by
    simp only [Reps] at h
    obtain ⟨w, rr, rfl, h0, h1⟩ := h
    exact .cons h0 (Reps.take n h1)
theorem Reps.drop {T : Tb} {μ H} : ∀ {xs : List D} {vs : List V} (n : Nat), Reps T μ H xs vs → Reps T μ H (xs.drop n) (vs.drop n)
  | _, _, 0, h => h
  | [], vs, n + 1, h => by simp only [Reps] at h; subst h; simp [Reps]
  | y :: xs, vs, n + 1, h => by
    simp only [Reps] at h
    obtain ⟨w, rr, rfl, h0, h1⟩ := h
    exact Reps.drop n h1
theorem Reps.ints {T : Tb} {μ H} : ∀ (ns : List Int), Reps T μ H (ns.map .int) (ns.map V.int)
  | [] => .nil
  | n :: ns => .cons (by simp only [Rep]) (Reps.ints ns)
theorem Reps.intsOf {T : Tb} {μ H} : ∀ {ns : List Int} {vs : List V}, Reps T μ H (ns.map .int) vs → vs = ns.map V.int
  | [], vs, h => by simpa [Reps] using h
  | n :: ns, vs, h => by
    simp only [List.map_cons, Reps, Rep] at h
    obtain ⟨w, rr, rfl, rfl, h1⟩ := h
    rw [Reps.intsOf h1]; rfl
theorem Reps.bls {T : Tb} {μ H} : ∀ {ns : List Bool} {vs : List V}, Reps T μ H (ns.map .bl) vs → vs = ns.map V.bl
  | [], vs, h => by simpa [Reps] using h
  | n :: ns, vs, h => by
    simp only [List.map_cons, Reps, Rep] at h
    obtain ⟨w, rr, rfl, rfl, h1⟩ := h
    rw [Reps.bls h1]; rfl
theorem RepE.set {T : Tb} {μ H} {ρ : Ev} {σ : Sg} {i : Nat} {d : D} {v : V} (h : RepE T μ H ρ σ) (r : Rep T μ H d v) : RepE T μ H (ρ.set i (some d)) (σ.set i (some v)) := by
  refine ⟨by simp [h.1], fun j e q => ?_⟩
  by_cases hj : i = j
  · subst hj
    have hl : i < ρ.length := by
      have := (List.getElem?_eq_some_iff.mp q).1
      simpa using this
    rw [List.getElem?_set_self hl] at q
    cases q
    exact ⟨v, List.getElem?_set_self (by rw [← h.1]; exact hl), r⟩
  · rw [List.getElem?_set_ne hj] at q ⊢
    exact h.2 j e q
end
end VI
end
section
namespace VI
open PySem PySem.Spec PyProof.Rows L2
def ToP (H : Hp) (xs : List V) (Q : VK) : Prop := ∀ p o, o.cls = .type "tuple" ∧ o.dict = none → H p = none → Q (.ref p) (upd H p (.frz o (.tup xs)))
section
variable {X : Cx} {es : List Expr} {t : TA} {pos : Pos}
theorem laidP {pins : List (Addr × Obj)} {σ : List (Option V)} {H : Hp} {s : Shared} {xs : List V} {us : List Value} {Q : VK} (I : Inv X pins σ H s) (hz : xs.length ≤ sizeLine) (r : Vals xs us) (q : ToP H xs Q) :
    EP X pins σ Q (.ref s.heap.objs.size) { s with heap := s.heap.push { cls := .type "tuple", data := .seq us.toArray } } := by
  refine ⟨.ref s.heap.objs.size, upd H s.heap.objs.size (.frz { cls := .type "tuple", data := .seq us.toArray } (.tup xs)), ?_, rfl, q _ _ ⟨rfl, rfl⟩ (I.hok.fresh (Nat.le_refl _))⟩
  refine I.laid (t' := s.toks) (fun _ _ z => Heap.get?_push_of_some _ z) (Nat.le_refl _) ?_
  exact ⟨Heap.get?_push_size _ rfl, hz, us, r, IsTup.new _ _⟩
def rCatP (K : PySem.W.Frag) : R2 := fun x y H Q => ∃ a b xs ys, x = .ref a ∧ y = .ref b ∧ SqT K H a xs ∧ SqT K H b ys ∧ xs.length + ys.length ≤ sizeLine ∧
  (xs = [] → Q (.ref b) H) ∧ (xs ≠ [] → ys = [] → Q (.ref a) H) ∧ (xs ≠ [] → ys ≠ [] → ToP H (xs ++ ys) Q)
theorem op_catP : OpR X (binaryOp .Add) (rCatP X.K) := by
  intro pins s σ H x y v u Q I rx ry ⟨a, b, xs, ys, ex, ey, ha, hb, hz, q0, q1, q2⟩
  by_cases hx : xs = []
  · exact op_catA pins s σ H x y v u Q I rx ry ⟨a, b, xs, ys, ex, ey, ha, hb, hz, q0, q1, fun z => absurd hx z⟩
  · subst ex ey
    cases rx
    cases ry
    obtain ⟨us, r1, p1, _⟩ := I.tuple ha
    obtain ⟨ws, r2, p2, _⟩ := I.tuple hb
    refine HT.cat_tup p1 p2 (fun z => hx (r1.nil_iff.mp z)) (fun z => ⟨.ref a, H, I, rfl, q1 hx (r2.nil_iff.mp z)⟩) (fun z => ?_) (by rw [← r1.length, ← r2.length]; exact hz)
    exact laidP I (by rw [List.length_append]; exact hz) (r1.append r2) (q2 hx fun w => z (r2.nil_iff.mpr w))
def rSlP (K : PySem.W.Frag) : V → Option Int → Option Int → Hp → VK → Prop := fun x lo hi H Q => ∃ a xs, x = .ref a ∧ SqT K H a xs ∧
  (HT.sIx xs.length 0 lo = 0 ∧ HT.sIx xs.length xs.length hi = xs.length → Q (.ref a) H) ∧ (¬ (HT.sIx xs.length 0 lo = 0 ∧ HT.sIx xs.length xs.length hi = xs.length) → ToP H (cutV xs lo hi) Q)
theorem sl_tupP : SlR X (rSlP X.K) := by
  intro pins s σ H x v vl vu lo hi sl Q I rx hs pl pu ⟨a, xs, ex, hx, q1, q2⟩
  by_cases hw : HT.sIx xs.length 0 lo = 0 ∧ HT.sIx xs.length xs.length hi = xs.length
  · exact sl_tupA pins s σ H x v vl vu lo hi sl Q I rx hs pl pu ⟨a, xs, ex, hx, q1, fun z => absurd hw z⟩
  · subst ex
    cases rx
    obtain ⟨us, r, ht, hz⟩ := I.tuple hx
    have hn : us.toArray.size = xs.length := by rw [List.size_toArray]; exact r.length.symm
    refine ⟨"tuple", _, PyProof.Rows.slot_tuple_getitem.lookup, ht.typeIs, HT.getItem_tuple_cut ht hs pl pu (by rw [hn]; exact hw) ?_ (by rw [hn]; exact hz)⟩
    rw [hn]
    exact laidP I (Nat.le_trans (cutV_length xs lo hi) hz) ((r.drop (HT.sIx xs.length 0 lo)).take (HT.sIx xs.length xs.length hi - HT.sIx xs.length 0 lo)) (q2 hw)
def rRepP (K : PySem.W.Frag) : R2 := fun x y H Q => ∃ l k xs, x = .ref l ∧ y = .int k ∧ SqT K H l xs ∧ xs ≠ [] ∧ 2 ≤ k ∧ k ≤ 1000 ∧ xs.length ≤ 1000 ∧ ToP H (List.replicate k.toNat xs).flatten Q
theorem op_repP : OpR X (binaryOp .Mult) (rRepP X.K) := by
  intro pins s σ H x y v u Q I rx ry ⟨l, k, xs, ex, ey, hT, hne, h1, h2, hz, q⟩
  subst ex ey
  cases rx
  obtain ⟨t, rfl⟩ := ry
  obtain ⟨us, r, ⟨⟨cls, dd, data, sl⟩, ho, hc, n, hd⟩, hs⟩ := I.tuple hT
  simp only at hc hd
  subst hc hd
  have hle : us.length = xs.length := r.length.symm
  have hi : us.toArray.isEmpty = false := by
    cases us with
    | nil => exact absurd (List.eq_nil_of_length_eq_zero hle.symm) hne
    | cons _ _ => rfl
  have hsz : us.toArray.size = xs.length := by rw [List.size_toArray, hle]
  have a2 : k.toNat * xs.length ≤ 1000 * 1000 := Nat.mul_le_mul (by omega) hz
  have a1 : ((xs.length : Nat) : Int) * k ≤ 1000 * k := Int.mul_le_mul_of_nonneg_right (by omega) (by omega)
  have hm : ((us.toArray.size : Nat) : Int) * k ≤ 1000000 := by rw [hsz]; omega
  have fl : (List.replicate k.toNat us).flatten.length ≤ sizeLine := by rw [PyProof.Rows.lm_len_rep_flat, hle, sizeLine_eq]; omega
  have d0 : (decide (k < -(2 ^ 63)) || decide (k ≥ 2 ^ 63)) = false := by
    rw [decide_eq_false (show ¬ k < -(2 ^ 63) by omega), decide_eq_false (show ¬ k ≥ 2 ^ 63 by omega)] <;> rfl
  have d1 : (us.toArray.isEmpty || k == 1) = false := by rw [hi, Bool.false_or]; exact beq_eq_false_iff_ne.mpr (by omega)
  have d2 : (decide (k ≤ 0) || us.toArray.isEmpty) = false := by rw [hi, Bool.or_false]; exact decide_eq_false (by omega)
  have d4 : Builtin.Tuple.tupleTooMany (((us.toArray.size : Nat) : Int) * k) = false := by
    unfold Builtin.Tuple.tupleTooMany; rw [sizeLine_eq]; exact decide_eq_false (by omega)
  have M := tuple_mulW l us.toArray n dd sl k t d0 d1 d2 (by omega) d4 (by rw [size_rep, List.size_toArray]; exact fl)
  refine wpAny_binaryOp_repeat_ref (T := "tuple") (U := "int") (by decide) ⟨_, ho, rfl⟩ (fun z => typeIs_int z k t) noFill_tuple_mul F.fills_int_mul F.slot_int_rmul repeat_tuple F.slot_int_index.lookup
    (call_meets F.slot_int_rmul (typeIs_int s k t) F.entry_int_rmul (F.args_int_rmul_2 _ _) (int_rmul_tuple k t l us.toArray n dd sl) ⟨ho, rfl, ⟨_, ho, rfl⟩, call_meets F.slot_tuple_mul ⟨_, ho, rfl⟩ F.entry_tuple_mul (F.args_tuple_mul_2 _ _) M ⟨ho, ?_⟩⟩)
  rw [size_rep]
  exact laidP I (by rw [PyProof.Rows.lm_len_rep_flat, sizeLine_eq]; omega) (r.rep k.toNat) q
end
end VI
end
section
namespace VI
open PySem PySem.Spec PyProof.Rows L2
structure Ex where
  c : Nat
  fs : List Nat
  vs : List D
inductive R (α : Type) where
  | ok (a : α) (h : Bs) | ex (x : Ex) (h : Bs) | no
def R.bind {α β : Type} (r : R α) (f : α → Bs → R β) : R β := match r with
  | .ok a h => f a h
  | .ex x h => .ex x h
  | .no => .no
inductive F where
  | nx (ρ : Ev) (h : Bs) | rt (d : D) (h : Bs) | bk (ρ : Ev) (h : Bs) | ct (ρ : Ev) (h : Bs) | ex (x : Ex) (ρ : Ev) (h : Bs) | no
def RepX (T : Tb) (μ : Mu) (H : Hp) (x : Ex) (cls : Value) (d : Option Addr) : Prop :=
  ∃ C, T.cls x.c = some C ∧ cls = .ref C ∧ ((x.fs = [] ∧ x.vs = [] ∧ d = none) ∨ ∃ dx vs, d = some dx ∧ H dx = some (.xd ((x.fs.map T.att).zip vs)) ∧ μ.no dx ∧ x.fs.length = vs.length ∧ Reps T μ H x.vs vs)
abbrev SV := Ev → Bs → R D
abbrev SA := Ev → Bs → R (List D)
abbrev SS := Ev → Bs → F
abbrev noW : WX := fun _ _ _ _ => False
def OutV (T : Tb) (W : WX) (σ : Sg) (μ : Mu) (H : Hp) (Q : VK) : R D → Prop
  | .ok d h' => ∀ μ' H' v, Stp μ H μ' H' → Rel T μ' h' H' → Rep T μ' H' d v → Q v H'
  | .ex x h' => ∀ μ' H' cls d, Stp μ H μ' H' → Rel T μ' h' H' → RepX T μ' H' x cls d → W cls d σ H'
  | .no => False
def OutB (T : Tb) (W : WX) (σ : Sg) (μ : Mu) (H : Hp) (Q : Bool → Hp → Prop) : R Bool → Prop
  | .ok d h' => ∀ μ' H', Stp μ H μ' H' → Rel T μ' h' H' → Q d H'
  | .ex x h' => ∀ μ' H' cls d, Stp μ H μ' H' → Rel T μ' h' H' → RepX T μ' H' x cls d → W cls d σ H'
  | .no => False
def OutA (T : Tb) (W : WX) (σ : Sg) (μ : Mu) (H : Hp) (Q : List V → Hp → Prop) : R (List D) → Prop
  | .ok d h' => ∀ μ' H' v, Stp μ H μ' H' → Rel T μ' h' H' → Reps T μ' H' d v → Q v H'
  | .ex x h' => ∀ μ' H' cls d, Stp μ H μ' H' → Rel T μ' h' H' → RepX T μ' H' x cls d → W cls d σ H'
  | .no => False
def OutS (T : Tb) (W : WX) (μ : Mu) (H : Hp) (D : Ends) : F → Prop
  | .nx ρ h' => ∀ μ' H' σ', Stp μ H μ' H' → Rel T μ' h' H' → RepE T μ' H' ρ σ' → D.nx σ' H'
  | .bk ρ h' => ∀ μ' H' σ', Stp μ H μ' H' → Rel T μ' h' H' → RepE T μ' H' ρ σ' → D.bk σ' H'
  | .ct ρ h' => ∀ μ' H' σ', Stp μ H μ' H' → Rel T μ' h' H' → RepE T μ' H' ρ σ' → D.ct σ' H'
  | .rt d h' => ∀ μ' H' v, Stp μ H μ' H' → Rel T μ' h' H' → Rep T μ' H' d v → D.rt v H'
  | .ex x ρ h' => ∀ μ' H' σ' cls d, Stp μ H μ' H' → Rel T μ' h' H' → RepE T μ' H' ρ σ' → RepX T μ' H' x cls d → W cls d σ' H'
  | .no => False
def tV (T : Tb) (W : WX) (s : SV) : TE := fun σ H Q => ∃ μ ρ h, Rel T μ h H ∧ RepE T μ H ρ σ ∧ OutV T W σ μ H Q (s ρ h)
def tB' (T : Tb) (W : WX) (s : Ev → Bs → R Bool) : TT := fun σ H Q => ∃ μ ρ h, Rel T μ h H ∧ RepE T μ H ρ σ ∧ OutB T W σ μ H Q (s ρ h)
def tA' (T : Tb) (W : WX) (s : SA) : TA := fun σ H Q => ∃ μ ρ h, Rel T μ h H ∧ RepE T μ H ρ σ ∧ OutA T W σ μ H Q (s ρ h)
def tS' (T : Tb) (W : WX) (s : SS) : TS := fun D σ H => ∃ μ ρ h, Rel T μ h H ∧ RepE T μ H ρ σ ∧ OutS T W μ H D (s ρ h)
theorem OutV.step {T : Tb} {W : WX} {σ : Sg} {μ μ' : Mu} {H H' : Hp} {Q : VK} {r : R D} (o : OutV T W σ μ H Q r) (s : Stp μ H μ' H') : OutV T W σ μ' H' Q r := by
  cases r with
  | ok d h => exact fun μ2 H2 v s2 => o μ2 H2 v (s.trans s2)
  | ex x h => exact fun μ2 H2 c d s2 => o μ2 H2 c d (s.trans s2)
  | no => exact o
theorem OutB.step {T : Tb} {W : WX} {σ : Sg} {μ μ' : Mu} {H H' : Hp} {Q : Bool → Hp → Prop} {r : R Bool} (o : OutB T W σ μ H Q r) (s : Stp μ H μ' H') : OutB T W σ μ' H' Q r := by
  cases r with
  | ok d h => exact fun μ2 H2 s2 => o μ2 H2 (s.trans s2)
  | ex x h => exact fun μ2 H2 c d s2 => o μ2 H2 c d (s.trans s2)
  | no => exact o
theorem OutA.step {T : Tb} {W : WX} {σ : Sg} {μ μ' : Mu} {H H' : Hp} {Q : List V → Hp → Prop} {r : R (List D)} (o : OutA T W σ μ H Q r) (s : Stp μ H μ' H') : OutA T W σ μ' H' Q r := by
  cases r with
  | ok d h => exact fun μ2 H2 v s2 => o μ2 H2 v (s.trans s2)
  | ex x h => exact fun μ2 H2 c d s2 => o μ2 H2 c d (s.trans s2)
  | no => exact o
theorem OutS.step {T : Tb} {W : WX} {μ μ' : Mu} {H H' : Hp} {D : Ends} {r : F} (o : OutS T W μ H D r) (s : Stp μ H μ' H') : OutS T W μ' H' D r := by
  cases r with
  | nx d h => exact fun μ2 H2 v s2 => o μ2 H2 v (s.trans s2)
  | bk d h => exact fun μ2 H2 v s2 => o μ2 H2 v (s.trans s2)
  | ct d h => exact fun μ2 H2 v s2 => o μ2 H2 v (s.trans s2)
  | rt d h => exact fun μ2 H2 v s2 => o μ2 H2 v (s.trans s2)
  | ex x ρ h => exact fun μ2 H2 v c d s2 => o μ2 H2 v c d (s.trans s2)
  | no => exact o
theorem OutV.bind {T : Tb} {W : WX} {σ : Sg} {μ : Mu} {H : Hp} {Q : VK} {r : R D} {f : D → Bs → R D} (o : OutV T W σ μ H Q (r.bind f)) :
    OutV T W σ μ H (fun v H1 => ∃ μ1 d h1, Stp μ H μ1 H1 ∧ Rel T μ1 h1 H1 ∧ Rep T μ1 H1 d v ∧ OutV T W σ μ1 H1 Q (f d h1)) r := by
  cases r with
  | ok d h => exact fun μ1 H1 v s r1 rv => ⟨μ1, d, h, s, r1, rv, OutV.step o s⟩
  | ex x h => exact o
  | no => exact o
theorem OutV.mono {T : Tb} {W : WX} {σ : Sg} {μ : Mu} {H : Hp} {Q Q' : VK} {r : R D} (o : OutV T W σ μ H Q r) (h : ∀ v H, Q v H → Q' v H) : OutV T W σ μ H Q' r := by
  cases r with
  | ok d h' => exact fun μ1 H1 v s r1 rv => h _ _ (o μ1 H1 v s r1 rv)
  | ex x h => exact o
  | no => exact o
section
variable {X : Cx} {T : Tb} {W : WX} {a b c : Expr} {sa sb sc : SV} {pos : Pos}
theorem PE.imp {t t' : TE} (h : PE X a t) (i : ∀ σ H Q, t' σ H Q → t σ H Q) : PE X a t' := ⟨fun pins s σ H Q I w => h.run pins s σ H Q I (i σ H Q w)⟩
theorem PT.imp {t t' : TT} (h : PT X a t) (i : ∀ σ H Q, t' σ H Q → t σ H Q) : PT X a t' := ⟨fun pins s σ H Q I w => h.run pins s σ H Q I (i σ H Q w)⟩
theorem PA.imp {es : List Expr} {t t' : TA} (h : PA X es t) (i : ∀ σ H Q, t' σ H Q → t σ H Q) : PA X es t' := ⟨fun p pins s σ H Q I w => h.run p pins s σ H Q I (i σ H Q w)⟩
theorem PS.imp {st : Stmt} {t t' : TS} (h : PS X st t) (i : ∀ D σ H, t' D σ H → t D σ H) : PS X st t' := ⟨fun pins s σ H D I w => h.run pins s σ H D I (i D σ H w)⟩
theorem PSs.imp {st : List Stmt} {t t' : TS} (h : PSs X st t) (i : ∀ D σ H, t' D σ H → t D σ H) : PSs X st t' := ⟨fun pins s σ H D I w => h.run pins s σ H D I (i D σ H w)⟩
def sK (d : D) : SV := fun _ h => .ok d h
def sVar (i : Nat) : SV := fun ρ h => match ρ[i]? with
  | some (some d) => .ok d h
  | _ => .no
theorem pv_var {i : Nat} {x : Str} (hN : X.N[i]? = some x) (hv : Vis X.env.scope x) (hd : (x == ("__debug__" : Str)) = false) (hcd : (x == ("__classdict__" : Str)) = false) : PE X (.Name x pos) (tV T W (sVar i)) :=
  PE.imp (pe_var hN hv hd hcd) fun σ H Q ⟨μ, ρ, h, r, e, o⟩ => by
    unfold sVar at o
    cases q : ρ[i]? with
    | none => rw [q] at o; exact o.elim
    | some z =>
      rw [q] at o
      cases z with
      | none => exact o.elim
      | some d =>
        obtain ⟨v, e1, rv⟩ := e.2 i d q
        exact ⟨v, e1, o μ H v Stp.refl r rv⟩
theorem tC_imp {d : D} {v : V} (hv : ∀ μ H, Rep T μ H d v) : ∀ σ H Q, tV T W (sK d) σ H Q → tC v σ H Q := fun σ H Q ⟨μ, ρ, h, r, e, o⟩ => o μ H v Stp.refl r (hv μ H)
theorem pv_int {i j} : PE X (.Constant (.int i) j pos) (tV T W (sK (.int i))) := PE.imp pe_int (tC_imp fun _ _ => by simp only [Rep])
theorem pv_bl {i j} : PE X (.Constant (.bool i) j pos) (tV T W (sK (.bl i))) := PE.imp pe_bl (tC_imp fun _ _ => by simp only [Rep])
theorem pv_glob {x : Str} {i : Int} {t : Tok} (hg : Gl X x) (hm : X.mg x = some (.int i t)) (hd : (x == ("__debug__" : Str)) = false) : PE X (.Name x pos) (tV T W (sK (.int i))) :=
  PE.imp (pe_glob (v := .int i) hg hm ⟨t, rfl⟩ hd) (tC_imp fun _ _ => by simp only [Rep])
theorem pvs_never {st : Stmt} : PS X st (tS' T W fun _ _ => .no) := ⟨fun _ _ _ _ _ _ ⟨_, _, _, _, _, o⟩ => o.elim⟩
def rD2 (T : Tb) (f : D → D → Bs → R D) : R2 := fun x y H Q => ∃ μ h d e, Rel T μ h H ∧ Rep T μ H d x ∧ Rep T μ H e y ∧ OutV T noW [] μ H Q (f d e h)
def sOp (f : D → D → Bs → R D) (sa sb : SV) : SV := fun ρ h => (sa ρ h).bind fun x h1 => (sb ρ h1).bind fun y h2 => f x y h2
def Calm (r : R D) : Prop := ∀ x h, r ≠ .ex x h
theorem OutV.calm {σ σ' : Sg} {μ : Mu} {H : Hp} {Q : VK} {r : R D} (o : OutV T W σ μ H Q r) (c : Calm r) : OutV T noW σ' μ H Q r := by
  cases r with
  | ok d h => exact o
  | ex x h => exact absurd rfl (c x h)
  | no => exact o
theorem op2_imp {f : D → D → Bs → R D} (cf : ∀ d e h, Calm (f d e h)) : ∀ σ H Q, tV T W (sOp f sa sb) σ H Q → tOp (rD2 T f) (tV T W sa) (tV T W sb) σ H Q := fun σ H Q ⟨μ, ρ, h, r, e, o⟩ => by
  refine ⟨μ, ρ, h, r, e, OutV.mono (OutV.bind o) ?_⟩
  rintro v H1 ⟨μ1, d, h1, s1, r1, rv, o1⟩
  refine ⟨μ1, ρ, h1, r1, e.step s1, OutV.mono (OutV.bind o1) ?_⟩
  rintro u H2 ⟨μ2, d2, h2, s2, r2, ru, o2⟩
  exact ⟨μ2, h2, d, d2, r2, Rep.step s2 _ _ rv, ru, o2.calm (cf _ _ _)⟩
theorem pv_op {op : Operator} {f : D → D → Bs → R D} (cf : ∀ d e h, Calm (f d e h)) (ho : OpR X (binaryOp op) (rD2 T f)) (ha : PE X a (tV T W sa)) (hb : PE X b (tV T W sb)) : PE X (.BinOp a op b pos) (tV T W (sOp f sa sb)) :=
  PE.imp (pe_op ho ha hb) (op2_imp cf)
theorem OpR.imp {f : Value → Value → Sem Value} {r r' : R2} (h : OpR X f r) (i : ∀ x y H Q, r' x y H Q → r x y H Q) : OpR X f r' := fun pins s σ H x y v u Q I rx ry w => h pins s σ H x y v u Q I rx ry (i x y H Q w)
end
end VI
end
section
namespace VI
open PySem PySem.Spec PyProof.Rows L2
section
variable {X : Cx} {T : Tb} {W : WX} {μ μ' : Mu} {H H' : Hp} {h : Bs}
theorem kvO_tup {ks : Ks} {vs : List V} (xs : List V) : kvO ks vs ≠ .tup xs := by cases ks <;> exact fun z => by cases z
theorem RepB.at {b : Bx} {a : Addr} (r : RepB T μ H b a) : ∃ o, H a = some o ∧ ∀ xs, o ≠ .tup xs := by
  cases b with
  | lst lk xs => obtain ⟨vs, e, _⟩ := r; exact ⟨_, e, fun _ z => by cases z⟩
  | dct lk ks xs =>
    obtain ⟨vs, e, _⟩ := r
    cases lk with
    | false => exact ⟨_, by simpa using e, kvO_tup⟩
    | true =>
      obtain ⟨o, e⟩ : ∃ o, H a = some (.frz o (kvO ks vs)) := by simpa using e
      exact ⟨_, e, fun _ z => by cases z⟩
  | dfz ks xs => obtain ⟨o, vs, e, _⟩ := r; exact ⟨_, e, fun _ z => by cases z⟩
  | obj c fs xs => obtain ⟨C, dx, vs, _, e, _⟩ := r; exact ⟨_, e, fun _ z => by cases z⟩
  | tbl t => obtain ⟨_, ps, e, _⟩ := r; exact ⟨_, e, fun _ z => by cases z⟩
theorem RepB.step (s : Stp μ H μ' H') {b : Bx} {a : Addr} (r : RepB T μ H b a) (e : H' a = H a) : RepB T μ' H' b a := by
  cases b with
  | lst lk xs => obtain ⟨vs, e1, r1⟩ := r; exact ⟨vs, e.trans e1, Reps.step s _ _ r1⟩
  | dct lk ks xs =>
    obtain ⟨vs, e1, l1, r1⟩ := r
    refine ⟨vs, ?_, l1, Reps.step s _ _ r1⟩
    cases lk with
    | false => simpa [e] using e1
    | true => simpa [e] using e1
  | dfz ks xs => obtain ⟨o, vs, e1, l1, r1⟩ := r; exact ⟨o, vs, e.trans e1, l1, Reps.step s _ _ r1⟩
  | obj c fs xs => obtain ⟨C, dx, vs, c1, e1, l1, r1⟩ := r; exact ⟨C, dx, vs, c1, e.trans e1, l1, Reps.step s _ _ r1⟩
  | tbl t => obtain ⟨a1, ps, e1, e2, e3⟩ := r; exact ⟨a1, ps, e.trans e1, e2, fun pos cv q => by obtain ⟨c, f1, f2, f3⟩ := e3 pos cv q; exact ⟨c, f1, s.keep c _ f2 f3.1, s.not f2 f3⟩⟩
theorem Rel.of (r : Rel T μ h H) {a : Addr} (m : a ∈ μ.ad) : ∃ (i : Nat) (b : Bx), h.bs[i]? = some b ∧ μ.ad[i]? = some a ∧ RepB T μ H b a := by
  obtain ⟨i, hi⟩ := List.getElem?_of_mem m
  have hl : i < h.bs.length := by rw [← r.len]; exact (List.getElem?_eq_some_iff.mp hi).1
  exact ⟨i, h.bs[i], List.getElem?_eq_getElem hl, hi, r.at_ i _ a (List.getElem?_eq_getElem hl) hi⟩
theorem Rel.not' (r : Rel T μ h H) {p : Addr} (hp : H p = none) : p ∉ μ.ad := fun m => by
  obtain ⟨i, b, _, _, rb⟩ := r.of m
  obtain ⟨o, e, _⟩ := rb.at
  rw [hp] at e; cases e
theorem Rel.not (r : Rel T μ h H) {p : Addr} (hp : H p = none) : μ.no p := ⟨r.not' hp, fun z => by
  obtain ⟨⟨xs, e, _⟩, _⟩ := r.prh p z
  rw [hp] at e; cases e⟩
theorem Rel.laid (r : Rel T μ h H) {p : Addr} {o : HO} (hp : H p = none) : Rel T μ h (upd H p o) :=
  ⟨r.fb, fun a ha => by
    obtain ⟨⟨xs, e, nt⟩, n⟩ := r.prh a ha
    exact ⟨⟨xs, by rw [upd_ne (ne_of_none e hp)]; exact e, nt⟩, n⟩, r.lks, r.lkf, r.len, r.nd, fun i b a e1 e2 => (r.at_ i b a e1 e2).step (Stp.laid hp) (upd_ne fun z => by
    subst z; exact r.not' hp (List.mem_of_getElem? e2)), r.lo, r.ord, r.wf⟩
theorem Rel.bels' {xs : List D} {vs : List V} (q : Reps T μ H xs vs) : bels μ.ad.length xs := by
  have key : ∀ (n : Nat) (d : D) (v : V), sizeOf d ≤ n → Rep T μ H d v → bel μ.ad.length d := by
    intro n
    induction n with
    | zero => intro d v hs; cases d <;> simp at hs
    | succ n ih =>
      have ihs : ∀ (xs : List D) (vs : List V), sizeOf xs ≤ n + 1 → Reps T μ H xs vs → bels μ.ad.length xs := by
        intro xs
        induction xs with
        | nil => intro _ _ _; simp [bels]
        | cons x xs ih2 =>
          intro vs hs q
          simp only [Reps] at q
          obtain ⟨v, r, _, q1, q2⟩ := q
          simp at hs
          simp only [bels]
          exact ⟨ih x v (by omega) q1, ih2 r (by omega) q2⟩
      intro d v hs q
      cases d with
      | tup xs => simp only [Rep] at q; obtain ⟨_, vs, _, _, _, q⟩ := q; simp only [bel]; exact ihs xs vs (by simp at hs; omega) q
      | tpl xs => simp only [Rep] at q; obtain ⟨_, _, vs, _, _, _, _, q⟩ := q; simp only [bel]; exact ihs xs vs (by simp at hs; omega) q
      | lst xs => simp only [Rep] at q; obtain ⟨_, vs, _, _, _, q⟩ := q; simp only [bel]; exact ihs xs vs (by simp at hs; omega) q
      | dct ks xs => simp only [Rep] at q; obtain ⟨_, _, vs, _, _, _, _, q⟩ := q; simp only [bel]; exact ihs xs vs (by simp at hs; omega) q
      | obj c fs xs => simp only [Rep] at q; obtain ⟨_, _, _, vs, _, _, _, _, _, q⟩ := q; simp only [bel]; exact ihs xs vs (by simp at hs; omega) q
      | exo c fs xs => simp only [Rep] at q; obtain ⟨_, _, _, _, vs, _, _, _, _, _, _, _, q⟩ := q; simp only [bel]; exact ihs xs vs (by simp at hs; omega) q
      | ref b => simp only [Rep] at q; obtain ⟨a, e, _⟩ := q; simp only [bel]; exact (List.getElem?_eq_some_iff.mp e).1
      | non => simp [bel]
      | bl b => simp [bel]
      | int i => simp [bel]
      | str x => simp [bel]
      | scr x => simp [bel]
  revert vs
  induction xs with
  | nil => intro _ _; simp [bels]
  | cons x xs ih2 =>
    intro vs q
    simp only [Reps] at q
    obtain ⟨v, r, _, q1, q2⟩ := q
    simp only [bels]
    exact ⟨key _ x v (Nat.le_refl _) q1, ih2 q2⟩
theorem Rel.box (r : Rel T μ h H) {p : Addr} {o : HO} {b : Bx} (hp : H p = none) (nlk : lkd b = false) (new : RepB T (μ.push p) (upd H p o) b p) : Rel T (μ.push p) { h with bs := h.bs ++ [b] } (upd H p o) := by
  refine ⟨r.fb, fun a ha => ?_, fun a ha => ?_, fun b0 xs a e1 e1l e2' => ?_, by simp [Mu.push, r.len], ?_, fun i b' a e1 e2' => ?_, fun k hk' => by simpa using Nat.le_succ_of_le (r.lo k hk'), r.ord, fun k hk' i b' hi e => ?_⟩
  · obtain ⟨⟨xs, e, nt⟩, n⟩ := r.prh a ha
    refine ⟨⟨xs, by rw [upd_ne (ne_of_none e hp)]; exact e, nt⟩, fun z => ?_⟩
    rcases List.mem_append.mp (show a ∈ μ.ad ++ [p] from z) with z | z
    · exact n z
    · have : a = p := by simpa using z
      subst this
      rw [hp] at e; cases e
  · obtain ⟨b0, xs, e1, e2, e3⟩ := r.lks a ha
    refine ⟨b0, xs, (Stp.box (μ := μ) (o := o) hp).pre _ _ e1, ?_, e3⟩
    show (h.bs ++ [b])[b0]? = _
    rw [List.getElem?_append_left (List.getElem?_eq_some_iff.mp e2).1]
    exact e2
  · have e2 : (μ.ad ++ [p])[b0]? = some a := e2'
    have e1' : (h.bs ++ [b])[b0]? = some xs := e1
    by_cases hi : b0 < μ.ad.length
    · rw [List.getElem?_append_left hi] at e2
      rw [List.getElem?_append_left (by rw [← r.len]; exact hi)] at e1'
      exact r.lkf b0 xs a e1' e1l e2
    · rw [List.getElem?_append_right (by rw [← r.len]; omega)] at e1'
      have h0 : b0 - h.bs.length = 0 := by
        have := (List.getElem?_eq_some_iff.mp e1').1
        simp at this; omega
      rw [h0] at e1'
      simp at e1'
      rw [← e1', nlk] at e1l
      cases e1l
  · show (μ.ad ++ [p]).Nodup
    rw [List.nodup_append]
    refine ⟨r.nd, by simp, fun x hx y hy => ?_⟩
    have : y = p := by simpa using hy
    subst this
    intro z; subst z
    exact r.not' hp hx
  · have e2 : (μ.ad ++ [p])[i]? = some a := e2'
    by_cases hi : i < μ.ad.length
    · rw [List.getElem?_append_left hi] at e2
      rw [List.getElem?_append_left (by rw [← r.len]; exact hi)] at e1
      exact (r.at_ i b' a e1 e2).step (Stp.box hp) (upd_ne fun z => by subst z; exact r.not' hp (List.mem_of_getElem? e2))
    · rw [List.getElem?_append_right (by omega)] at e2
      rw [List.getElem?_append_right (by rw [← r.len]; omega), ← r.len] at e1
      have h0 : i - μ.ad.length = 0 := by
        have := (List.getElem?_eq_some_iff.mp e2).1
        simp at this; omega
      rw [h0] at e1 e2
      simp at e1 e2
      subst e1; subst e2
      exact new
  · have hl : i < h.bs.length := Nat.lt_of_lt_of_le hi (r.lo k hk')
    have e' : (h.bs ++ [b])[i]? = some b' := e
    rw [List.getElem?_append_left hl] at e'
    exact r.wf k hk' i b' hi e'
theorem Rel.free (r : Rel T μ h H) {i : Nat} {a : Addr} (hi : μ.ad[i]? = some a) (hlk : ∀ x, h.bs[i]? = some x → lkd x = false) : a ∉ μ.lk := fun ha => by
  obtain ⟨b0, xs, e1, e2, e3⟩ := r.lks a ha
  have l1 := (List.getElem?_eq_some_iff.mp hi)
  have l2 := (List.getElem?_eq_some_iff.mp e1)
  obtain ⟨p1, q1⟩ := l1
  obtain ⟨p2, q2⟩ := l2
  have := (List.getElem_inj (h₀ := p1) (h₁ := p2) r.nd).mp (q1.trans q2.symm)
  subst this
  rw [hlk xs e2] at e3
  cases e3
theorem Rel.put (r : Rel T μ h H) {i : Nat} {a : Addr} {o : HO} {b : Bx} (hi : μ.ad[i]? = some a) (hlk : ∀ x, h.bs[i]? = some x → lkd x = false) (nlk : lkd b = false) (new : RepB T μ (upd H a o) b a) (hw : ∀ k ∈ h.fbs, i < k → belB k b) : Rel T μ { h with bs := h.bs.set i b } (upd H a o) := by
  have hl : i < h.bs.length := by rw [← r.len]; exact (List.getElem?_eq_some_iff.mp hi).1
  have hnl : a ∉ μ.lk := r.free hi hlk
  refine ⟨r.fb, fun a' ha' => ?_, fun a' ha' => ?_, fun b0 xs a' e1 e1l e2 => ?_, by simp [r.len], r.nd, fun j b' a' e1 e2 => ?_, fun k hk => by simpa using r.lo k hk, r.ord, fun k hk j b' hj e => ?_⟩
  · obtain ⟨⟨xs, e, nt⟩, n⟩ := r.prh a' ha'
    exact ⟨⟨xs, by rw [upd_ne (fun z => n (by rw [z]; exact List.mem_of_getElem? hi))]; exact e, nt⟩, n⟩
  · obtain ⟨b0, xs, e1, e2, e3⟩ := r.lks a' ha'
    refine ⟨b0, xs, e1, ?_, e3⟩
    show (h.bs.set i b)[b0]? = _
    rw [List.getElem?_set_ne (fun z => by subst z; rw [hlk xs e2] at e3; cases e3)]
    exact e2
  · have e1' : (h.bs.set i b)[b0]? = some xs := e1
    by_cases hj : i = b0
    · subst hj
      rw [List.getElem?_set_self hl] at e1'
      cases e1'
      rw [nlk] at e1l
      cases e1l
    · rw [List.getElem?_set_ne hj] at e1'
      exact r.lkf b0 xs a' e1' e1l e2
  · have e1 : (h.bs.set i b)[j]? = some b' := e1
    by_cases hj : i = j
    · subst hj
      rw [List.getElem?_set_self hl] at e1
      rw [hi] at e2
      cases e1; cases e2
      exact new
    · rw [List.getElem?_set_ne hj] at e1
      refine (r.at_ j b' a' e1 e2).step (Stp.put (List.mem_of_getElem? hi) hnl) (upd_ne fun z => hj ?_)
      subst z
      have l1 := (List.getElem?_eq_some_iff.mp hi)
      have l2 := (List.getElem?_eq_some_iff.mp e2)
      obtain ⟨p1, q1⟩ := l1
      obtain ⟨p2, q2⟩ := l2
      exact (List.getElem_inj (h₀ := p1) (h₁ := p2) r.nd).mp (q1.trans q2.symm)
  · have e : (h.bs.set i b)[j]? = some b' := e
    by_cases hj' : i = j
    · subst hj'
      rw [List.getElem?_set_self hl] at e
      cases e
      exact hw k hk hj
    · rw [List.getElem?_set_ne hj'] at e
      exact r.wf k hk j b' hj e
def newL (bx : Bool) (xs : List D) (h : Bs) : R D := if xs.length ≤ sizeLine then (if bx then .ok (.ref h.bs.length) { h with bs := h.bs ++ [.lst false xs] } else .ok (.lst xs) h) else .no
theorem newL_calm {bx : Bool} {xs : List D} : Calm (newL bx xs h) := by
  intro x h' e
  unfold newL at e
  split at e
  · split at e <;> cases e
  · cases e
theorem newL_ok {σ : Sg} {bx : Bool} {xs : List D} {vs : List V} {Q : VK} (r : Rel T μ h H) (q : Reps T μ H xs vs) (o : OutV T W σ μ H Q (newL bx xs h)) :
    vs.length ≤ sizeLine ∧ ∀ p, H p = none → Q (.ref p) (upd H p (.lst vs)) := by
  unfold newL at o
  split at o
  · rename_i hl
    refine ⟨by rw [← q.length]; exact hl, fun p hp => ?_⟩
    cases bx with
    | false => exact o μ _ _ (Stp.laid hp) (r.laid hp) (by simp only [Rep]; exact ⟨p, vs, rfl, upd_same, r.not hp, Reps.step (Stp.laid hp) _ _ q⟩)
    | true =>
      refine o (μ.push p) _ _ (Stp.box hp) (r.box hp rfl ⟨vs, upd_same, Reps.step (Stp.box hp) _ _ q⟩) ?_
      simp only [Rep]
      exact ⟨p, by rw [← r.len]; simp [Mu.push], rfl⟩
  · exact o.elim
def newT (xs : List D) (h : Bs) : R D := if xs.length ≤ sizeLine then .ok (.tup xs) h else .no
theorem newT_calm {xs : List D} : Calm (newT xs h) := by
  intro x h' e
  unfold newT at e
  split at e <;> cases e
theorem newT_ok {σ : Sg} {xs : List D} {vs : List V} {Q : VK} (r : Rel T μ h H) (q : Reps T μ H xs vs) (o : OutV T W σ μ H Q (newT xs h)) :
    vs.length ≤ sizeLine ∧ ∀ p, H p = none → Q (.ref p) (upd H p (.tup vs)) := by
  unfold newT at o
  split at o
  · rename_i hl
    exact ⟨by rw [← q.length]; exact hl, fun p hp => o μ _ _ (Stp.laid hp) (r.laid hp) (by simp only [Rep]; exact ⟨p, vs, rfl, upd_same, r.not hp, Reps.step (Stp.laid hp) _ _ q⟩)⟩
  · exact o.elim
def newP (xs : List D) (h : Bs) : R D := if xs.length ≤ sizeLine then .ok (.tpl xs) h else .no
theorem newP_calm {xs : List D} : Calm (newP xs h) := by
  intro x h' e
  unfold newP at e
  split at e <;> cases e
theorem newP_ok {σ : Sg} {xs : List D} {vs : List V} {Q : VK} (r : Rel T μ h H) (q : Reps T μ H xs vs) (o : OutV T W σ μ H Q (newP xs h)) :
    vs.length ≤ sizeLine ∧ ∀ p ob, ob.cls = .type "tuple" ∧ ob.dict = none → H p = none → Q (.ref p) (upd H p (.frz ob (.tup vs))) := by
  unfold newP at o
  split at o
  · rename_i hl
    exact ⟨by rw [← q.length]; exact hl, fun p ob hc hp => o μ _ _ (Stp.laid hp) (r.laid hp) (by simp only [Rep]; exact ⟨p, ob, vs, rfl, upd_same, hc, r.not hp, Reps.step (Stp.laid hp) _ _ q⟩)⟩
  · exact o.elim
def lstOf (h : Bs) : D → Option (List D)
  | .lst xs => some xs
  | .ref b => (match h.bs[b]? with | some (.lst _ xs) => some xs | _ => none)
  | .scr ns => some (ns.map .int)
  | _ => none
def lstS (h : Bs) : D → Option (List D)
  | .lst xs => some xs
  | .ref b => (match h.bs[b]? with | some (.lst _ xs) => some xs | _ => none)
  | _ => none
theorem Rel.lstS (r : Rel T μ h H) {d : D} {v : V} {xs : List D} (q : Rep T μ H d v) (e : lstS h d = some xs) : ∃ a vs, v = .ref a ∧ H a = some (.lst vs) ∧ Reps T μ H xs vs := by
  unfold VI.lstS at e
  split at e
  · cases e
    simp only [Rep] at q
    obtain ⟨a, vs, e1, e2, _, q⟩ := q
    exact ⟨a, vs, e1, e2, q⟩
  · simp only [Rep] at q
    obtain ⟨a, e1, e2⟩ := q
    split at e
    · rename_i hb
      cases e
      obtain ⟨vs, e3, q⟩ := r.at_ _ _ a hb e1
      exact ⟨a, vs, e2, e3, q⟩
    · cases e
  · cases e
theorem Rel.lstOf (r : Rel T μ h H) {d : D} {v : V} {xs : List D} (q : Rep T μ H d v) (e : lstOf h d = some xs) : ∃ a vs, v = .ref a ∧ SqL T.K H a vs ∧ Reps T μ H xs vs := by
  by_cases hs : VI.lstS h d = some xs
  · obtain ⟨a, vs, e1, e2, e3⟩ := r.lstS q hs
    exact ⟨a, vs, e1, SqL.of e2, e3⟩
  · cases d with
    | scr ns =>
      simp only [VI.lstOf] at e
      cases e
      simp only [Rep] at q
      obtain ⟨a, e1, e2⟩ := q
      exact ⟨a, _, e1, e2.sq, Reps.ints ns⟩
    | lst xs => exact absurd e hs
    | ref b => exact absurd e hs
    | _ => simp [VI.lstOf] at e
theorem Rep.tplOf {xs : List D} {v : V} (q : Rep T μ H (.tpl xs) v) : ∃ a o vs, v = .ref a ∧ H a = some (.frz o (.tup vs)) ∧ (o.cls = .type "tuple" ∧ o.dict = none) ∧ μ.no a ∧ Reps T μ H xs vs := by
  simpa only [Rep] using q
theorem SqT.fz {K : PySem.W.Frag} {a : Addr} {o : Obj} {vs : List V} (h : H a = some (.frz o (.tup vs))) : SqT K H a vs := .inl (.inr ⟨o, h⟩)
theorem Rep.tupOf {xs : List D} {v : V} (q : Rep T μ H (.tup xs) v) : ∃ a vs, v = .ref a ∧ H a = some (.tup vs) ∧ μ.no a ∧ Reps T μ H xs vs := by
  simpa only [Rep] using q
end
end VI
end
section
namespace VI
open PySem PySem.Spec PyProof.Rows L2
def seqOf (h : Bs) : D → Option (List D)
  | .tup xs => some xs
  | .tpl xs => some xs
  | d => lstOf h d
section
variable {X : Cx} {T : Tb} {W : WX} {μ μ' : Mu} {H H' : Hp} {h : Bs} {σ : Sg}
theorem Rel.seqOf (r : Rel T μ h H) {d : D} {v : V} {xs : List D} (q : Rep T μ H d v) (e : seqOf h d = some xs) : ∃ a vs, v = .ref a ∧ (SqT T.K H a vs ∨ SqL T.K H a vs) ∧ Reps T μ H xs vs := by
  cases d with
  | tup ys =>
    simp only [VI.seqOf] at e
    cases e
    obtain ⟨a, vs, e1, e2, _, e3⟩ := q.tupOf
    exact ⟨a, vs, e1, .inl (SqT.of e2), e3⟩
  | tpl ys =>
    simp only [VI.seqOf] at e
    cases e
    obtain ⟨a, o, vs, e1, e2, _, _, e3⟩ := q.tplOf
    exact ⟨a, vs, e1, .inl (SqT.fz e2), e3⟩
  | _ =>
    obtain ⟨a, vs, e1, e2, e3⟩ := r.lstOf q e
    exact ⟨a, vs, e1, .inr e2, e3⟩
theorem OutV.bindA {Q : VK} {r : R (List D)} {f : List D → Bs → R D} (o : OutV T W σ μ H Q (r.bind f)) :
    OutA T W σ μ H (fun v H1 => ∃ μ1 d h1, Stp μ H μ1 H1 ∧ Rel T μ1 h1 H1 ∧ Reps T μ1 H1 d v ∧ OutV T W σ μ1 H1 Q (f d h1)) r := by
  cases r with
  | ok d h => exact fun μ1 H1 v s r1 rv => ⟨μ1, d, h, s, r1, rv, OutV.step o s⟩
  | ex x h => exact o
  | no => exact o
theorem OutA.bindV {Q : List V → Hp → Prop} {r : R D} {f : D → Bs → R (List D)} (o : OutA T W σ μ H Q (r.bind f)) :
    OutV T W σ μ H (fun v H1 => ∃ μ1 d h1, Stp μ H μ1 H1 ∧ Rel T μ1 h1 H1 ∧ Rep T μ1 H1 d v ∧ OutA T W σ μ1 H1 Q (f d h1)) r := by
  cases r with
  | ok d h => exact fun μ1 H1 v s r1 rv => ⟨μ1, d, h, s, r1, rv, OutA.step o s⟩
  | ex x h => exact o
  | no => exact o
theorem OutA.bindA {Q : List V → Hp → Prop} {r : R (List D)} {f : List D → Bs → R (List D)} (o : OutA T W σ μ H Q (r.bind f)) :
    OutA T W σ μ H (fun v H1 => ∃ μ1 d h1, Stp μ H μ1 H1 ∧ Rel T μ1 h1 H1 ∧ Reps T μ1 H1 d v ∧ OutA T W σ μ1 H1 Q (f d h1)) r := by
  cases r with
  | ok d h => exact fun μ1 H1 v s r1 rv => ⟨μ1, d, h, s, r1, rv, OutA.step o s⟩
  | ex x h => exact o
  | no => exact o
theorem OutB.bindV {Q : Bool → Hp → Prop} {r : R D} {f : D → Bs → R Bool} (o : OutB T W σ μ H Q (r.bind f)) :
    OutV T W σ μ H (fun v H1 => ∃ μ1 d h1, Stp μ H μ1 H1 ∧ Rel T μ1 h1 H1 ∧ Rep T μ1 H1 d v ∧ OutB T W σ μ1 H1 Q (f d h1)) r := by
  cases r with
  | ok d h => exact fun μ1 H1 v s r1 rv => ⟨μ1, d, h, s, r1, rv, OutB.step o s⟩
  | ex x h => exact o
  | no => exact o
theorem OutB.bindB {Q : Bool → Hp → Prop} {r : R Bool} {f : Bool → Bs → R Bool} (o : OutB T W σ μ H Q (r.bind f)) :
    OutB T W σ μ H (fun d H1 => ∃ μ1 h1, Stp μ H μ1 H1 ∧ Rel T μ1 h1 H1 ∧ OutB T W σ μ1 H1 Q (f d h1)) r := by
  cases r with
  | ok d h => exact fun μ1 H1 s r1 => ⟨μ1, h, s, r1, OutB.step o s⟩
  | ex x h => exact o
  | no => exact o
theorem OutV.bindB {Q : VK} {r : R Bool} {f : Bool → Bs → R D} (o : OutV T W σ μ H Q (r.bind f)) :
    OutB T W σ μ H (fun d H1 => ∃ μ1 h1, Stp μ H μ1 H1 ∧ Rel T μ1 h1 H1 ∧ OutV T W σ μ1 H1 Q (f d h1)) r := by
  cases r with
  | ok d h => exact fun μ1 H1 s r1 => ⟨μ1, h, s, r1, OutV.step o s⟩
  | ex x h => exact o
  | no => exact o
theorem OutA.mono {Q Q' : List V → Hp → Prop} {r : R (List D)} (o : OutA T W σ μ H Q r) (i : ∀ v H, Q v H → Q' v H) : OutA T W σ μ H Q' r := by
  cases r with
  | ok d h' => exact fun μ1 H1 v s r1 rv => i _ _ (o μ1 H1 v s r1 rv)
  | ex x h => exact o
  | no => exact o
theorem OutB.mono {Q Q' : Bool → Hp → Prop} {r : R Bool} (o : OutB T W σ μ H Q r) (i : ∀ v H, Q v H → Q' v H) : OutB T W σ μ H Q' r := by
  cases r with
  | ok d h' => exact fun μ1 H1 s r1 => i _ _ (o μ1 H1 s r1)
  | ex x h => exact o
  | no => exact o
def saNil : SA := fun _ h => .ok [] h
def saCons (sa : SV) (sr : SA) : SA := fun ρ h => (sa ρ h).bind fun x h1 => (sr ρ h1).bind fun xs h2 => .ok (x :: xs) h2
def saStar (sa : SV) (sr : SA) : SA := fun ρ h => (sa ρ h).bind fun x h1 => match seqOf h1 x with
  | some xs => (sr ρ h1).bind fun ys h2 => .ok (xs ++ ys) h2
  | none => .no
theorem pav_nil : PA X [] (tA' T W saNil) := PA.imp pa_nil fun σ H Q ⟨μ, ρ, h, r, e, o⟩ => o μ H [] Stp.refl r .nil
theorem star_no {e : Expr} {es : List Expr} {env : Env} (hs : PySem.W.isStarred e = false) : starEach (e :: es) env = (false, eval e env) :: starEach es env := by
  cases e <;> first | rfl | (simp [PySem.W.isStarred] at hs)
theorem pav_cons {e : Expr} {es : List Expr} {sa : SV} {sr : SA} (hs : PySem.W.isStarred e = false) (ha : PE X e (tV T W sa)) (hr : PA X es (tA' T W sr)) : PA X (e :: es) (tA' T W (saCons sa sr)) :=
  PA.imp (pa_cons ha hr (star_no hs)) fun σ H Q ⟨μ, ρ, h, r, e, o⟩ => by
    refine ⟨μ, ρ, h, r, e, OutV.mono (OutA.bindV o) ?_⟩
    rintro v H1 ⟨μ1, d, h1, s1, r1, rv, o1⟩
    refine ⟨μ1, ρ, h1, r1, e.step s1, OutA.mono (OutA.bindA o1) ?_⟩
    rintro u H2 ⟨μ2, d2, h2, s2, r2, ru, o2⟩
    exact o2 μ2 H2 _ Stp.refl r2 (.cons (Rep.step s2 _ _ rv) ru)
theorem pav_star {e : Expr} {es : List Expr} {p : Pos} {sa : SV} {sr : SA} (hK : X.K = T.K) (ha : PE X e (tV T W sa)) (hr : PA X es (tA' T W sr)) : PA X (.Starred e p :: es) (tA' T W (saStar sa sr)) :=
  PA.imp (StX.pa_star ha hr) fun σ H Q ⟨μ, ρ, h, r, e, o⟩ => by
    refine ⟨μ, ρ, h, r, e, OutV.mono (OutA.bindV o) ?_⟩
    rintro v H1 ⟨μ1, d, h1, s1, r1, rv, o1⟩
    cases q : VI.seqOf h1 d with
    | none => simp only [q] at o1; exact o1.elim
    | some xs =>
      simp only [q] at o1
      obtain ⟨a, vs, e1, e2, e3⟩ := r1.seqOf rv q
      refine ⟨a, vs, e1, by rw [hK]; exact e2, μ1, ρ, h1, r1, e.step s1, OutA.mono (OutA.bindA o1) ?_⟩
      rintro u H2 ⟨μ2, d2, h2, s2, r2, ru, o2⟩
      exact o2 μ2 H2 _ Stp.refl r2 (.append (Reps.step s2 _ _ e3) ru)
def sTup (sa : SA) : SV := fun ρ h => (sa ρ h).bind fun xs h1 => newT xs h1
def sLst (bx : Bool) (sa : SA) : SV := fun ρ h => (sa ρ h).bind fun xs h1 => newL bx xs h1
theorem pv_tup {es : List Expr} {k : Nat} {pos : Pos} {sa : SA} (h : PA X es (tA' T W sa)) : PE X (.Tuple es k pos) (tV T W (sTup sa)) :=
  PE.imp (pe_tup h) fun σ H Q ⟨μ, ρ, h, r, e, o⟩ => by
    refine ⟨μ, ρ, h, r, e, OutA.mono (OutV.bindA o) ?_⟩
    rintro v H1 ⟨μ1, d, h1, s1, r1, rv, o1⟩
    exact newT_ok r1 rv o1
theorem pv_lst {es : List Expr} {pos : Pos} {bx : Bool} {sa : SA} (h : PA X es (tA' T W sa)) : PE X (.List es pos) (tV T W (sLst bx sa)) :=
  PE.imp (pe_lst h) fun σ H Q ⟨μ, ρ, h, r, e, o⟩ => by
    refine ⟨μ, ρ, h, r, e, OutA.mono (OutV.bindA o) ?_⟩
    rintro v H1 ⟨μ1, d, h1, s1, r1, rv, o1⟩
    exact newL_ok r1 rv o1
def truth (h : Bs) : D → Option Bool
  | .bl b => some b
  | _ => none
def sTru (s : SV) : Ev → Bs → R Bool := fun ρ h => (s ρ h).bind fun d h1 => match truth h1 d with
  | some b => .ok b h1
  | none => .no
variable {a b c : Expr} {sa sb sc : SV} {pos : Pos}
theorem tru_imp : ∀ σ H Q, tB' T W (sTru sa) σ H Q → tB (tV T W sa) σ H Q := fun σ H Q ⟨μ, ρ, h, r, e, o⟩ => by
  refine ⟨μ, ρ, h, r, e, OutV.mono (OutB.bindV o) ?_⟩
  rintro v H1 ⟨μ1, d, h1, s1, r1, rv, o1⟩
  cases d with
  | bl b =>
    simp only [Rep] at rv
    exact ⟨b, rv, o1 μ1 H1 Stp.refl r1⟩
  | _ => exact o1.elim
def plainT : Expr → Bool
  | .Call .. => true
  | .Name .. => true
  | .Subscript .. => true
  | .Attribute .. => true
  | _ => false
theorem pvt_val (hp : plainT a = true) (ha : PE X a (tV T W sa)) : PT X a (tB' T W (sTru sa)) :=
  PT.imp (pt_val ha (by cases a <;> first | (exact fun _ => rfl) | (exact Bool.noConfusion hp))) tru_imp
def sNot (s : SV) : SV := fun ρ h => (sTru s ρ h).bind fun b h1 => .ok (.bl (!b)) h1
def sAnd (sa sb : SV) : SV := fun ρ h => (sTru sa ρ h).bind fun b h1 => if b then (sTru sb ρ h1).bind (fun c h2 => .ok (.bl c) h2) else .ok (.bl false) h1
def sOr (sa sb : SV) : SV := fun ρ h => (sTru sa ρ h).bind fun b h1 => if b then .ok (.bl true) h1 else (sTru sb ρ h1).bind (fun c h2 => .ok (.bl c) h2)
def sIte (sc sa sb : SV) : SV := fun ρ h => (sTru sc ρ h).bind fun b h1 => if b then sa ρ h1 else sb ρ h1
theorem R.bind_bind {α β γ : Type} (r : R α) (f : α → Bs → R β) (g : β → Bs → R γ) : (r.bind f).bind g = r.bind fun a h => (f a h).bind g := by
  cases r <;> rfl
theorem R.bind_ok {α : Type} (r : R α) : (r.bind fun a h => .ok a h) = r := by cases r <;> rfl
theorem sTru_bind {β : Type} (ρ : Ev) (h : Bs) (g : Bool → Bs → R β) : (sTru sa ρ h).bind g = (sa ρ h).bind fun d h1 => R.bind (match truth h1 d with
  | some b => R.ok b h1
  | none => .no) g := by unfold sTru; rw [R.bind_bind]
theorem sTru_bl (r : R Bool) : ((r.bind fun c h2 => R.ok (D.bl c) h2).bind fun d h1 => match truth h1 d with
  | some b => R.ok b h1
  | none => .no) = r := by cases r <;> rfl
theorem sTru_not (ρ : Ev) (h : Bs) : sTru (sNot sa) ρ h = (sTru sa ρ h).bind fun b h1 => .ok (!b) h1 := by
  unfold sNot; conv => lhs; unfold sTru
  rw [R.bind_bind]; rfl
theorem sTru_and (ρ : Ev) (h : Bs) : sTru (sAnd sa sb) ρ h = (sTru sa ρ h).bind fun b h1 => if b then sTru sb ρ h1 else .ok false h1 := by
  unfold sAnd; conv => lhs; unfold sTru
  rw [R.bind_bind]; congr 1; funext b h1
  cases b
  · rfl
  · exact sTru_bl _
theorem sTru_or (ρ : Ev) (h : Bs) : sTru (sOr sa sb) ρ h = (sTru sa ρ h).bind fun b h1 => if b then .ok true h1 else sTru sb ρ h1 := by
  unfold sOr; conv => lhs; unfold sTru
  rw [R.bind_bind]; congr 1; funext b h1
  cases b
  · exact sTru_bl _
  · rfl
theorem pvt_not (ha : PT X a (tB' T W (sTru sa))) : PT X (.UnaryOp .Not a pos) (tB' T W (sTru (sNot sa))) :=
  PT.imp (pt_not ha) fun σ H Q ⟨μ, ρ, h, r, e, o⟩ => by
    rw [sTru_not] at o
    refine ⟨μ, ρ, h, r, e, OutB.mono (OutB.bindB o) ?_⟩
    rintro d H1 ⟨μ1, h1, s1, r1, o1⟩
    exact o1 μ1 H1 Stp.refl r1
theorem PW.imp {t t' : TT} (h : PW X a t) (i : ∀ σ H Q, t' σ H Q → t σ H Q) : PW X a t' := ⟨fun wh pins s σ H Q I w => h.run wh pins s σ H Q I (i σ H Q w)⟩
theorem and_imp : ∀ σ H Q, tB' T W (sTru (sAnd sa sb)) σ H Q → tAnd (tB' T W (sTru sa)) (tB' T W (sTru sb)) σ H Q := fun σ H Q ⟨μ, ρ, h, r, e, o⟩ => by
  rw [sTru_and] at o
  refine ⟨μ, ρ, h, r, e, OutB.mono (OutB.bindB o) ?_⟩
  rintro d H1 ⟨μ1, h1, s1, r1, o1⟩
  cases d with
  | true => exact ⟨μ1, ρ, h1, r1, e.step s1, o1⟩
  | false => exact o1 μ1 H1 Stp.refl r1
theorem or_imp : ∀ σ H Q, tB' T W (sTru (sOr sa sb)) σ H Q → tOr (tB' T W (sTru sa)) (tB' T W (sTru sb)) σ H Q := fun σ H Q ⟨μ, ρ, h, r, e, o⟩ => by
  rw [sTru_or] at o
  refine ⟨μ, ρ, h, r, e, OutB.mono (OutB.bindB o) ?_⟩
  rintro d H1 ⟨μ1, h1, s1, r1, o1⟩
  cases d with
  | true => exact o1 μ1 H1 Stp.refl r1
  | false => exact ⟨μ1, ρ, h1, r1, e.step s1, o1⟩
theorem pvt_and1 (ha : PT X a (tB' T W (sTru sa))) : PW X (.BoolOp .And [a] pos) (tB' T W (sTru sa)) := pw_and1 ha
theorem pvt_or1 (ha : PT X a (tB' T W (sTru sa))) : PW X (.BoolOp .Or [a] pos) (tB' T W (sTru sa)) := pw_or1 ha
theorem pvt_and {rest : List Expr} (ha : PT X a (tB' T W (sTru sa))) (hb : PW X (.BoolOp .And (b :: rest) pos) (tB' T W (sTru sb))) : PW X (.BoolOp .And (a :: b :: rest) pos) (tB' T W (sTru (sAnd sa sb))) :=
  PW.imp (pw_and ha hb) and_imp
theorem pvt_or {rest : List Expr} (ha : PT X a (tB' T W (sTru sa))) (hb : PW X (.BoolOp .Or (b :: rest) pos) (tB' T W (sTru sb))) : PW X (.BoolOp .Or (a :: b :: rest) pos) (tB' T W (sTru (sOr sa sb))) :=
  PW.imp (pw_or ha hb) or_imp
theorem bl_of_truth {d : D} {h1 : Bs} {b : Bool} (e : truth h1 d = some b) : d = .bl b := by
  cases d <;> simp [truth] at e; subst e; rfl
theorem pv_not (ha : PE X a (tV T W sa)) : PE X (.UnaryOp .Not a pos) (tV T W (sNot sa)) :=
  PE.imp (pe_not ha) fun σ H Q ⟨μ, ρ, h, r, e, o⟩ => by
    unfold sNot sTru at o
    rw [R.bind_bind] at o
    refine ⟨μ, ρ, h, r, e, OutV.mono (OutV.bind o) ?_⟩
    rintro v H1 ⟨μ1, d, h1, s1, r1, rv, o1⟩
    cases q : truth h1 d with
    | none => simp only [q] at o1; exact o1.elim
    | some b =>
      simp only [q] at o1
      rw [bl_of_truth q] at rv
      simp only [Rep] at rv
      exact ⟨b, rv, o1 μ1 H1 _ Stp.refl r1 (by simp only [Rep])⟩
theorem pv_one {op} (h : PE X a (tV T W sa)) : PE X (.BoolOp op [a] pos) (tV T W sa) := pe_one h
def sBl (s : SV) : SV := fun ρ h => (sTru s ρ h).bind fun c h2 => .ok (.bl c) h2
theorem bl_imp : ∀ σ H Q, tV T W (sBl sa) σ H Q → tV T W sa σ H Q := fun σ H Q ⟨μ, ρ, h, r, e, o⟩ => by
  unfold sBl sTru at o
  rw [R.bind_bind] at o
  refine ⟨μ, ρ, h, r, e, ?_⟩
  cases q : sa ρ h with
  | no => rw [q] at o; exact o
  | ex x h1 => rw [q] at o; exact o
  | ok d h1 =>
    rw [q] at o
    simp only [R.bind] at o
    cases t : truth h1 d with
    | none => simp only [t] at o; exact o.elim
    | some b =>
      simp only [t] at o
      rw [bl_of_truth t]
      exact o
theorem pv_and {rest : List Expr} (ha : PE X a (tV T W sa)) (hb : PE X (.BoolOp .And (b :: rest) pos) (tV T W sb)) : PE X (.BoolOp .And (a :: b :: rest) pos) (tV T W (sAnd sa sb)) :=
  PE.imp (pe_and ha hb) fun σ H Q ⟨μ, ρ, h, r, e, o⟩ => by
    unfold sAnd at o
    rw [sTru_bind] at o
    refine ⟨μ, ρ, h, r, e, OutV.mono (OutV.bind o) ?_⟩
    rintro v H1 ⟨μ1, d, h1, s1, r1, rv, o1⟩
    cases q : truth h1 d with
    | none => simp only [q] at o1; exact o1.elim
    | some c =>
      simp only [q] at o1
      rw [bl_of_truth q] at rv
      simp only [Rep] at rv
      refine ⟨c, rv, ?_⟩
      cases c with
      | true => exact bl_imp σ H1 Q ⟨μ1, ρ, h1, r1, e.step s1, o1⟩
      | false => exact o1 μ1 H1 _ Stp.refl r1 (by simp only [Rep])
theorem pv_or {rest : List Expr} (ha : PE X a (tV T W sa)) (hb : PE X (.BoolOp .Or (b :: rest) pos) (tV T W sb)) : PE X (.BoolOp .Or (a :: b :: rest) pos) (tV T W (sOr sa sb)) :=
  PE.imp (pe_or ha hb) fun σ H Q ⟨μ, ρ, h, r, e, o⟩ => by
    unfold sOr at o
    rw [sTru_bind] at o
    refine ⟨μ, ρ, h, r, e, OutV.mono (OutV.bind o) ?_⟩
    rintro v H1 ⟨μ1, d, h1, s1, r1, rv, o1⟩
    cases q : truth h1 d with
    | none => simp only [q] at o1; exact o1.elim
    | some c =>
      simp only [q] at o1
      rw [bl_of_truth q] at rv
      simp only [Rep] at rv
      refine ⟨c, rv, ?_⟩
      cases c with
      | false => exact bl_imp σ H1 Q ⟨μ1, ρ, h1, r1, e.step s1, o1⟩
      | true => exact o1 μ1 H1 _ Stp.refl r1 (by simp only [Rep])
theorem pv_ite (hc : PT X c (tB' T W (sTru sc))) (ha : PE X a (tV T W sa)) (hb : PE X b (tV T W sb)) : PE X (.IfExp c a b pos) (tV T W (sIte sc sa sb)) :=
  PE.imp (pe_ifExp hc ha hb) fun σ H Q ⟨μ, ρ, h, r, e, o⟩ => by
    refine ⟨μ, ρ, h, r, e, OutB.mono (OutV.bindB o) ?_⟩
    rintro d H1 ⟨μ1, h1, s1, r1, o1⟩
    cases d with
    | true => exact ⟨μ1, ρ, h1, r1, e.step s1, o1⟩
    | false => exact ⟨μ1, ρ, h1, r1, e.step s1, o1⟩
end
end VI
end
section
namespace VI
open PySem PySem.Spec PyProof.Rows L2
def mapO {α β : Type} (f : α → Option β) : List α → Option (List β)
  | [] => some []
  | x :: xs => match f x with
    | some y => (match mapO f xs with | some ys => some (y :: ys) | none => none)
    | none => none
def py : Nat → Bs → D → Option PyData
  | 0, _, _ => none
  | n + 1, h, d => match d with
    | .non => some .none
    | .bl b => some (.bool b)
    | .int i => some (.int i)
    | .str x => if PyData.strOk x then some (.str x) else none
    | .tup xs => (mapO (py n h) xs).map .tuple
    | .tpl xs => (mapO (py n h) xs).map .tuple
    | .lst xs => (mapO (py n h) xs).map .list
    | .scr ns => some (.list (ns.map .int))
    | .ref b => (match h.bs[b]? with | some (.lst _ xs) => (mapO (py n h) xs).map .list | _ => none)
    | _ => none
section
variable {X : Cx} {T : Tb} {W : WX} {μ μ' : Mu} {H H' : Hp} {h : Bs} {σ : Sg}
theorem mapO_some {α β : Type} {f : α → Option β} {x : α} {xs : List α} {zs : List β} (e : mapO f (x :: xs) = some zs) : ∃ y ys, f x = some y ∧ mapO f xs = some ys ∧ zs = y :: ys := by
  simp only [mapO] at e
  cases q : f x with
  | none => rw [q] at e; cases e
  | some y =>
    rw [q] at e
    cases q2 : mapO f xs with
    | none => rw [q2] at e; cases e
    | some ys => rw [q2] at e; cases e; exact ⟨y, ys, rfl, rfl, rfl⟩
def PyOk (T : Tb) (H : Hp) (n : Nat) (v : V) (p : PyData) : Prop := Dp T.K H v p ∧ p.depth ≤ n ∧ p.canLay0 = true
theorem ints_dp : ∀ ns : List Int, DpAll T.K H (ns.map V.int) (ns.map PyData.int) ∧ PyData.depthAll (ns.map .int) ≤ 0 ∧ PyData.canLayAll0 (ns.map .int) = true
  | [] => ⟨.nil, by simp [PyData.depthAll], by simp [PyData.canLayAll0]⟩
  | n :: ns => ⟨.cons (.int n) (ints_dp ns).1, by simpa [PyData.depthAll, PyData.depth] using (ints_dp ns).2.1, by simpa [PyData.canLayAll0, PyData.canLay0] using (ints_dp ns).2.2⟩
theorem pys_ok {n : Nat} (ih : ∀ d v p, Rep T μ H d v → py n h d = some p → PyOk T H n v p) : ∀ (xs : List D) (vs : List V) (ps : List PyData), Reps T μ H xs vs → mapO (py n h) xs = some ps →
    DpAll T.K H vs ps ∧ PyData.depthAll ps ≤ n ∧ PyData.canLayAll0 ps = true
  | [], vs, ps, q, e => by
    simp only [Reps] at q; subst q
    simp only [mapO] at e; cases e
    exact ⟨.nil, by simp [PyData.depthAll], by simp [PyData.canLayAll0]⟩
  | x :: xs, vs, ps, q, e => by
    simp only [Reps] at q
    obtain ⟨v, r, rfl, q1, q2⟩ := q
    obtain ⟨y, ys, e1, e2, rfl⟩ := mapO_some e
    obtain ⟨a1, a2, a3⟩ := ih x v y q1 e1
    obtain ⟨b1, b2, b3⟩ := pys_ok ih xs r ys q2 e2
    exact ⟨.cons a1 b1, by simp only [PyData.depthAll]; omega, by simp [PyData.canLayAll0, a3, b3]⟩
theorem py_ok (r : Rel T μ h H) : ∀ (n : Nat) (d : D) (v : V) (p : PyData), Rep T μ H d v → py n h d = some p → PyOk T H n v p
  | 0, _, _, _, _, e => by simp [py] at e
  | n + 1, d, v, p, q, e => by
    have ih := pys_ok (fun d v p => py_ok r n d v p)
    cases d with
    | non => simp only [py] at e; cases e; simp only [Rep] at q; subst q; exact ⟨.non, by simp [PyData.depth], by simp [PyData.canLay0]⟩
    | bl b => simp only [py] at e; cases e; simp only [Rep] at q; subst q; exact ⟨.bl b, by simp [PyData.depth], by simp [PyData.canLay0]⟩
    | int b => simp only [py] at e; cases e; simp only [Rep] at q; subst q; exact ⟨.int b, by simp [PyData.depth], by simp [PyData.canLay0]⟩
    | str b =>
      simp only [py] at e
      split at e
      · rename_i hs
        cases e; simp only [Rep] at q; subst q; exact ⟨.str b, by simp [PyData.depth], by simpa [PyData.canLay0] using hs⟩
      · cases e
    | tup xs =>
      simp only [py] at e
      cases q2 : mapO (py n h) xs with
      | none => rw [q2] at e; cases e
      | some ps =>
        rw [q2] at e; cases e
        obtain ⟨a, vs, rfl, e2, _, e3⟩ := q.tupOf
        obtain ⟨b1, b2, b3⟩ := ih xs vs ps e3 q2
        exact ⟨.tup (SqT.of e2) b1, by simp only [PyData.depth]; omega, by simpa [PyData.canLay0] using b3⟩
    | tpl xs =>
      simp only [py] at e
      cases q2 : mapO (py n h) xs with
      | none => rw [q2] at e; cases e
      | some ps =>
        rw [q2] at e; cases e
        obtain ⟨a, o, vs, rfl, e2, _, _, e3⟩ := q.tplOf
        obtain ⟨b1, b2, b3⟩ := ih xs vs ps e3 q2
        exact ⟨.tup (SqT.fz e2) b1, by simp only [PyData.depth]; omega, by simpa [PyData.canLay0] using b3⟩
    | lst xs =>
      simp only [py] at e
      cases q2 : mapO (py n h) xs with
      | none => rw [q2] at e; cases e
      | some ps =>
        rw [q2] at e; cases e
        obtain ⟨a, vs, rfl, e2, e3⟩ := r.lstOf (xs := xs) q rfl
        obtain ⟨b1, b2, b3⟩ := ih xs vs ps e3 q2
        exact ⟨.lst e2 b1, by simp only [PyData.depth]; omega, by simpa [PyData.canLay0] using b3⟩
    | scr ns =>
      simp only [py] at e
      cases e
      simp only [Rep] at q
      obtain ⟨a, rfl, e2⟩ := q
      obtain ⟨b1, b2, b3⟩ := ints_dp (T := T) (H := H) ns
      exact ⟨.lst e2.sq b1, by simp only [PyData.depth]; omega, by simpa [PyData.canLay0] using b3⟩
    | exo c fs xs => simp [py] at e
    | ref b =>
      simp only [py] at e
      split at e
      · rename_i lk xs hb
        cases q2 : mapO (py n h) xs with
        | none => rw [q2] at e; cases e
        | some ps =>
          rw [q2] at e; cases e
          obtain ⟨a, vs, rfl, e2, e3⟩ := r.lstOf (d := .ref b) (xs := xs) q (by simp [VI.lstOf, hb])
          obtain ⟨b1, b2, b3⟩ := ih xs vs ps e3 q2
          exact ⟨.lst e2 b1, by simp only [PyData.depth]; omega, by simpa [PyData.canLay0] using b3⟩
      · cases e
    | dct ks vs => simp [py] at e
    | obj c fs vs => simp [py] at e
theorem PyOk.shaped {n : Nat} {v : V} {p : PyData} (k : PyOk T H n v p) (hn : n ≤ 64) : SeqAt.shaped p = true := by
  unfold SeqAt.shaped
  simp only [Bool.and_eq_true, decide_eq_true_eq]
  exact ⟨k.2.2, Nat.le_trans k.2.1 hn⟩
abbrev pyN : Nat := 12
def eqD (neg : Bool) (d e : D) (h : Bs) : R D := match py pyN h d, py pyN h e with
  | some p, some q => .ok (.bl (if neg then !PyData.eqv p q else PyData.eqv p q)) h
  | _, _ => .no
theorem eqD_calm {neg : Bool} {d e : D} : Calm (eqD neg d e h) := by
  intro x h' z; unfold eqD at z; split at z <;> cases z
theorem ov_eq (hK : X.K = T.K) (hu : X.A.units + 64 < cLine) : OpR X (compareOp .Eq) (rD2 T (eqD false)) :=
  OpR.imp (op_eqD hu) fun x y H Q ⟨μ, h, d, e, r, rd, re, o⟩ => by
    unfold eqD at o
    split at o
    · rename_i p q hp hq
      have k1 := py_ok r _ d x p rd hp
      have k2 := py_ok r _ e y q re hq
      exact ⟨p, q, by rw [hK]; exact k1.1, by rw [hK]; exact k2.1, k1.shaped (by decide), k2.shaped (by decide), o μ H _ Stp.refl r (by simp only [Rep]; rfl)⟩
    · exact o.elim
theorem ov_ne (hK : X.K = T.K) (hu : X.A.units + 64 < cLine) : OpR X (compareOp .NotEq) (rD2 T (eqD true)) :=
  OpR.imp (op_neD hu) fun x y H Q ⟨μ, h, d, e, r, rd, re, o⟩ => by
    unfold eqD at o
    split at o
    · rename_i p q hp hq
      have k1 := py_ok r _ d x p rd hp
      have k2 := py_ok r _ e y q re hq
      exact ⟨p, q, by rw [hK]; exact k1.1, by rw [hK]; exact k2.1, k1.shaped (by decide), k2.shaped (by decide), o μ H _ Stp.refl r (by simp only [Rep]; rfl)⟩
    · exact o.elim
def inD (neg : Bool) (d e : D) (h : Bs) : R D := match py pyN h d, py pyN h e with
  | some p, some (.list qs) => .ok (.bl (if neg then !qs.any (fun z => PyData.eqv z p) else qs.any fun z => PyData.eqv z p)) h
  | some p, some (.tuple qs) => .ok (.bl (if neg then !qs.any (fun z => PyData.eqv z p) else qs.any fun z => PyData.eqv z p)) h
  | _, _ => .no
theorem inD_calm {neg : Bool} {d e : D} : Calm (inD neg d e h) := by
  intro x h' z; unfold inD at z; split at z <;> cases z
theorem shaped_tuple {ds : List PyData} (h : SeqAt.shaped (.tuple ds) = true) : PyData.canLayAll0 ds = true := SeqAt.canLay_of_shaped h
theorem ov_in (hK : X.K = T.K) (hu : X.A.units + 65 < cLine) : OpR X (compareOp .In) (rD2 T (inD false)) := by
  intro pins s σ H x y v u Q I rx ry ⟨μ, h, d, e, r, rd, re, o⟩
  unfold inD at o
  split at o
  · rename_i p qs hp hq
    have k1 := py_ok r _ d x _ rd hp
    have k2 := py_ok r _ e y _ re hq
    exact op_inD hu pins s σ H x y v u Q I rx ry ⟨p, qs, by rw [hK]; exact k1.1, by rw [hK]; exact k2.1, k1.shaped (by decide), k2.shaped (by decide), o μ H _ Stp.refl r (by simp only [Rep]; rfl)⟩
  · rename_i p qs hp hq
    have k1 := py_ok r _ d x _ rd hp
    have k2 := py_ok r _ e y _ re hq
    have s1 := k1.shaped (by decide)
    have s2 := k2.shaped (by decide)
    obtain ⟨as, r1⟩ := Dp.reads I p x v (by rw [hK]; exact k1.1) rx
    obtain ⟨bs, r2⟩ := Dp.reads I (.tuple qs) y u (by rw [hK]; exact k2.1) ry
    exact SeqAt.in_tuple_reads r2 r1 (shaped_tuple s2) (SeqAt.canLay_of_shaped s1) (room_in_shaped s1 hu) ⟨.bl _, H, I, rfl, o μ H _ Stp.refl r (by simp only [Rep]; rfl)⟩
  · exact o.elim
theorem ov_notIn (hK : X.K = T.K) (hu : X.A.units + 65 < cLine) : OpR X (compareOp .NotIn) (rD2 T (inD true)) := by
  intro pins s σ H x y v u Q I rx ry ⟨μ, h, d, e, r, rd, re, o⟩
  unfold inD at o
  split at o
  · rename_i p qs hp hq
    have k1 := py_ok r _ d x _ rd hp
    have k2 := py_ok r _ e y _ re hq
    exact op_notInD hu pins s σ H x y v u Q I rx ry ⟨p, qs, by rw [hK]; exact k1.1, by rw [hK]; exact k2.1, k1.shaped (by decide), k2.shaped (by decide), o μ H _ Stp.refl r (by simp only [Rep]; rfl)⟩
  · rename_i p qs hp hq
    have k1 := py_ok r _ d x _ rd hp
    have k2 := py_ok r _ e y _ re hq
    have s1 := k1.shaped (by decide)
    have s2 := k2.shaped (by decide)
    obtain ⟨as, r1⟩ := Dp.reads I p x v (by rw [hK]; exact k1.1) rx
    obtain ⟨bs, r2⟩ := Dp.reads I (.tuple qs) y u (by rw [hK]; exact k2.1) ry
    exact SeqAt.notIn_tuple_reads r2 r1 (shaped_tuple s2) (SeqAt.canLay_of_shaped s1) (room_in_shaped s1 hu) ⟨.bl _, H, I, rfl, o μ H _ Stp.refl r (by simp only [Rep]; rfl)⟩
  · exact o.elim
theorem rep_bl {b c : Bool} (e : b = c) : Rep T μ H (.bl b) (.bl c) := by subst e; simp only [Rep]
theorem rep_int {i j : Int} (e : i = j) : Rep T μ H (.int i) (.int j) := by subst e; simp only [Rep]
theorem rep_nil : Rep T μ H .non .non := by simp only [Rep]
def sUn (f : D → Bs → R D) (sa : SV) : SV := fun ρ h => (sa ρ h).bind f
theorem pc_v {op : CmpOp} {a b : Expr} {sa sb : SV} {f : D → D → Bs → R D} (cf : ∀ d e h, Calm (f d e h)) (ho : OpR X (compareOp op) (rD2 T f)) (ha : PE X a (tV T W sa)) (hb : PE X b (tV T W sb)) : PC X op a b (tV T W (sOp f sa sb)) :=
  ⟨fun pins s σ H Q I w => binT ha hb I (op2_imp cf σ H Q w) fun v u s2 x y H2 I2 rx ry q => ho pins s2 σ H2 x y v u Q I2 rx ry q⟩
theorem PC.imp {op : CmpOp} {a b : Expr} {t t' : TE} (h : PC X op a b t) (i : ∀ σ H Q, t' σ H Q → t σ H Q) : PC X op a b t' := ⟨fun pins s σ H Q I w => h.run pins s σ H Q I (i σ H Q w)⟩
theorem pv_cmp {op : CmpOp} {a b : Expr} {pos : Pos} {s : SV} (h : PC X op a b (tV T W s)) (hb : behindInMarks op b = false) : PE X (.Compare a [op] [b] pos) (tV T W s) := pe_cmp h hb
theorem pvt_cmp {op : CmpOp} {a b : Expr} {pos : Pos} {s : SV} (h : PC X op a b (tV T W s)) (hb : behindInMarks op b = false) : PT X (.Compare a [op] [b] pos) (tB' T W (sTru s)) := PT.imp (pt_cmp h hb) tru_imp
def addD (bx : Bool) (d e : D) (h : Bs) : R D := match d, e with
  | .int i, .int j => .ok (.int (i + j)) h
  | .tup xs, .tup ys => newT (xs ++ ys) h
  | .tpl xs, .tpl ys => newP (xs ++ ys) h
  | _, _ => (match lstS h d, lstS h e with
    | some xs, some ys => newL bx (xs ++ ys) h
    | _, _ => .no)
theorem addD_calm {bx : Bool} {d e : D} : Calm (addD bx d e h) := by
  unfold addD
  split
  · intro x h' z; cases z
  · exact newT_calm
  · exact newP_calm
  · split
    · exact newL_calm
    · intro x h' z; cases z
theorem ov_add {bx : Bool} (hK : X.K = T.K) : OpR X (binaryOp .Add) (rD2 T (addD bx)) := by
  intro pins s σ H x y v u Q I rx ry ⟨μ, h, d, e, r, rd, re, o⟩
  unfold addD at o
  split at o
  · simp only [Rep] at rd re
    exact op_add pins s σ H x y v u Q I rx ry ⟨_, _, rd, re, o μ H _ Stp.refl r (by simp only [Rep])⟩
  · rename_i xs ys
    obtain ⟨a, vs, e1, e2, n1, e3⟩ := rd.tupOf
    obtain ⟨b, ws, f1, f2, n2, f3⟩ := re.tupOf
    have o' := newT_ok r (e3.append f3) o
    refine op_catA pins s σ H x y v u Q I rx ry ⟨a, b, vs, ws, e1, f1, SqT.of e2, SqT.of f2, by simpa using o'.1, ?_⟩
    unfold newT at o
    rw [if_pos (by have := (e3.append f3).length; rw [this]; exact o'.1)] at o
    refine ⟨fun z => ?_, fun z z2 => ?_, fun _ _ => o'.2⟩
    · subst z
      have : xs = [] := by have := e3.length; simpa using this
      subst this
      refine o μ H _ Stp.refl r ?_
      simp only [Rep]
      exact ⟨b, ws, rfl, f2, n2, f3⟩
    · subst z2
      have : ys = [] := by have := f3.length; simpa using this
      subst this
      refine o μ H _ Stp.refl r ?_
      simp only [Rep, List.append_nil]
      exact ⟨a, vs, rfl, e2, n1, e3⟩
  · rename_i xs ys
    obtain ⟨a, oa, vs, e1, e2, c1, n1, e3⟩ := rd.tplOf
    obtain ⟨b, ob, ws, f1, f2, c2, n2, f3⟩ := re.tplOf
    have o' := newP_ok r (e3.append f3) o
    refine op_catP pins s σ H x y v u Q I rx ry ⟨a, b, vs, ws, e1, f1, SqT.fz e2, SqT.fz f2, by simpa using o'.1, ?_⟩
    unfold newP at o
    rw [if_pos (by have := (e3.append f3).length; rw [this]; exact o'.1)] at o
    refine ⟨fun z => ?_, fun z z2 => ?_, fun _ _ p ob hc hp => o'.2 p ob hc hp⟩
    · subst z
      have : xs = [] := by have := e3.length; simpa using this
      subst this
      refine o μ H _ Stp.refl r ?_
      simp only [Rep]
      exact ⟨b, ob, ws, rfl, f2, c2, n2, f3⟩
    · subst z2
      have : ys = [] := by have := f3.length; simpa using this
      subst this
      refine o μ H _ Stp.refl r ?_
      simp only [Rep, List.append_nil]
      exact ⟨a, oa, vs, rfl, e2, c1, n1, e3⟩
  · split at o
    · rename_i xs ys hx hy
      obtain ⟨a, vs, e1, e2, e3⟩ := r.lstS rd hx
      obtain ⟨b, ws, f1, f2, f3⟩ := r.lstS re hy
      have o' := newL_ok r (e3.append f3) o
      exact op_cat pins s σ H x y v u Q I rx ry ⟨a, b, vs, ws, e1, f1, e2, f2, by simpa using o'.1, o'.2⟩
    · exact o.elim
def subD (d e : D) (h : Bs) : R D := match d, e with
  | .int i, .int j => .ok (.int (i - j)) h
  | _, _ => .no
theorem subD_calm {d e : D} : Calm (subD d e h) := by
  intro x h' z; unfold subD at z; split at z <;> cases z
theorem ov_sub : OpR X (binaryOp .Sub) (rD2 T subD) :=
  OpR.imp op_sub fun x y H Q ⟨μ, h, d, e, r, rd, re, o⟩ => by
    unfold subD at o
    split at o
    · simp only [Rep] at rd re
      exact ⟨_, _, rd, re, o μ H _ Stp.refl r (by simp only [Rep])⟩
    · exact o.elim
def fdivD (d e : D) (h : Bs) : R D := match d, e with
  | .int i, .int j => if 0 < j ∧ j.natAbs.log2 < 9000 then .ok (.int (i / j)) h else .no
  | _, _ => .no
theorem fdivD_calm {d e : D} : Calm (fdivD d e h) := by
  intro x h' z; unfold fdivD at z; split at z
  · split at z <;> cases z
  · cases z
theorem ov_fdiv : OpR X (binaryOp .FloorDiv) (rD2 T fdivD) :=
  OpR.imp op_fdivW fun x y H Q ⟨μ, h, d, e, r, rd, re, o⟩ => by
    unfold fdivD at o
    split at o
    · split at o
      · rename_i hc
        simp only [Rep] at rd re
        exact ⟨_, _, rd, re, hc, o μ H _ Stp.refl r (by simp only [Rep])⟩
      · exact o.elim
    · exact o.elim
def modD (d e : D) (h : Bs) : R D := match d, e with
  | .int i, .int j => if 0 < j then .ok (.int (i % j)) h else .no
  | _, _ => .no
theorem modD_calm {d e : D} : Calm (modD d e h) := by
  intro x h' z; unfold modD at z; split at z
  · split at z <;> cases z
  · cases z
theorem ov_mod : OpR X (binaryOp .Mod) (rD2 T modD) :=
  OpR.imp op_mod fun x y H Q ⟨μ, h, d, e, r, rd, re, o⟩ => by
    unfold modD at o
    split at o
    · split at o
      · rename_i hc
        simp only [Rep] at rd re
        exact ⟨_, _, rd, re, hc, o μ H _ Stp.refl r (by simp only [Rep])⟩
      · exact o.elim
    · exact o.elim
end
end VI
end
section
namespace VI
open PySem PySem.Spec PyProof.Rows L2
theorem tuple_mul1 (l : Addr) (items : Array Value) (n : Nat) (dd : Option Addr) (sl : Array (Option Value)) (u : Tok) :
    Meets (Builtin.«tuple.__mul__» ⟨[.ref l, .int 1 u], []⟩) (fun _ R s => s.heap.get? l = some { cls := .type "tuple", dict := dd, data := .seq items n, slots := sl } ∧ R (.ok (.ret (Value.ref l))) s) :=
  .of_wp fun prog w A R s h => by
    obtain ⟨hp, g, d, tk, os⟩ := s
    obtain ⟨hl, h⟩ := h
    have f1 := AutoSeq1.idx_int
    wp_walk using wpAny_loadPart' hl
    repeat (first
      | (refine wpAny_ite_false (by decide) ?_; wp_walk using wpAny_loadPart' hl)
      | (refine wpAny_ite_true (by simp) ?_; wp_walk using wpAny_loadPart' hl))
    exact ⟨_, rfl, h⟩
section
variable {X : Cx}
theorem op_repT1 : OpR X (binaryOp .Mult) (fun x y H Q => ∃ l xs, x = .ref l ∧ y = .int 1 ∧ SqT X.K H l xs ∧ Q x H) := by
  intro pins s σ H x y v u Q I rx ry h
  obtain ⟨l, xs, rfl, rfl, hT, q⟩ := h
  cases rx
  obtain ⟨t, rfl⟩ := ry
  obtain ⟨its, r, ⟨⟨cls, dd, data, sl⟩, ho, hc, n, hd⟩, hs⟩ := I.tuple hT
  simp only at hc hd
  subst hc hd
  exact wpAny_binaryOp_repeat_ref (T := "tuple") (U := "int") (by decide) ⟨_, ho, rfl⟩ (fun s' => typeIs_int s' 1 t) noFill_tuple_mul F.fills_int_mul F.slot_int_rmul repeat_tuple F.slot_int_index.lookup
    (call_meets F.slot_int_rmul (typeIs_int s 1 t) F.entry_int_rmul (F.args_int_rmul_2 _ _) (int_rmul_tuple 1 t l its.toArray n dd sl)
      ⟨ho, rfl, ⟨_, ho, rfl⟩, call_meets F.slot_tuple_mul ⟨_, ho, rfl⟩ F.entry_tuple_mul (F.args_tuple_mul_2 _ _) (tuple_mul1 l its.toArray n dd sl t) ⟨ho, ⟨.ref l, H, I, rfl, q⟩⟩⟩)
end
section
variable {X : Cx} {T : Tb} {W : WX} {μ μ' : Mu} {H H' : Hp} {h : Bs} {σ : Sg}
theorem Reps.rep {xs : List D} {vs : List V} (q : Reps T μ H xs vs) : ∀ k : Nat, Reps T μ H (List.replicate k xs).flatten (List.replicate k vs).flatten
  | 0 => by simp [Reps]
  | k + 1 => by simp only [List.replicate_succ, List.flatten_cons]; exact q.append (Reps.rep q k)
def mulD (bx : Bool) (d e : D) (h : Bs) : R D := match d, e with
  | .int i, .int j => if i.natAbs.log2 + j.natAbs.log2 < 1000000 then .ok (.int (i * j)) h else .no
  | .tup xs, .int k => if k = 1 then .ok d h else if xs ≠ [] ∧ 2 ≤ k ∧ k ≤ 1000 ∧ xs.length ≤ 1000 then newT (List.replicate k.toNat xs).flatten h else .no
  | .tpl xs, .int k => if k = 1 then .ok d h else if xs ≠ [] ∧ 2 ≤ k ∧ k ≤ 1000 ∧ xs.length ≤ 1000 then newP (List.replicate k.toNat xs).flatten h else .no
  | _, .int k => (match lstS h d with
    | some xs => if -(2 ^ 63) ≤ k ∧ k < 2 ^ 63 ∧ xs.length * k.toNat ≤ sizeLine then newL bx (List.replicate k.toNat xs).flatten h else .no
    | _ => .no)
  | _, _ => .no
theorem mulD_calm {bx : Bool} {d e : D} : Calm (mulD bx d e h) := by
  unfold mulD
  split
  · intro x h' z; split at z <;> cases z
  · intro x h' z
    split at z
    · cases z
    · split at z
      · exact newT_calm x h' z
      · cases z
  · intro x h' z
    split at z
    · cases z
    · split at z
      · exact newP_calm x h' z
      · cases z
  · intro x h' z
    split at z
    · split at z
      · exact newL_calm x h' z
      · cases z
    · cases z
  · intro x h' z; cases z
theorem ov_mul {bx : Bool} (hK : X.K = T.K) : OpR X (binaryOp .Mult) (rD2 T (mulD bx)) := by
  intro pins s σ H x y v u Q I rx ry ⟨μ, h, d, e, r, rd, re, o⟩
  unfold mulD at o
  split at o
  · split at o
    · rename_i hc
      simp only [Rep] at rd re
      exact op_mulW pins s σ H x y v u Q I rx ry ⟨_, _, rd, re, hc, o μ H _ Stp.refl r (rep_int rfl)⟩
    · exact o.elim
  · rename_i xs k
    have re' := re
    simp only [Rep] at re'
    obtain ⟨a, vs, e1, e2, n1, e3⟩ := rd.tupOf
    split at o
    · rename_i hk
      subst hk
      exact op_repT1 pins s σ H x y v u Q I rx ry ⟨a, vs, e1, re', SqT.of e2, o μ H _ Stp.refl r rd⟩
    · split at o
      · rename_i hk
        obtain ⟨c1, c2, c3, c4⟩ := hk
        have o' := newT_ok r (e3.rep k.toNat) o
        refine op_repT pins s σ H x y v u Q I rx ry ⟨a, k, vs, e1, re', SqT.of e2, ?_, c2, c3, by rw [← e3.length]; exact c4, o'.2⟩
        intro z
        subst z
        have := e3.length
        exact c1 (by simpa using this)
      · exact o.elim
  · rename_i xs k
    have re' := re
    simp only [Rep] at re'
    obtain ⟨a, oa, vs, e1, e2, c0, n1, e3⟩ := rd.tplOf
    split at o
    · rename_i hk
      subst hk
      exact op_repT1 pins s σ H x y v u Q I rx ry ⟨a, vs, e1, re', SqT.fz e2, o μ H _ Stp.refl r rd⟩
    · split at o
      · rename_i hk
        obtain ⟨c1, c2, c3, c4⟩ := hk
        have o' := newP_ok r (e3.rep k.toNat) o
        refine op_repP pins s σ H x y v u Q I rx ry ⟨a, k, vs, e1, re', SqT.fz e2, ?_, c2, c3, by rw [← e3.length]; exact c4, o'.2⟩
        intro z
        subst z
        have := e3.length
        exact c1 (by simpa using this)
      · exact o.elim
  · rename_i k hn1 hn2 hn3
    have re' := re
    simp only [Rep] at re'
    split at o
    · rename_i xs hx
      split at o
      · rename_i hc
        obtain ⟨c1, c2, c3⟩ := hc
        obtain ⟨a, vs, e1, e2, e3⟩ := r.lstS rd hx
        have o' := newL_ok r (e3.rep k.toNat) o
        exact op_rep pins s σ H x y v u Q I rx ry ⟨a, k, vs, e1, re', e2, c1, c2, by rw [← e3.length]; exact c3, o'.2⟩
      · exact o.elim
    · exact o.elim
  · exact o.elim
def ixD (d e : D) (h : Bs) : R D := match e with
  | .int i => (match seqOf h d with
    | some xs => (match atI xs i with
      | some x => .ok x h
      | none => .no)
    | none => .no)
  | _ => .no
theorem ixD_calm {d e : D} : Calm (ixD d e h) := by
  intro x h' z; unfold ixD at z
  split at z
  · split at z
    · split at z <;> cases z
    · cases z
  · cases z
theorem Reps.atI {xs : List D} {vs : List V} {i : Int} {x : D} (q : Reps T μ H xs vs) (e : L2.atI xs i = some x) : ∃ v, L2.atI vs i = some v ∧ Rep T μ H x v := by
  unfold L2.atI at e ⊢
  rw [← q.length]
  cases k : ixN xs.length i with
  | none => rw [k] at e; cases e
  | some j =>
    rw [k] at e
    exact q.get e
theorem ov_ix (hK : X.K = T.K) : IxR X (rD2 T ixD) := by
  intro value slice pins s σ H x y v u Q I rx ry ⟨μ, h, d, e, r, rd, re, o⟩ hs
  refine (ix_list.or ix_tup) value slice pins s σ H x y v u Q I rx ry ?_ hs
  unfold ixD at o
  split at o
  · rename_i i
    simp only [Rep] at re
    split at o
    · rename_i xs hx
      split at o
      · rename_i z hz
        obtain ⟨a, vs, e1, e2, e3⟩ := r.seqOf rd hx
        obtain ⟨w, e4, rw'⟩ := e3.atI hz
        rcases e2 with e2 | e2
        · exact .inr ⟨a, vs, i, w, e1, re, by rw [hK]; exact e2, e4, o μ H _ Stp.refl r rw'⟩
        · exact .inl ⟨a, vs, i, w, e1, re, by rw [hK]; exact e2, e4, o μ H _ Stp.refl r rw'⟩
      · exact o.elim
    · exact o.elim
  · exact o.elim
def noSlice : Expr → Bool
  | .Slice .. => false
  | _ => true
theorem plainIx {b : Expr} (hb : noSlice b = true) : PlainIx b := by
  cases b <;> first | (exact fun _ _ => rfl) | (exact Bool.noConfusion hb)
theorem pv_ix {a b : Expr} {sa sb : SV} {pos : Pos} (hK : X.K = T.K) (hs : noSlice b = true) (ha : PE X a (tV T W sa)) (hb : PE X b (tV T W sb)) : PE X (.Subscript a b pos) (tV T W (sOp ixD sa sb)) :=
  PE.imp (pe_ix (ov_ix hK) ha hb (plainIx hs)) (op2_imp fun _ _ _ => ixD_calm)
abbrev SO := Ev → Bs → R (Option Int)
def soNone : SO := fun _ h => .ok none h
def soSome (s : SV) : SO := fun ρ h => (s ρ h).bind fun d h1 => match d with
  | .int i => .ok (some i) h1
  | _ => .no
def OutO (T : Tb) (W : WX) (σ : Sg) (μ : Mu) (H : Hp) (Q : Option Int → Hp → Prop) : R (Option Int) → Prop
  | .ok d h' => ∀ μ' H', Stp μ H μ' H' → Rel T μ' h' H' → Q d H'
  | .ex x h' => ∀ μ' H' cls d, Stp μ H μ' H' → Rel T μ' h' H' → RepX T μ' H' x cls d → W cls d σ H'
  | .no => False
def tO' (T : Tb) (W : WX) (s : SO) : TO := fun σ H Q => ∃ μ ρ h, Rel T μ h H ∧ RepE T μ H ρ σ ∧ OutO T W σ μ H Q (s ρ h)
theorem OutO.step {Q : Option Int → Hp → Prop} {r : R (Option Int)} (o : OutO T W σ μ H Q r) (s : Stp μ H μ' H') : OutO T W σ μ' H' Q r := by
  cases r with
  | ok d h => exact fun μ2 H2 s2 => o μ2 H2 (s.trans s2)
  | ex x h => exact fun μ2 H2 c d s2 => o μ2 H2 c d (s.trans s2)
  | no => exact o
theorem PO.imp {e : Option Expr} {t t' : TO} (h : PO X e t) (i : ∀ σ H Q, t' σ H Q → t σ H Q) : PO X e t' := ⟨fun pins s σ H Q I w => h.run pins s σ H Q I (i σ H Q w)⟩
theorem pov_none : PO X none (tO' T W soNone) := PO.imp po_none fun σ H Q ⟨μ, ρ, h, r, e, o⟩ => o μ H Stp.refl r
theorem pov_some {e : Expr} {s : SV} (he : PE X e (tV T W s)) : PO X (some e) (tO' T W (soSome s)) := PO.imp (po_some he) fun σ H Q ⟨μ, ρ, h, r, e, o⟩ => by
  refine ⟨μ, ρ, h, r, e, ?_⟩
  unfold soSome at o
  cases q : s ρ h with
  | no => rw [q] at o; exact o
  | ex x h1 => rw [q] at o; exact o
  | ok d h1 =>
    rw [q] at o
    simp only [R.bind] at o
    intro μ1 H1 v s1 r1 rv
    cases d with
    | int i =>
      simp only [Rep] at rv
      exact ⟨i, rv, o μ1 H1 s1 r1⟩
    | _ => exact o.elim
theorem OutV.bindO {Q : VK} {r : R (Option Int)} {f : Option Int → Bs → R D} (o : OutV T W σ μ H Q (r.bind f)) :
    OutO T W σ μ H (fun d H1 => ∃ μ1 h1, Stp μ H μ1 H1 ∧ Rel T μ1 h1 H1 ∧ OutV T W σ μ1 H1 Q (f d h1)) r := by
  cases r with
  | ok d h => exact fun μ1 H1 s r1 => ⟨μ1, h, s, r1, OutV.step o s⟩
  | ex x h => exact o
  | no => exact o
theorem OutO.mono {Q Q' : Option Int → Hp → Prop} {r : R (Option Int)} (o : OutO T W σ μ H Q r) (i : ∀ v H, Q v H → Q' v H) : OutO T W σ μ H Q' r := by
  cases r with
  | ok d h' => exact fun μ1 H1 s r1 => i _ _ (o μ1 H1 s r1)
  | ex x h => exact o
  | no => exact o
def cutD (xs : List D) (lo hi : Option Int) : List D := (xs.drop (HT.sIx xs.length 0 lo)).take (HT.sIx xs.length xs.length hi - HT.sIx xs.length 0 lo)
theorem Reps.cut {xs : List D} {vs : List V} {lo hi : Option Int} (q : Reps T μ H xs vs) : Reps T μ H (cutD xs lo hi) (cutV vs lo hi) := by
  unfold cutD cutV
  rw [← q.length]
  exact (q.drop _).take _
def slD (bx : Bool) (d : D) (lo hi : Option Int) (h : Bs) : R D := match d with
  | .tup xs => newT (cutD xs lo hi) h
  | .tpl xs => newP (cutD xs lo hi) h
  | _ => (match lstOf h d with
    | some xs => newL bx (cutD xs lo hi) h
    | none => .no)
theorem slD_calm {bx : Bool} {d : D} {lo hi : Option Int} : Calm (slD bx d lo hi h) := by
  unfold slD
  split
  · exact newT_calm
  · exact newP_calm
  · split
    · exact newL_calm
    · intro x h' z; cases z
def sSl (bx : Bool) (s : SV) (l u : SO) : SV := fun ρ h => (s ρ h).bind fun d h1 => (l ρ h1).bind fun lo h2 => (u ρ h2).bind fun hi h3 => slD bx d lo hi h3
theorem SlR.imp {r r' : V → Option Int → Option Int → Hp → VK → Prop} (h : SlR X r) (i : ∀ x lo hi H Q, r' x lo hi H Q → r x lo hi H Q) : SlR X r' :=
  fun pins s σ H x v vl vu lo hi sl Q I rx hs pl pu q => h pins s σ H x v vl vu lo hi sl Q I rx hs pl pu (i x lo hi H Q q)
def rSlD (T : Tb) (bx : Bool) : V → Option Int → Option Int → Hp → VK → Prop := fun x lo hi H Q => ∃ μ h d, Rel T μ h H ∧ Rep T μ H d x ∧ OutV T noW [] μ H Q (slD bx d lo hi h)
theorem ov_sl {bx : Bool} (hK : X.K = T.K) : SlR X (rSlD T bx) :=
  SlR.imp (sl_list.or (sl_tupA.or sl_tupP)) fun x lo hi H Q ⟨μ, h, d, r, rd, o⟩ => by
    unfold slD at o
    split at o
    · rename_i xs
      obtain ⟨a, vs, e1, e2, n1, e3⟩ := rd.tupOf
      have o' := newT_ok r e3.cut o
      refine .inr (.inl ⟨a, vs, e1, SqT.of e2, fun hw => ?_, fun _ => o'.2⟩)
      unfold newT at o
      rw [if_pos (by rw [e3.cut.length]; exact o'.1)] at o
      refine o μ H _ Stp.refl r ?_
      have ew : cutD xs lo hi = xs := by
        unfold cutD
        rw [e3.length, hw.1, hw.2]
        simp [← e3.length]
      rw [ew]
      simp only [Rep]
      exact ⟨a, vs, rfl, e2, n1, e3⟩
    · rename_i xs
      obtain ⟨a, oa, vs, e1, e2, c0, n1, e3⟩ := rd.tplOf
      have o' := newP_ok r e3.cut o
      refine .inr (.inr ⟨a, vs, e1, SqT.fz e2, fun hw => ?_, fun _ => o'.2⟩)
      unfold newP at o
      rw [if_pos (by rw [e3.cut.length]; exact o'.1)] at o
      refine o μ H _ Stp.refl r ?_
      have ew : cutD xs lo hi = xs := by
        unfold cutD
        rw [e3.length, hw.1, hw.2]
        simp [← e3.length]
      rw [ew]
      simp only [Rep]
      exact ⟨a, oa, vs, rfl, e2, c0, n1, e3⟩
    · split at o
      · rename_i xs hx
        obtain ⟨a, vs, e1, e2, e3⟩ := r.lstOf rd hx
        have o' := newL_ok r e3.cut o
        exact .inl ⟨a, vs, e1, by rw [hK]; exact e2, o'.2⟩
      · exact o.elim
theorem pv_sl {bx : Bool} {e : Expr} {lo hi : Option Expr} {p2 pos : Pos} {s : SV} {l u : SO} (hK : X.K = T.K) (he : PE X e (tV T W s)) (hl : PO X lo (tO' T W l)) (hu : PO X hi (tO' T W u)) : PE X (.Subscript e (.Slice lo hi none p2) pos) (tV T W (sSl bx s l u)) :=
  PE.imp (pe_slice (ov_sl (bx := bx) hK) he hl hu) fun σ H Q ⟨μ, ρ, h, r, e, o⟩ => by
    refine ⟨μ, ρ, h, r, e, OutV.mono (OutV.bind o) ?_⟩
    rintro v H1 ⟨μ1, d, h1, s1, r1, rv, o1⟩
    refine ⟨μ1, ρ, h1, r1, e.step s1, OutO.mono (OutV.bindO o1) ?_⟩
    rintro lo H2 ⟨μ2, h2, s2, r2, o2⟩
    refine ⟨μ2, ρ, h2, r2, (e.step s1).step s2, OutO.mono (OutV.bindO o2) ?_⟩
    rintro hi H3 ⟨μ3, h3, s3, r3, o3⟩
    exact ⟨μ3, h3, d, r3, Rep.step s3 _ _ (Rep.step s2 _ _ rv), o3.calm slD_calm⟩
def revD (bx : Bool) (d : D) (h : Bs) : R D := match lstOf h d with
  | some xs => newL bx xs.reverse h
  | none => .no
theorem Reps.reverse : ∀ {xs : List D} {vs : List V}, Reps T μ H xs vs → Reps T μ H xs.reverse vs.reverse
  | [], vs, q => by simp only [Reps] at q; subst q; simp [Reps]
  | x :: xs, vs, q => by
    simp only [Reps] at q
    obtain ⟨v, r, rfl, q1, q2⟩ := q
    rw [List.reverse_cons, List.reverse_cons]
    exact (Reps.reverse q2).append (.one q1)
theorem pv_rev {bx : Bool} {e : Expr} {k : Nat} {p1 p2 p3 pos : Pos} {s : SV} (hK : X.K = T.K) (he : PE X e (tV T W s)) : PE X (.Subscript e (.Slice none none (some (.UnaryOp .USub (.Constant (.int 1) k p1) p2)) p3) pos) (tV T W (sUn (revD bx) s)) :=
  PE.imp (pe_revL he) fun σ H Q ⟨μ, ρ, h, r, e, o⟩ => by
    refine ⟨μ, ρ, h, r, e, OutV.mono (OutV.bind o) ?_⟩
    rintro v H1 ⟨μ1, d, h1, s1, r1, rv, o1⟩
    unfold revD at o1
    split at o1
    · rename_i xs hx
      obtain ⟨a, vs, e1, e2, e3⟩ := r1.lstOf rv hx
      exact ⟨a, vs, e1, by rw [hK]; exact e2, (newL_ok r1 e3.reverse o1).2⟩
    · exact o1.elim
def negD (d : D) (h : Bs) : R D := match d with
  | .int i => .ok (.int (-i)) h
  | _ => .no
theorem UnR.imp {f : Value → Sem Value} {r r' : V → Hp → VK → Prop} (h : UnR X f r) (i : ∀ x H Q, r' x H Q → r x H Q) : UnR X f r' := fun pins s σ H x v Q I rx w => h pins s σ H x v Q I rx (i x H Q w)
theorem pv_neg {a : Expr} {pos : Pos} {s : SV} (ha : PE X a (tV T W s)) : PE X (.UnaryOp .USub a pos) (tV T W (sUn negD s)) :=
  PE.imp (pe_un un_neg ha) fun σ H Q ⟨μ, ρ, h, r, e, o⟩ => by
    refine ⟨μ, ρ, h, r, e, OutV.mono (OutV.bind o) ?_⟩
    rintro v H1 ⟨μ1, d, h1, s1, r1, rv, o1⟩
    unfold negD at o1
    split at o1
    · simp only [Rep] at rv
      exact ⟨_, rv, o1 μ1 H1 _ Stp.refl r1 (rep_int rfl)⟩
    · exact o1.elim
end
end VI
end
section
namespace VI
open PySem PySem.Spec PyProof.Rows L2
section
variable {X : Cx} {T : Tb} {W : WX} {μ μ' : Mu} {H H' : Hp} {h : Bs} {σ : Sg}
def rDn (T : Tb) (f : List D → Bs → R D) : List V → Hp → VK → Prop := fun xs H Q => ∃ μ h ds, Rel T μ h H ∧ Reps T μ H ds xs ∧ OutV T noW [] μ H Q (f ds h)
def sCall (f : List D → Bs → R D) (sa : SA) : SV := fun ρ h => (sa ρ h).bind f
theorem call_imp {f : List D → Bs → R D} {sa : SA} (cf : ∀ ds h, Calm (f ds h)) : ∀ σ H Q, tV T W (sCall f sa) σ H Q → tCB (rDn T f) (tA' T W sa) σ H Q := fun σ H Q ⟨μ, ρ, h, r, e, o⟩ => by
  refine ⟨μ, ρ, h, r, e, OutA.mono (OutV.bindA o) ?_⟩
  rintro v H1 ⟨μ1, d, h1, s1, r1, rv, o1⟩
  exact ⟨μ1, h1, d, r1, rv, o1.calm (cf _ _)⟩
def noStars (es : List Expr) : Bool := es.all fun e => !PySem.W.isStarred e
theorem back_no {pos : Pos} {env : Env} : ∀ {es : List Expr}, noStars es = true → (backTo pos (starEach es env)).any (·.1) = false
  | [], _ => rfl
  | e :: es, hs => by
    simp only [noStars, List.all_cons, Bool.and_eq_true, Bool.not_eq_true'] at hs
    rw [star_no hs.1]
    show (false || (backTo pos (starEach es env)).any (·.1)) = false
    rw [back_no (show noStars es = true from hs.2)]
    rfl
theorem pv_callB {x : Str} {id : String} {e : Expr} {es : List Expr} {p pos : Pos} {f : List D → Bs → R D} {sa : SA} (cf : ∀ ds h, Calm (f ds h)) (hc : CallR X (.builtin id) (rDn T f)) (hg : Gl X x) (hm : X.mg x = none) (hv : bootBuiltins x = some (.builtin id))
    (hn : x ≠ "__name__") (hdb : (x == ("__debug__" : Str)) = false) (hs : noStars (e :: es) = true) (ha : PA X (e :: es) (tA' T W sa)) : PE X (.Call (.Name x p) (e :: es) [] pos) (tV T W (sCall f sa)) := by
  simp only [noStars, List.all_cons, Bool.and_eq_true, Bool.not_eq_true'] at hs
  exact PE.imp (pe_callB hc hg hm hv ha hn hdb (star_no hs.1) (back_no (show noStars es = true from hs.2))) (call_imp cf)
theorem pv_callTy {x : Str} {id : String} {e : Expr} {es : List Expr} {p pos : Pos} {f : List D → Bs → R D} {sa : SA} (cf : ∀ ds h, Calm (f ds h)) (hc : CallR X (.type id) (rDn T f)) (hg : Gl X x) (hm : X.mg x = none) (hv : bootBuiltins x = some (.type id))
    (hn : x ≠ "__name__") (hdb : (x == ("__debug__" : Str)) = false) (hs : noStars (e :: es) = true) (ha : PA X (e :: es) (tA' T W sa)) : PE X (.Call (.Name x p) (e :: es) [] pos) (tV T W (sCall f sa)) := by
  simp only [noStars, List.all_cons, Bool.and_eq_true, Bool.not_eq_true'] at hs
  exact PE.imp (pe_callTy hc hg hm hv ha hn hdb (star_no hs.1) (back_no (show noStars es = true from hs.2))) (call_imp cf)
theorem CallR.imp {f : Value} {r r' : List V → Hp → VK → Prop} (h : CallR X f r) (i : ∀ xs H Q, r' xs H Q → r xs H Q) : CallR X f r' := fun pins s σ H xs us Q I rx w => h pins s σ H xs us Q I rx (i xs H Q w)
theorem Reps.is1 {d : D} {xs : List V} (q : Reps T μ H [d] xs) : ∃ v, xs = [v] ∧ Rep T μ H d v := by
  simp only [Reps] at q
  obtain ⟨v, r, rfl, q1, rfl⟩ := q
  exact ⟨v, rfl, q1⟩
theorem Reps.is2 {d e : D} {xs : List V} (q : Reps T μ H [d, e] xs) : ∃ v w, xs = [v, w] ∧ Rep T μ H d v ∧ Rep T μ H e w := by
  simp only [Reps] at q
  obtain ⟨v, r, rfl, q1, w, r2, rfl, q2, rfl⟩ := q
  exact ⟨v, w, rfl, q1, q2⟩
def lenD (ds : List D) (h : Bs) : R D := match ds with
  | [d] => (match seqOf h d with
    | some xs => .ok (.int xs.length) h
    | none => .no)
  | _ => .no
theorem lenD_calm {ds : List D} : Calm (lenD ds h) := by
  intro x h' z; unfold lenD at z
  split at z
  · split at z <;> cases z
  · cases z
theorem cv_len (hK : X.K = T.K) : CallR X (.builtin "len") (rDn T lenD) :=
  CallR.imp call_len_seq fun xs H Q ⟨μ, h, ds, r, rd, o⟩ => by
    unfold lenD at o
    split at o
    · obtain ⟨v, rfl, rv⟩ := rd.is1
      split at o
      · rename_i ys hy
        obtain ⟨a, vs, rfl, e2, e3⟩ := r.seqOf rv hy
        exact ⟨a, vs, rfl, by rw [hK]; exact e2.symm, o μ H _ Stp.refl r (rep_int (by rw [e3.length]))⟩
      · exact o.elim
    · exact o.elim
def intD (ds : List D) (h : Bs) : R D := match ds with
  | [.int i] => .ok (.int i) h
  | [.bl b] => .ok (.int (if b then 1 else 0)) h
  | _ => .no
theorem intD_calm {ds : List D} : Calm (intD ds h) := by
  intro x h' z; unfold intD at z; split at z <;> cases z
theorem cv_int : CallR X (.type "int") (rDn T intD) :=
  CallR.imp call_int1 fun xs H Q ⟨μ, h, ds, r, rd, o⟩ => by
    unfold intD at o
    split at o
    · obtain ⟨v, rfl, rv⟩ := rd.is1
      simp only [Rep] at rv
      subst rv
      exact .inl ⟨_, rfl, o μ H _ Stp.refl r (rep_int rfl)⟩
    · obtain ⟨v, rfl, rv⟩ := rd.is1
      simp only [Rep] at rv
      subst rv
      exact .inr ⟨_, rfl, o μ H _ Stp.refl r (rep_int rfl)⟩
    · exact o.elim
def intsD : List D → Option (List Int)
  | [] => some []
  | .int i :: xs => (match intsD xs with | some ns => some (i :: ns) | none => none)
  | _ :: _ => none
theorem intsD_eq : ∀ {xs : List D} {ns : List Int}, intsD xs = some ns → xs = ns.map .int
  | [], ns, e => by simp [intsD] at e; subst e; rfl
  | .int i :: xs, ns, e => by
    simp only [intsD] at e
    cases q : intsD xs with
    | none => rw [q] at e; cases e
    | some ms => rw [q] at e; cases e; rw [intsD_eq q]; rfl
  | .non :: _, _, e | .bl _ :: _, _, e | .str _ :: _, _, e | .tup _ :: _, _, e | .tpl _ :: _, _, e | .lst _ :: _, _, e | .dct _ _ :: _, _, e | .obj _ _ _ :: _, _, e | .exo _ _ _ :: _, _, e | .ref _ :: _, _, e | .scr _ :: _, _, e => by simp [intsD] at e
theorem intsD_map : ∀ ns : List Int, intsD (ns.map .int) = some ns
  | [] => rfl
  | n :: ns => by simp [intsD, intsD_map ns]
theorem Rel.ints (r : Rel T μ h H) {d : D} {v : V} {xs : List D} {ns : List Int} (q : Rep T μ H d v) (e : VI.seqOf h d = some xs) (e2 : intsD xs = some ns) : ∃ a, v = .ref a ∧ (SqT T.K H a (ns.map V.int) ∨ SqL T.K H a (ns.map V.int)) := by
  obtain ⟨a, vs, e1, e3, e4⟩ := r.seqOf q e
  rw [intsD_eq e2] at e4
  rw [e4.intsOf] at e3
  exact ⟨a, e1, e3⟩
theorem ints_alike (ns : List Int) : PySem.W.AlikeAll (ns.map .int) := by
  refine ⟨fun x hx y hy => ?_, fun x hx => ?_⟩
  · obtain ⟨i, _, rfl⟩ := List.mem_map.mp hx
    obtain ⟨j, _, rfl⟩ := List.mem_map.mp hy
    rfl
  · obtain ⟨i, _, rfl⟩ := List.mem_map.mp hx
    intro z; cases z
theorem ints_reads {pins : List (Addr × Obj)} {s : Shared} (I : Inv X pins σ H s) {ns : List Int} {us : List Value} (rv : Vals (ns.map V.int) us) : ∃ as, ReadsAll s.heap us (ns.map PyData.int) as :=
  Dp.readsAll I _ _ _ (ints_dp (T := ⟨X.K, fun _ => none, fun _ => default, 0, fun _ _ => none, fun _ => false, fun _ _ => false, fun _ => (0, ""), fun _ _ => false⟩) ns).1 rv
theorem reads_int {h : Heap} {v : Value} {i : Int} {bs : List Addr} (r : Reads h v (.int i) bs) : ∃ t, v = .int i t := by
  cases r; exact ⟨_, rfl⟩
theorem depth_ints : ∀ ns : List Int, PyData.depthAll (ns.map .int) = 0
  | [] => by simp [PyData.depthAll]
  | n :: ns => by simp [PyData.depthAll, PyData.depth, depth_ints ns]
def minFold (n : Int) (ns : List Int) : Int := ns.foldl min n
def maxFold (n : Int) (ns : List Int) : Int := ns.foldl max n
def mmD (f2 : Int → Int → Int) (ff : Int → List Int → Int) (ds : List D) (h : Bs) : R D := match ds with
  | [.int i, .int j] => .ok (.int (f2 i j)) h
  | [d] => (match seqOf h d with
    | some xs => (match intsD xs with
      | some (n :: ns) => .ok (.int (ff n ns)) h
      | _ => .no)
    | none => .no)
  | _ => .no
theorem mmD_calm {f2 : Int → Int → Int} {ff : Int → List Int → Int} {ds : List D} : Calm (mmD f2 ff ds h) := by
  intro x h' z; unfold mmD at z
  split at z
  · cases z
  · split at z
    · split at z <;> cases z
    · cases z
  · cases z
theorem cv_min (hK : X.K = T.K) (hc : X.calm = true) (hu : X.A.units + 1 < cLine) : CallR X (.builtin "min") (rDn T (mmD (fun i j => if j < i then j else i) minFold)) := by
  intro pins s σ H xs us Q I rx ⟨μ, h, ds, r, rd, o⟩
  unfold mmD at o
  split at o
  · obtain ⟨v, w, rfl, rv, rw'⟩ := rd.is2
    simp only [Rep] at rv rw'
    subst rv rw'
    exact call_min2 hc pins s σ H _ us Q I rx ⟨_, _, rfl, o μ H _ Stp.refl r (rep_int rfl)⟩
  · obtain ⟨v, rfl, rv⟩ := rd.is1
    split at o
    · rename_i ys hy
      split at o
      · rename_i n ns hn
        obtain ⟨a, rfl, e2⟩ := r.ints rv hy hn
        obtain rfl := Vals.ref1 rx
        have fin : ∀ (i : Nat) (v : Value) (h' : Heap) (tk : Nat) (bs : List Addr), Reads h' v (PySem.W.minD (.int n) (ns.map .int)) bs → (∀ b o, s.heap.get? b = some o → h'.get? b = some o) → EP X pins σ Q v { s with heap := h', toks := tk } := fun i v h' tk bs rr hk => by
          rw [PySem.W.minD_ints] at rr
          obtain ⟨t, rfl⟩ := reads_int rr
          exact ⟨.int _, H, I.kept (t' := tk) hk, ⟨_, rfl⟩, o μ H _ Stp.refl r (rep_int rfl)⟩
        rcases e2 with e2 | e2
        · obtain ⟨its, rv, ht, _⟩ := I.tuple (by rw [hK]; exact e2)
          obtain ⟨as, rr⟩ := ints_reads I rv
          exact PySem.W.min_tuple_data (I.ok.hd hc) ht (x := .int n) (xs := ns.map .int) rr (ints_alike (n :: ns)) (by rw [show PyData.depthAll (PyData.int n :: ns.map .int) = 0 from depth_ints (n :: ns)]; exact hu) fun i v h' tk bs _ => fin i v h' tk bs
        · obtain ⟨its, rv, ht, _⟩ := I.list (by rw [hK]; exact e2)
          obtain ⟨as, rr⟩ := ints_reads I rv
          exact PySem.W.min_list_data (I.ok.hd hc) ht.isList (x := .int n) (xs := ns.map .int) rr (ints_alike (n :: ns)) (by rw [show PyData.depthAll (PyData.int n :: ns.map .int) = 0 from depth_ints (n :: ns)]; exact hu) fun i v h' tk bs _ => fin i v h' tk bs
      · exact o.elim
    · exact o.elim
  · exact o.elim
def sumD (ds : List D) (h : Bs) : R D := match ds with
  | [d] => (match seqOf h d with
    | some xs => (match intsD xs with
      | some ns => .ok (.int ns.sum) h
      | _ => .no)
    | none => .no)
  | _ => .no
end
end VI
end
section
namespace VI
open PySem PySem.Spec PyProof.Rows L2
def F.bind (f : F) (g : Ev → Bs → F) : F := match f with
  | .nx ρ h => g ρ h
  | f => f
def R.toF {α : Type} (r : R α) (ρ : Ev) (k : α → Bs → F) : F := match r with
  | .ok a h => k a h
  | .ex x h => .ex x ρ h
  | .no => .no
section
variable {X : Cx} {T : Tb} {W : WX} {μ μ' : Mu} {H H' : Hp} {h : Bs} {σ : Sg} {ρ : Ev}
theorem OutS.mono {D D' : Ends} {f : F} (o : OutS T W μ H D f) (hn : ∀ σ H, D.nx σ H → D'.nx σ H) (hr : ∀ v H, D.rt v H → D'.rt v H) (hb : ∀ σ H, D.bk σ H → D'.bk σ H) (hc : ∀ σ H, D.ct σ H → D'.ct σ H) : OutS T W μ H D' f := by
  cases f with
  | nx ρ h => exact fun μ1 H1 σ1 a b c => hn _ _ (o μ1 H1 σ1 a b c)
  | bk ρ h => exact fun μ1 H1 σ1 a b c => hb _ _ (o μ1 H1 σ1 a b c)
  | ct ρ h => exact fun μ1 H1 σ1 a b c => hc _ _ (o μ1 H1 σ1 a b c)
  | rt d h => exact fun μ1 H1 σ1 a b c => hr _ _ (o μ1 H1 σ1 a b c)
  | ex x ρ h => exact o
  | no => exact o
theorem OutS.bind {D : Ends} {f : F} {g : Ev → Bs → F} (o : OutS T W μ H D (f.bind g)) :
    OutS T W μ H { D with nx := fun σ H1 => ∃ μ1 ρ1 h1, Stp μ H μ1 H1 ∧ Rel T μ1 h1 H1 ∧ RepE T μ1 H1 ρ1 σ ∧ OutS T W μ1 H1 D (g ρ1 h1) } f := by
  cases f with
  | nx ρ h => exact fun μ1 H1 σ1 a b c => ⟨μ1, ρ, h, a, b, c, OutS.step o a⟩
  | bk ρ h => exact o
  | ct ρ h => exact o
  | rt d h => exact o
  | ex x ρ h => exact o
  | no => exact o
theorem OutS.ofV {D : Ends} {r : R VI.D} {k : VI.D → Bs → F} (e : RepE T μ H ρ σ) (o : OutS T W μ H D (r.toF ρ k)) :
    OutV T W σ μ H (fun v H1 => ∃ μ1 d h1, Stp μ H μ1 H1 ∧ Rel T μ1 h1 H1 ∧ RepE T μ1 H1 ρ σ ∧ Rep T μ1 H1 d v ∧ OutS T W μ1 H1 D (k d h1)) r := by
  cases r with
  | ok d h => exact fun μ1 H1 v s r1 rv => ⟨μ1, d, h, s, r1, e.step s, rv, OutS.step o s⟩
  | ex x h => exact fun μ1 H1 c d s r1 rx => o μ1 H1 σ c d s r1 (e.step s) rx
  | no => exact o
theorem OutS.ofB {D : Ends} {r : R Bool} {k : Bool → Bs → F} (e : RepE T μ H ρ σ) (o : OutS T W μ H D (r.toF ρ k)) :
    OutB T W σ μ H (fun d H1 => ∃ μ1 h1, Stp μ H μ1 H1 ∧ Rel T μ1 h1 H1 ∧ RepE T μ1 H1 ρ σ ∧ OutS T W μ1 H1 D (k d h1)) r := by
  cases r with
  | ok d h => exact fun μ1 H1 s r1 => ⟨μ1, h, s, r1, e.step s, OutS.step o s⟩
  | ex x h => exact fun μ1 H1 c d s r1 rx => o μ1 H1 σ c d s r1 (e.step s) rx
  | no => exact o
def ssNil : SS := fun ρ h => .nx ρ h
def ssCons (s t : SS) : SS := fun ρ h => (s ρ h).bind t
theorem psv_nil : PSs X [] (tS' T W ssNil) := PSs.imp pss_nil fun D σ H ⟨μ, ρ, h, r, e, o⟩ => o μ H σ Stp.refl r e
theorem psv_cons {st : Stmt} {rest : List Stmt} {s t : SS} (h1 : PS X st (tS' T W s)) (h2 : PSs X rest (tS' T W t)) : PSs X (st :: rest) (tS' T W (ssCons s t)) :=
  PSs.imp (pss_cons h1 h2) fun D σ H ⟨μ, ρ, h, r, e, o⟩ => by
    refine ⟨μ, ρ, h, r, e, OutS.mono (OutS.bind o) (fun σ1 H1 ⟨μ1, ρ1, h1, _, r1, e1, o1⟩ => ⟨μ1, ρ1, h1, r1, e1, o1⟩) (fun _ _ z => z) (fun _ _ z => z) (fun _ _ z => z)⟩
variable {pos : Pos} {a b c : Expr} {sa sb sc : SV}
def ssExpr (s : SV) : SS := fun ρ h => (s ρ h).toF ρ fun _ h1 => .nx ρ h1
def isComp : Expr → Bool
  | .ListComp .. => true
  | .SetComp .. => true
  | .DictComp .. => true
  | _ => false
theorem sw_no {e : Expr} {t : Option Expr} {l : Nat} {env : Env} (hc : isComp e = false) : swapsWith e t l env = pure false := by
  cases e <;> first | rfl | (exact Bool.noConfusion hc)
theorem psv_expr (hc : isComp a = false) (ha : PE X a (tV T W sa)) : PS X (.Expr a pos) (tS' T W (ssExpr sa)) :=
  PS.imp (ps_expr ha (sw_no hc)) fun D σ H ⟨μ, ρ, h, r, e, o⟩ => by
    refine ⟨μ, ρ, h, r, e, OutV.mono (OutS.ofV e o) ?_⟩
    rintro v H1 ⟨μ1, d, h1, s1, r1, e1, rv, o1⟩
    exact o1 μ1 H1 σ Stp.refl r1 e1
def ssRet (s : SV) : SS := fun ρ h => (s ρ h).toF ρ fun d h1 => .rt d h1
theorem psv_ret (ha : PE X a (tV T W sa)) : PS X (.Return (some a) pos) (tS' T W (ssRet sa)) :=
  PS.imp (ps_ret ha) fun D σ H ⟨μ, ρ, h, r, e, o⟩ => by
    refine ⟨μ, ρ, h, r, e, OutV.mono (OutS.ofV e o) ?_⟩
    rintro v H1 ⟨μ1, d, h1, s1, r1, e1, rv, o1⟩
    exact o1 μ1 H1 v Stp.refl r1 rv
def ssIf (s : SV) (t u : SS) : SS := fun ρ h => (sTru s ρ h).toF ρ fun b h1 => if b then t ρ h1 else u ρ h1
theorem psv_if {x y : List Stmt} {t u : SS} (hc : PT X c (tB' T W (sTru sc))) (hx : PSs X x (tS' T W t)) (hy : PSs X y (tS' T W u)) : PS X (.If c x y pos) (tS' T W (ssIf sc t u)) :=
  PS.imp (ps_if hc hx hy) fun D σ H ⟨μ, ρ, h, r, e, o⟩ => by
    refine ⟨μ, ρ, h, r, e, OutB.mono (OutS.ofB e o) ?_⟩
    rintro b H1 ⟨μ1, h1, s1, r1, e1, o1⟩
    cases b with
    | true => exact ⟨μ1, ρ, h1, r1, e1, o1⟩
    | false => exact ⟨μ1, ρ, h1, r1, e1, o1⟩
abbrev SG := VI.D → Ev → Bs → R Ev
abbrev SGs := List VI.D → Ev → Bs → R Ev
def OutG (T : Tb) (own : List Nat) (σ : Sg) (μ : Mu) (H : Hp) (Q : Sg → Hp → Prop) : R Ev → Prop
  | .ok ρ h' => ∀ μ' H' σ', Stp μ H μ' H' → Rel T μ' h' H' → RepE T μ' H' ρ σ' → wipe σ' own = wipe σ own → Q σ' H'
  | _ => False
def tG' (T : Tb) (own : List Nat) (s : SG) : TG := fun v σ H Q => ∃ μ ρ h d, Rel T μ h H ∧ RepE T μ H ρ σ ∧ Rep T μ H d v ∧ OutG T own σ μ H Q (s d ρ h)
def tGs' (T : Tb) (own : List Nat) (s : SGs) : TGs := fun vs σ H Q => ∃ μ ρ h ds, Rel T μ h H ∧ RepE T μ H ρ σ ∧ Reps T μ H ds vs ∧ OutG T own σ μ H Q (s ds ρ h)
variable {own : List Nat}
theorem OutG.step {Q : Sg → Hp → Prop} {r : R Ev} (o : OutG T own σ μ H Q r) (s : Stp μ H μ' H') : OutG T own σ μ' H' Q r := by
  cases r with
  | ok ρ h => exact fun μ2 H2 σ2 s2 => o μ2 H2 σ2 (s.trans s2)
  | ex x h => exact o
  | no => exact o
theorem OutG.mono {Q Q' : Sg → Hp → Prop} {r : R Ev} (o : OutG T own σ μ H Q r) (i : ∀ σ H, Q σ H → Q' σ H) : OutG T own σ μ H Q' r := by
  cases r with
  | ok ρ h => exact fun μ2 H2 σ2 a b c d => i _ _ (o μ2 H2 σ2 a b c d)
  | ex x h => exact o
  | no => exact o
theorem OutG.sig {Q : Sg → Hp → Prop} {r : R Ev} {σ1 : Sg} (o : OutG T own σ μ H Q r) (e : wipe σ1 own = wipe σ own) : OutG T own σ1 μ H Q r := by
  cases r with
  | ok ρ h => exact fun μ2 H2 σ2 a b c d => o μ2 H2 σ2 a b c (d.trans e)
  | ex x h => exact o
  | no => exact o
theorem OutG.bind {Q : Sg → Hp → Prop} {r : R Ev} {g : Ev → Bs → R Ev} (o : OutG T own σ μ H Q (r.bind g)) :
    OutG T own σ μ H (fun σ1 H1 => ∃ μ1 ρ1 h1, Stp μ H μ1 H1 ∧ Rel T μ1 h1 H1 ∧ RepE T μ1 H1 ρ1 σ1 ∧ OutG T own σ1 μ1 H1 Q (g ρ1 h1)) r := by
  cases r with
  | ok ρ h => exact fun μ1 H1 σ1 a b c d => ⟨μ1, ρ, h, a, b, c, (OutG.step o a).sig d⟩
  | ex x h => exact o
  | no => exact o
theorem OutG.ofV {Q : Sg → Hp → Prop} {r : R VI.D} {k : VI.D → Bs → R Ev} (e : RepE T μ H ρ σ) (o : OutG T own σ μ H Q (r.bind k)) :
    OutV T W σ μ H (fun v H1 => ∃ μ1 d h1, Stp μ H μ1 H1 ∧ Rel T μ1 h1 H1 ∧ RepE T μ1 H1 ρ σ ∧ Rep T μ1 H1 d v ∧ OutG T own σ μ1 H1 Q (k d h1)) r := by
  cases r with
  | ok d h => exact fun μ1 H1 v s r1 rv => ⟨μ1, d, h, s, r1, e.step s, rv, OutG.step o s⟩
  | ex x h => exact o.elim
  | no => exact o
theorem wipe_set {i : Nat} {v : Option V} : ∀ {own : List Nat} {σ : Sg}, i ∈ own → wipe (σ.set i v) own = wipe σ own
  | o :: os, σ, h => by
    unfold wipe
    by_cases hi : i ∈ os
    · rw [wipe_set hi]
    · have e : i = o := by
        rcases List.mem_cons.mp h with z | z
        · exact z
        · exact absurd z hi
      subst e
      have key : ∀ (os : List Nat), i ∉ os → wipe (σ.set i v) os = (wipe σ os).set i v := by
        intro os
        induction os with
        | nil => intro _; rfl
        | cons o os ih =>
          intro hn
          unfold wipe
          rw [ih (fun z => hn (List.mem_cons_of_mem _ z)), List.set_comm]
          exact fun z => hn (by rw [z]; exact List.mem_cons_self)
      rw [key os hi, List.set_set]
theorem PG.imp {t t' : TG} (h : PG X a t) (i : ∀ v σ H Q, t' v σ H Q → t v σ H Q) : PG X a t' := ⟨fun pins s σ H v u Q I r w => h.run pins s σ H v u Q I r (i v σ H Q w)⟩
theorem PGs.imp {es : List Expr} {t t' : TGs} (h : PGs X es t) (i : ∀ v σ H Q, t' v σ H Q → t v σ H Q) : PGs X es t' := ⟨fun pins s σ H v u Q I r w => h.run pins s σ H v u Q I r (i v σ H Q w)⟩
def sgName (i : Nat) : SG := fun d ρ h => .ok (ρ.set i (some d)) h
theorem pgv_name {i : Nat} {x : Str} (hN : X.N.Nodup) (hi : X.N[i]? = some x) (hx : Loc X.env.scope x) (hf : X.fn x = true ∨ X.env.scope.names.lookup x = some .local) (ho : i ∈ own) : PG X (.Name x pos) (tG' T own (sgName i)) :=
  PG.imp (pg_name hN hi hx hf) fun v σ H Q ⟨μ, ρ, h, d, r, e, rv, o⟩ => o μ H _ Stp.refl r (e.set rv) (wipe_set ho)
def sgNil : SGs := fun ds ρ h => match ds with
  | [] => .ok ρ h
  | _ => .no
def sgCons (s : SG) (t : SGs) : SGs := fun ds ρ h => match ds with
  | d :: r => (s d ρ h).bind (t r)
  | [] => .no
theorem pgsv_nil : PGs X [] (tGs' T own sgNil) := PGs.imp pgs_nil fun v σ H Q ⟨μ, ρ, h, ds, r, e, rv, o⟩ => by
  cases ds with
  | nil => simp only [Reps] at rv; exact ⟨rv, o μ H σ Stp.refl r e rfl⟩
  | cons _ _ => exact o.elim
def noStarT : Expr → Bool
  | .Starred .. => false
  | _ => true
theorem asg_one {e : Expr} {es : List Expr} {env : Env} (hs : noStarT e = true) : (assignEach (e :: es) env).map (·.2) = assign e env :: (assignEach es env).map (·.2) := by
  cases e <;> first | rfl | (exact Bool.noConfusion hs)
theorem pgsv_cons {es : List Expr} {s : SG} {t : SGs} (hs : noStarT a = true) (h1 : PG X a (tG' T own s)) (h2 : PGs X es (tGs' T own t)) : PGs X (a :: es) (tGs' T own (sgCons s t)) :=
  PGs.imp (pgs_cons h1 h2 (asg_one hs)) fun v σ H Q ⟨μ, ρ, h, ds, r, e, rv, o⟩ => by
    cases ds with
    | nil => exact o.elim
    | cons d ds =>
      simp only [Reps] at rv
      obtain ⟨w, vr, rfl, q1, q2⟩ := rv
      refine ⟨w, vr, rfl, μ, ρ, h, d, r, e, q1, OutG.mono (OutG.bind o) (fun σ1 H1 ⟨μ1, ρ1, h1, s1, r1, e1, o1⟩ => ?_)⟩
      exact ⟨μ1, ρ1, h1, ds, r1, e1, Reps.step s1 _ _ q2, o1⟩
def sgTup (n : Nat) (t : SGs) : SG := fun d ρ h => match d with
  | .tup xs => if xs.length = n then t xs ρ h else .no
  | .tpl xs => if xs.length = n then t xs ρ h else .no
  | _ => .no
def noStarTs (es : List Expr) : Bool := es.all noStarT
theorem asg_len {env : Env} : ∀ {es : List Expr}, noStarTs es = true → (assignEach es env).length = es.length ∧ (assignEach es env).findIdx? (·.1) = none
  | [], _ => ⟨rfl, rfl⟩
  | e :: es, hs => by
    simp only [noStarTs, List.all_cons, Bool.and_eq_true] at hs
    obtain ⟨h1, h2⟩ := asg_len (env := env) (show noStarTs es = true from hs.2)
    have e1 : assignEach (e :: es) env = (false, assign e env) :: assignEach es env := by
      have := hs.1
      cases e <;> first | rfl | (exact Bool.noConfusion this)
    rw [e1]
    refine ⟨by simp [h1], ?_⟩
    rw [List.findIdx?_cons]
    simp [h2]
theorem pgv_tup {es : List Expr} {k : Nat} {t : SGs} (hc : X.calm = true) (hs : noStarTs es = true) (h : PGs X es (tGs' T own t)) : PG X (.Tuple es k pos) (tG' T own (sgTup es.length t)) :=
  PG.imp (pg_tup (n := es.length) hc h (asg_len hs).1 (asg_len hs).2) fun v σ H Q ⟨μ, ρ, h, d, r, e, rv, o⟩ => by
    cases d with
    | tup xs =>
      unfold sgTup at o
      simp only at o
      split at o
      · rename_i hl
        obtain ⟨a, vs, e1, e2, _, e3⟩ := rv.tupOf
        exact ⟨a, vs, e1, SqT.of e2, by rw [← e3.length]; exact hl, μ, ρ, h, xs, r, e, e3, o⟩
      · exact o.elim
    | tpl xs =>
      unfold sgTup at o
      simp only at o
      split at o
      · rename_i hl
        obtain ⟨a, ob, vs, e1, e2, _, _, e3⟩ := rv.tplOf
        exact ⟨a, vs, e1, SqT.fz e2, by rw [← e3.length]; exact hl, μ, ρ, h, xs, r, e, e3, o⟩
      · exact o.elim
    | _ => exact o.elim
def okW (h : Bs) (b : Nat) (d : VI.D) : Bool := match h.fbs with
  | [] => true
  | k :: _ => decide (k ≤ b) || noR d
theorem okW_bel (r : Rel T μ h H) {b : Nat} {d : VI.D} (e : okW h b d = true) : ∀ k ∈ h.fbs, b < k → bel k d := by
  intro k hk hb
  unfold okW at e
  have o := r.ord
  cases q : h.fbs with
  | nil => rw [q] at hk; cases hk
  | cons k0 ks =>
    rw [q] at hk e o
    simp only [Bool.or_eq_true, decide_eq_true_eq] at e
    rcases e with e | e
    · exfalso
      rcases List.mem_cons.mp hk with z | z
      · subst z; omega
      · have : k0 ≥ k := (List.pairwise_cons.mp o).1 k z
        omega
    · exact noR.bel d e
theorem bels_append {k : Nat} : ∀ {xs ys : List VI.D}, bels k xs → bels k ys → bels k (xs ++ ys)
  | [], _, _, h => h
  | x :: xs, ys, h, h2 => by simp only [bels] at h; simp only [List.cons_append, bels]; exact ⟨h.1, bels_append h.2 h2⟩
def putL (b : Nat) (xs : List VI.D) (h : Bs) : Bs := { h with bs := h.bs.set b (.lst false xs) }
theorem Rel.putL (r : Rel T μ h H) {b : Nat} {a : Addr} {xs ys : List VI.D} {vs : List V} (hb : h.bs[b]? = some (.lst false xs)) (ha : μ.ad[b]? = some a) (q : Reps T μ H ys vs) (hw : ∀ k ∈ h.fbs, b < k → bels k xs → bels k ys) :
    Rel T μ (VI.putL b ys h) (upd H a (.lst vs)) ∧ Stp μ H μ (upd H a (.lst vs)) := by
  have hlk : ∀ z, h.bs[b]? = some z → lkd z = false := fun z e => by rw [hb] at e; cases e; rfl
  have st : Stp μ H μ (upd H a (.lst vs)) := Stp.put (List.mem_of_getElem? ha) (r.free ha hlk)
  exact ⟨r.put ha hlk rfl ⟨vs, upd_same, Reps.step st _ _ q⟩ fun k hk hb' => hw k hk hb' (r.wf k hk b _ hb' hb), st⟩
theorem Rel.boxAt (r : Rel T μ h H) {b : Nat} {v : V} {lk : Bool} {xs : List VI.D} (hb : h.bs[b]? = some (.lst lk xs)) (q : Rep T μ H (.ref b) v) : ∃ a vs, μ.ad[b]? = some a ∧ v = .ref a ∧ H a = some (.lst vs) ∧ Reps T μ H xs vs := by
  simp only [Rep] at q
  obtain ⟨a, e1, e2⟩ := q
  obtain ⟨vs, e3, q⟩ := r.at_ _ _ a hb e1
  exact ⟨a, vs, e1, e2, e3, q⟩
def setD (o i v : VI.D) (h : Bs) : R VI.D := match o, i with
  | .ref b, .int k => (match h.bs[b]? with
    | some (.lst false xs) => (match ixN xs.length k with
      | some j => if okW h b v then .ok .non (putL b (xs.set j v) h) else .no
      | none => .no)
    | _ => .no)
  | _, _ => .no
theorem PSet.imp {t t' : TSet} (h : PSet X t) (i : ∀ o j v H Q, t' o j v H Q → t o j v H Q) : PSet X t' := fun pins s σ H o j v ov iv u Q I r1 r2 r3 w => h pins s σ H o j v ov iv u Q I r1 r2 r3 (i o j v H Q w)
def sgSub (so si : SV) : SG := fun d ρ h => (so ρ h).bind fun o h1 => (si ρ h1).bind fun i h2 => (setD o i d h2).bind fun _ h3 => .ok ρ h3
def R.toF' (r : R Ev) : F := match r with
  | .ok ρ h => .nx ρ h
  | _ => .no
def ssAsg (s : SV) (g : SG) : SS := fun ρ h => (s ρ h).toF ρ fun d h1 => (g d ρ h1).toF'
theorem OutS.toG {D : Ends} {r : R Ev} (o : OutS T W μ H D r.toF') : OutG T own σ μ H D.nx r := by
  cases r with
  | ok ρ h => exact fun μ1 H1 σ1 a b c _ => o μ1 H1 σ1 a b c
  | ex x h => exact o
  | no => exact o
theorem asg_imp {g : SG} : ∀ D σ H, tS' T W (ssAsg sa g) D σ H → tAsg (tV T W sa) (tG' T own g) D σ H := fun D σ H ⟨μ, ρ, h, r, e, o⟩ => by
  refine ⟨μ, ρ, h, r, e, OutV.mono (OutS.ofV e o) ?_⟩
  rintro v H1 ⟨μ1, d, h1, s1, r1, e1, rv, o1⟩
  exact ⟨μ1, ρ, h1, d, r1, e1, rv, OutS.toG o1⟩
theorem asgN_imp {i : Nat} : ∀ D σ H, tS' T W (ssAsg sa (sgName i)) D σ H → tAsg (tV T W sa) (gName i) D σ H := fun D σ H ⟨μ, ρ, h, r, e, o⟩ => by
  refine ⟨μ, ρ, h, r, e, OutV.mono (OutS.ofV e o) ?_⟩
  rintro v H1 ⟨μ1, d, h1, s1, r1, e1, rv, o1⟩
  exact o1 μ1 H1 _ Stp.refl r1 (e1.set rv)
theorem psv_set {i : Nat} {x : Str} {pos' : Pos} (hN : X.N.Nodup) (hi : X.N[i]? = some x) (hx : Loc X.env.scope x) (hf : X.fn x = true ∨ X.env.scope.names.lookup x = some .local) (hc : isComp a = false) (ha : PE X a (tV T W sa)) :
    PS X (.Assign [.Name x pos'] a pos) (tS' T W (ssAsg sa (sgName i))) := PS.imp (ps_set hN hi hx ha (sw_no hc) hf) asgN_imp
theorem psv_asg {tg : Expr} {g : SG} (hc : isComp a = false) (hw : swappedStores [tg] a X.env = pure none) (hs : noStarT tg = true) (ha : PE X a (tV T W sa)) (hg : PG X tg (tG' T own g)) : PS X (.Assign [tg] a pos) (tS' T W (ssAsg sa g)) :=
  PS.imp (ps_asg ha hg (sw_no hc) hw (asg_one hs)) asg_imp
end
end VI
end
section
namespace VI
open PySem PySem.Spec PyProof.Rows L2
def lockB (b : Nat) (h : Bs) : Bs := match h.bs[b]? with
  | some (.lst _ xs) => { h with bs := h.bs.set b (.lst true xs) }
  | _ => h
def unlB (b : Nat) (h : Bs) : Bs := match h.bs[b]? with
  | some (.lst _ xs) => { h with bs := h.bs.set b (.lst false xs) }
  | _ => h
def lockO (l : Option Nat) (h : Bs) : Bs := match l with
  | some b => lockB b h
  | none => h
def unlO (l : Option Nat) (h : Bs) : Bs := match l with
  | some b => unlB b h
  | none => h
def unlF (l : Option Nat) (f : F) : F := match f with
  | .nx ρ h => .nx ρ (unlO l h)
  | .bk ρ h => .bk ρ (unlO l h)
  | .ct ρ h => .ct ρ (unlO l h)
  | .rt d h => .rt d (unlO l h)
  | .ex x ρ h => .ex x ρ (unlO l h)
  | .no => .no
def unlR {α : Type} (l : Option Nat) (r : R α) : R α := match r with
  | .ok a h => .ok a (unlO l h)
  | .ex x h => .ex x (unlO l h)
  | .no => .no
section
variable {X : Cx} {T : Tb} {W : WX} {μ μ' : Mu} {H H' : Hp} {h : Bs} {σ : Sg} {ρ : Ev}
mutual
theorem Rep.ad (e : μ'.ad = μ.ad) (ep : μ'.pr = μ.pr) : ∀ (d : D) (v : V), Rep T μ H d v → Rep T μ' H d v
  | .non, v, q => by simpa only [Rep] using q
  | .bl b, v, q => by simpa only [Rep] using q
  | .int b, v, q => by simpa only [Rep] using q
  | .str b, v, q => by simpa only [Rep] using q
  | .tup xs, v, q => by
    simp only [Rep] at q ⊢
    obtain ⟨a, vs, e1, e2, e3, e4⟩ := q
    exact ⟨a, vs, e1, e2, ⟨by rw [e]; exact e3.1, by rw [ep]; exact e3.2⟩, Reps.ad e ep xs vs e4⟩
  | .tpl xs, v, q => by
    simp only [Rep] at q ⊢
    obtain ⟨a, o, vs, e1, e2, c, e3, e4⟩ := q
    exact ⟨a, o, vs, e1, e2, c, ⟨by rw [e]; exact e3.1, by rw [ep]; exact e3.2⟩, Reps.ad e ep xs vs e4⟩
  | .lst xs, v, q => by
    simp only [Rep] at q ⊢
    obtain ⟨a, vs, e1, e2, e3, e4⟩ := q
    exact ⟨a, vs, e1, e2, ⟨by rw [e]; exact e3.1, by rw [ep]; exact e3.2⟩, Reps.ad e ep xs vs e4⟩
  | .dct ks xs, v, q => by
    simp only [Rep] at q ⊢
    obtain ⟨a, o, vs, e1, e2, e3, e4, e5⟩ := q
    exact ⟨a, o, vs, e1, e2, ⟨by rw [e]; exact e3.1, by rw [ep]; exact e3.2⟩, e4, Reps.ad e ep xs vs e5⟩
  | .obj c fs xs, v, q => by
    simp only [Rep] at q ⊢
    obtain ⟨a, C, dx, vs, e1, e2, e3, e4, e5, e6⟩ := q
    exact ⟨a, C, dx, vs, e1, e2, e3, ⟨by rw [e]; exact e4.1, by rw [ep]; exact e4.2⟩, e5, Reps.ad e ep xs vs e6⟩
  | .exo c fs xs, v, q => by
    simp only [Rep] at q ⊢
    obtain ⟨a, C, o, us, vs, e1, e2, e3, eo, n, x, l, r⟩ := q
    exact ⟨a, C, o, us, vs, e1, e2, e3, eo, ⟨by rw [e]; exact n.1, by rw [ep]; exact n.2⟩, x.imp fun dx u z m => ⟨z, by rw [e]; exact m.1, by rw [ep]; exact m.2⟩, l, Reps.ad e ep xs vs r⟩
  | .ref b, v, q => by simp only [Rep] at q ⊢; rw [e]; exact q
  | .scr ns, v, q => by
    simp only [Rep] at q ⊢
    obtain ⟨a, e1, e2⟩ := q
    refine ⟨a, e1, ?_⟩
    rcases e2 with ⟨z1, z2⟩ | z
    · exact .inl ⟨z1, by rw [e]; exact z2.1, by rw [ep]; exact z2.2⟩
    · exact .inr z
theorem Reps.ad (e : μ'.ad = μ.ad) (ep : μ'.pr = μ.pr) : ∀ (d : List D) (v : List V), Reps T μ H d v → Reps T μ' H d v
  | [], v, q => by simpa only [Reps] using q
  | x :: xs, v, q => by
    simp only [Reps] at q ⊢
    obtain ⟨w, r, e1, q1, q2⟩ := q
    exact ⟨w, r, e1, Rep.ad e ep x w q1, Reps.ad e ep xs r q2⟩
end
theorem RepB.ad (e : μ'.ad = μ.ad) (ep : μ'.pr = μ.pr) {b : Bx} {a : Addr} (q : RepB T μ H b a) : RepB T μ' H b a := by
  cases b with
  | lst lk xs => obtain ⟨vs, e1, q⟩ := q; exact ⟨vs, e1, Reps.ad e ep _ _ q⟩
  | dct lk ks xs => obtain ⟨vs, e1, e2, q⟩ := q; exact ⟨vs, e1, e2, Reps.ad e ep _ _ q⟩
  | dfz ks xs => obtain ⟨o, vs, e1, e2, q⟩ := q; exact ⟨o, vs, e1, e2, Reps.ad e ep _ _ q⟩
  | obj c fs xs => obtain ⟨C, dx, vs, e1, e2, e3, q⟩ := q; exact ⟨C, dx, vs, e1, e2, e3, Reps.ad e ep _ _ q⟩
  | tbl t => obtain ⟨a1, ps, e1, e2, e3⟩ := q; exact ⟨a1, ps, e1, e2, fun pos cv q => by obtain ⟨c, f1, f2, f3⟩ := e3 pos cv q; exact ⟨c, f1, f2, by rw [e]; exact f3.1, by rw [ep]; exact f3.2⟩⟩
theorem RepE.ad (e : μ'.ad = μ.ad) (ep : μ'.pr = μ.pr) (q : RepE T μ H ρ σ) : RepE T μ' H ρ σ := ⟨q.1, fun i d z => by
  obtain ⟨v, e1, q⟩ := q.2 i d z
  exact ⟨v, e1, Rep.ad e ep _ _ q⟩⟩
theorem RepX.ad (e : μ'.ad = μ.ad) (ep : μ'.pr = μ.pr) {x : Ex} {cls : Value} {d : Option Addr} (q : RepX T μ H x cls d) : RepX T μ' H x cls d := by
  obtain ⟨C, e1, e2, q⟩ := q
  refine ⟨C, e1, e2, ?_⟩
  rcases q with q | ⟨dx, vs, e3, e4, e5, e6, q⟩
  · exact .inl q
  · exact .inr ⟨dx, vs, e3, e4, ⟨by rw [e]; exact e5.1, by rw [ep]; exact e5.2⟩, e6, Reps.ad e ep _ _ q⟩
theorem Rel.flag (r : Rel T μ h H) {b : Nat} {lk lk' : Bool} {xs : List D} (hb : h.bs[b]? = some (.lst lk xs)) (e : μ'.ad = μ.ad) (ep : μ'.pr = μ.pr) (ef : μ'.fb = μ.fb)
    (hl : ∀ a ∈ μ'.lk, ∃ (c : Nat) (y : Bx), μ'.ad[c]? = some a ∧ (h.bs.set b (.lst lk' xs))[c]? = some y ∧ lkd y = true) (hf : ∀ (c : Nat) (y : Bx) (a : Addr), (h.bs.set b (.lst lk' xs))[c]? = some y → lkd y = true → μ'.ad[c]? = some a → a ∈ μ'.lk) : Rel T μ' { h with bs := h.bs.set b (.lst lk' xs) } H := by
  have hlt : b < h.bs.length := (List.getElem?_eq_some_iff.mp hb).1
  refine ⟨r.fb.trans ef.symm, fun a ha => by rw [ep] at ha; rw [e]; exact r.prh a ha, hl, hf, by rw [e]; simp [r.len], by rw [e]; exact r.nd, fun i b' a e1 e2 => ?_, fun k hk => by simpa using r.lo k hk, r.ord, fun k hk i b' hi e1 => ?_⟩
  · have e1 : (h.bs.set b (.lst lk' xs))[i]? = some b' := e1
    rw [e] at e2
    by_cases hi : b = i
    · subst hi
      rw [List.getElem?_set_self hlt] at e1
      cases e1
      exact (r.at_ b _ a hb e2).ad e ep
    · rw [List.getElem?_set_ne hi] at e1
      exact (r.at_ i b' a e1 e2).ad e ep
  · have e1 : (h.bs.set b (.lst lk' xs))[i]? = some b' := e1
    by_cases hi' : b = i
    · subst hi'
      rw [List.getElem?_set_self hlt] at e1
      cases e1
      exact (r.wf k hk b _ hi hb : belB k (.lst lk xs))
    · rw [List.getElem?_set_ne hi'] at e1
      exact r.wf k hk i b' hi e1
def lockMu (μ : Mu) : Option Nat → Mu
  | some b => (match μ.ad[b]? with
    | some a => { μ with lk := a :: μ.lk }
    | none => μ)
  | none => μ
theorem lockMu_ad {l : Option Nat} : (lockMu μ l).ad = μ.ad := by
  cases l with
  | none => rfl
  | some b => simp only [lockMu]; split <;> rfl
theorem lockMu_pr {l : Option Nat} : (lockMu μ l).pr = μ.pr := by
  cases l with
  | none => rfl
  | some b => simp only [lockMu]; split <;> rfl
theorem Rel.lock (r : Rel T μ h H) (l : Option Nat) (hl : ∀ b, l = some b → ∃ lk xs, h.bs[b]? = some (.lst lk xs)) : Rel T (lockMu μ l) (lockO l h) H := by
  cases l with
  | none => exact r
  | some b =>
    obtain ⟨lk, xs, hb⟩ := hl b rfl
    have hlt : b < h.bs.length := (List.getElem?_eq_some_iff.mp hb).1
    have ha : ∃ a, μ.ad[b]? = some a := ⟨_, List.getElem?_eq_getElem (by rw [r.len]; exact hlt)⟩
    obtain ⟨a, ha⟩ := ha
    have em : lockMu μ (some b) = { μ with lk := a :: μ.lk } := by simp only [lockMu, ha]
    have eh : lockO (some b) h = { h with bs := h.bs.set b (.lst true xs) } := by simp only [lockO, lockB, hb]
    rw [em, eh]
    refine r.flag hb rfl rfl rfl (fun a' ha' => ?_) (fun c ys a' f1 f1l f2 => ?_)
    rcases List.mem_cons.mp ha' with z | z
    · subst z
      exact ⟨b, _, ha, List.getElem?_set_self hlt, rfl⟩
    · obtain ⟨c, ys, e1, e2, e2l⟩ := r.lks a' z
      by_cases hc : b = c
      · subst hc
        exact ⟨b, _, e1, List.getElem?_set_self hlt, rfl⟩
      · exact ⟨c, ys, e1, by rw [List.getElem?_set_ne hc]; exact e2, e2l⟩
    · have f2' : μ.ad[c]? = some a' := f2
      by_cases hc : b = c
      · subst hc
        rw [ha] at f2'
        cases f2'
        exact List.mem_cons_self
      · rw [List.getElem?_set_ne hc] at f1
        exact List.mem_cons_of_mem _ (r.lkf c ys a' f1 f1l f2')
theorem Rel.unlock {μ1 : Mu} {H1 : Hp} (l : Option Nat) (hl : ∀ b, l = some b → ∃ a, μ1.ad[b]? = some a ∧ a ∉ μ1.lk ∧ ∃ vs, H1 a = some (.lst vs)) (s : Stp (lockMu μ1 l) H1 μ H) (r : Rel T μ h H) : Rel T { μ with lk := μ1.lk } (unlO l h) H ∧ Stp μ1 H1 { μ with lk := μ1.lk } H := by
  cases l with
  | none =>
    have s' : Stp μ1 H1 μ H := s
    have e : ({ μ with lk := μ1.lk } : Mu) = μ := by rw [← s'.lks]
    rw [e]
    exact ⟨r, s'⟩
  | some b =>
    obtain ⟨a, ha, na, ws, ha1⟩ := hl b rfl
    have em : lockMu μ1 (some b) = { μ1 with lk := a :: μ1.lk } := by simp only [lockMu, ha]
    rw [em] at s
    have hμ : μ.ad[b]? = some a := s.pre b a ha
    refine ⟨?_, ⟨s.fbe, s.pre, rfl, s.prs, s.prn, fun c o e1 e2 => s.keep' c o e1 ?_, s.new⟩⟩
    · have hm : a ∈ μ.lk := by rw [s.lks]; exact List.mem_cons_self
      obtain ⟨c, x, e1, e2', e2l⟩ := r.lks a hm
      have hH : H a = some (.lst ws) := s.keep' a _ ha1 (.inr List.mem_cons_self)
      have rb := r.at_ c x a e2' e1
      obtain ⟨xs, rfl⟩ : ∃ xs, x = .lst true xs := by
        cases x with
        | lst lk xs => cases (show lk = true from e2l); exact ⟨xs, rfl⟩
        | dct lk ks xs =>
          cases (show lk = true from e2l)
          obtain ⟨vs, q, _⟩ := rb
          obtain ⟨o, q⟩ : ∃ o, H a = some (.frz o (kvO ks vs)) := by simpa using q
          rw [hH] at q; cases q
        | dfz ks xs => cases e2l
        | obj c fs xs => cases e2l
        | tbl t => cases e2l
      have e2 : h.bs[c]? = some (.lst true xs) := e2'
      have hc : c = b := by
        obtain ⟨p1, q1⟩ := List.getElem?_eq_some_iff.mp hμ
        obtain ⟨p2, q2⟩ := List.getElem?_eq_some_iff.mp e1
        exact (List.getElem_inj (h₀ := p2) (h₁ := p1) r.nd).mp (q2.trans q1.symm)
      subst hc
      have eh : unlO (some c) h = { h with bs := h.bs.set c (.lst false xs) } := by simp only [unlO, unlB, e2]
      rw [eh]
      refine r.flag e2 rfl rfl rfl (fun a' ha' => ?_) (fun c' ys a' f1 f1l f2 => ?_)
      rotate_left
      · have f2' : μ.ad[c']? = some a' := f2
        by_cases hc : c = c'
        · subst hc
          rw [List.getElem?_set_self (List.getElem?_eq_some_iff.mp e2).1] at f1
          cases f1
          cases f1l
        · rw [List.getElem?_set_ne hc] at f1
          have hm2 := r.lkf c' ys a' f1 f1l f2'
          rw [s.lks] at hm2
          rcases List.mem_cons.mp hm2 with z | z
          · exfalso
            subst z
            obtain ⟨p1, q1⟩ := List.getElem?_eq_some_iff.mp hμ
            obtain ⟨p2, q2⟩ := List.getElem?_eq_some_iff.mp f2'
            exact hc ((List.getElem_inj (h₀ := p1) (h₁ := p2) r.nd).mp (q1.trans q2.symm))
          · exact z
      have ha2 : a' ∈ μ.lk := by rw [s.lks]; exact List.mem_cons_of_mem _ ha'
      obtain ⟨c', ys, f1, f2, f2l⟩ := r.lks a' ha2
      refine ⟨c', ys, f1, ?_, f2l⟩
      rw [List.getElem?_set_ne]
      · exact f2
      · intro z
        subst z
        rw [e1] at f1
        cases f1
        exact na ha'
    · rcases e2 with z | z
      · exact .inl z
      · exact .inr (List.mem_cons_of_mem _ z)
theorem OutS.unl {μ1 : Mu} {H1 : Hp} {D : Ends} {f : F} (l : Option Nat) (hl : ∀ b, l = some b → ∃ a, μ1.ad[b]? = some a ∧ a ∉ μ1.lk ∧ ∃ vs, H1 a = some (.lst vs)) (o : OutS T W μ1 H1 D (unlF l f)) : OutS T W (lockMu μ1 l) H1 D f := by
  cases f with
  | nx ρ h =>
    intro μ' H' σ' s r e
    obtain ⟨r', s'⟩ := Rel.unlock l hl s r
    exact o _ H' σ' s' r' (RepE.ad (μ := μ') (μ' := { μ' with lk := μ1.lk }) rfl rfl e)
  | bk ρ h =>
    intro μ' H' σ' s r e
    obtain ⟨r', s'⟩ := Rel.unlock l hl s r
    exact o _ H' σ' s' r' (RepE.ad (μ := μ') (μ' := { μ' with lk := μ1.lk }) rfl rfl e)
  | ct ρ h =>
    intro μ' H' σ' s r e
    obtain ⟨r', s'⟩ := Rel.unlock l hl s r
    exact o _ H' σ' s' r' (RepE.ad (μ := μ') (μ' := { μ' with lk := μ1.lk }) rfl rfl e)
  | rt d h =>
    intro μ' H' v s r e
    obtain ⟨r', s'⟩ := Rel.unlock l hl s r
    exact o _ H' v s' r' (Rep.ad (μ := μ') (μ' := { μ' with lk := μ1.lk }) rfl rfl _ _ e)
  | ex x ρ h =>
    intro μ' H' σ' cls d s r e q
    obtain ⟨r', s'⟩ := Rel.unlock l hl s r
    exact o _ H' σ' cls d s' r' (RepE.ad (μ := μ') (μ' := { μ' with lk := μ1.lk }) rfl rfl e) (RepX.ad (μ := μ') (μ' := { μ' with lk := μ1.lk }) rfl rfl q)
  | no => exact o
theorem OutV.unl {μ1 : Mu} {H1 : Hp} {Q : VK} {f : R D} (l : Option Nat) (hl : ∀ b, l = some b → ∃ a, μ1.ad[b]? = some a ∧ a ∉ μ1.lk ∧ ∃ vs, H1 a = some (.lst vs)) (o : OutV T W σ μ1 H1 Q (unlR l f)) : OutV T W σ (lockMu μ1 l) H1 Q f := by
  cases f with
  | ok d h =>
    intro μ' H' v s r e
    obtain ⟨r', s'⟩ := Rel.unlock l hl s r
    exact o _ H' v s' r' (Rep.ad (μ := μ') (μ' := { μ' with lk := μ1.lk }) rfl rfl _ _ e)
  | ex x h =>
    intro μ' H' cls d s r q
    obtain ⟨r', s'⟩ := Rel.unlock l hl s r
    exact o _ H' cls d s' r' (RepX.ad (μ := μ') (μ' := { μ' with lk := μ1.lk }) rfl rfl q)
  | no => exact o
end
end VI
end
section
namespace VI
open PySem PySem.Spec PyProof.Rows L2
structure Stx (E : Addr → Prop) (μ : Mu) (H : Hp) (μ' : Mu) (H' : Hp) : Prop where
  fbe : μ'.fb = μ.fb
  pre : ∀ (i : Nat) (a : Addr), μ.ad[i]? = some a → μ'.ad[i]? = some a
  lks : μ'.lk = μ.lk
  prs : ∀ a ∈ μ.pr, a ∈ μ'.pr
  prn : ∀ a ∈ μ'.pr, a ∈ μ.pr ∨ a ∈ μ.ad ∨ H a = none
  keep' : ∀ a o, H a = some o → (a ∉ μ.ad ∨ a ∈ μ.lk) → ¬ E a → H' a = some o
  new : ∀ p, p ∈ μ'.ad → p ∈ μ.ad ∨ H p = none
  al : ∀ a, E a → ∃ o, H' a = some o
section
variable {T : Tb} {μ μ' μ'' : Mu} {H H' H'' : Hp} {E : Addr → Prop}
theorem Stp.x0 (s : Stp μ H μ' H') : Stx (fun _ => False) μ H μ' H' := ⟨s.fbe, s.pre, s.lks, s.prs, s.prn, fun a o e n _ => s.keep' a o e n, s.new, fun _ z => z.elim⟩
theorem Stx.p (s : Stx (fun _ => False) μ H μ' H') : Stp μ H μ' H' := ⟨s.fbe, s.pre, s.lks, s.prs, s.prn, fun a o e n => s.keep' a o e n id, s.new⟩
theorem Stx.keepN (s : Stx E μ H μ' H') (hE : ∀ a, E a → a ∈ μ.pr) {a : Addr} {o : HO} (h : H a = some o) (n : μ.no a) : H' a = some o := s.keep' a o h (.inl n.1) fun z => n.2 (hE a z)
theorem Stx.not (s : Stx E μ H μ' H') {a : Addr} {o : HO} (h : H a = some o) (n : μ.no a) : μ'.no a := by
  refine ⟨fun hm => ?_, fun hm => ?_⟩
  · rcases s.new a hm with z | z
    · exact n.1 z
    · rw [z] at h; cases h
  · rcases s.prn a hm with z | z | z
    · exact n.2 z
    · exact n.1 z
    · rw [z] at h; cases h
theorem Stx.fl {K : PySem.W.Frag} (s : Stx E μ H μ' H') (hE : ∀ a, E a → a ∈ μ.pr) {a : Addr} {xs : List V} (h : FzL K μ H a xs) : FzL K μ' H' a xs := by
  rcases h with ⟨r, n⟩ | h
  · obtain ⟨o, e⟩ := Rd.some r
    refine .inl ⟨?_, s.not e n⟩
    rcases r with r | ⟨o, r⟩
    · exact .inl (s.keepN hE r n)
    · exact .inr ⟨o, s.keepN hE r n⟩
  · exact .inr h
mutual
theorem Rep.stepx (s : Stx E μ H μ' H') (hE : ∀ a, E a → a ∈ μ.pr) : ∀ (d : D) (v : V), Rep T μ H d v → Rep T μ' H' d v
  | .non, v, h => by simpa [Rep] using h
  | .bl b, v, h => by simpa [Rep] using h
  | .int i, v, h => by simpa [Rep] using h
  | .str x, v, h => by simpa [Rep] using h
  | .tup xs, v, h => by
    simp only [Rep] at h ⊢
    obtain ⟨a, vs, e, f, n, r⟩ := h
    exact ⟨a, vs, e, s.keepN hE f n, s.not f n, Reps.stepx s hE xs vs r⟩
  | .tpl xs, v, h => by
    simp only [Rep] at h ⊢
    obtain ⟨a, o, vs, e, f, c, n, r⟩ := h
    exact ⟨a, o, vs, e, s.keepN hE f n, c, s.not f n, Reps.stepx s hE xs vs r⟩
  | .lst xs, v, h => by
    simp only [Rep] at h ⊢
    obtain ⟨a, vs, e, f, n, r⟩ := h
    exact ⟨a, vs, e, s.keepN hE f n, s.not f n, Reps.stepx s hE xs vs r⟩
  | .dct ks xs, v, h => by
    simp only [Rep] at h ⊢
    obtain ⟨a, o, vs, e, f, n, l, r⟩ := h
    exact ⟨a, o, vs, e, s.keepN hE f n, s.not f n, l, Reps.stepx s hE xs vs r⟩
  | .obj c fs xs, v, h => by
    simp only [Rep] at h ⊢
    obtain ⟨a, C, dx, vs, e, ec, f, n, l, r⟩ := h
    exact ⟨a, C, dx, vs, e, ec, s.keepN hE f n, s.not f n, l, Reps.stepx s hE xs vs r⟩
  | .exo c fs xs, v, h => by
    simp only [Rep] at h ⊢
    obtain ⟨a, C, o, us, vs, e, ec, f, eo, n, x, l, r⟩ := h
    exact ⟨a, C, o, us, vs, e, ec, s.keepN hE f n, eo, s.not f n, x.imp fun dx u z m => ⟨s.keepN hE z m, s.not z m⟩, l, Reps.stepx s hE xs vs r⟩
  | .ref b, v, h => by
    simp only [Rep] at h ⊢
    obtain ⟨a, e, e2⟩ := h
    exact ⟨a, s.pre _ _ e, e2⟩
  | .scr ns, v, h => by
    simp only [Rep] at h ⊢
    obtain ⟨a, e, f⟩ := h
    exact ⟨a, e, s.fl hE f⟩
theorem Reps.stepx (s : Stx E μ H μ' H') (hE : ∀ a, E a → a ∈ μ.pr) : ∀ (d : List D) (v : List V), Reps T μ H d v → Reps T μ' H' d v
  | [], v, h => by simpa [Reps] using h
  | x :: xs, v, h => by
    simp only [Reps] at h ⊢
    obtain ⟨w, r, e, h1, h2⟩ := h
    exact ⟨w, r, e, Rep.stepx s hE x w h1, Reps.stepx s hE xs r h2⟩
end
theorem RepE.stepx (s : Stx E μ H μ' H') (hE : ∀ a, E a → a ∈ μ.pr) {ρ : Ev} {σ : Sg} (h : RepE T μ H ρ σ) : RepE T μ' H' ρ σ := ⟨h.1, fun i d e => by
  obtain ⟨v, e1, r⟩ := h.2 i d e
  exact ⟨v, e1, Rep.stepx s hE d v r⟩⟩
theorem Stx.trans (s : Stx E μ H μ' H') (hE : ∀ a, E a → a ∈ μ.pr ∧ a ∉ μ.ad ∧ ∃ o, H a = some o) (t : Stp μ' H' μ'' H'') : Stx E μ H μ'' H'' := by
  have nad : ∀ a, a ∉ μ.ad → (∃ o, H a = some o) → a ∉ μ'.ad := fun a h1 ⟨o, h2⟩ z => by
    rcases s.new a z with q | q
    · exact h1 q
    · rw [q] at h2; cases h2
  refine ⟨t.fbe.trans s.fbe, fun i a h => t.pre i a (s.pre i a h), t.lks.trans s.lks, fun a h => t.prs a (s.prs a h), fun a h => ?_, fun a o h n ne => ?_, fun p hp => ?_, fun a h => ?_⟩
  · rcases t.prn a h with z | z | z
    · exact s.prn a z
    · exact .inr (s.new a z)
    · by_cases hm : a ∈ μ.ad
      · exact .inr (.inl hm)
      · by_cases he : E a
        · exact .inl (hE a he).1
        · cases e : H a with
          | none => exact .inr (.inr rfl)
          | some o => have := s.keep' a o e (.inl hm) he; rw [z] at this; cases this
  · refine t.keep' a o (s.keep' a o h n ne) ?_
    rcases n with n | n
    · exact .inl (nad a n ⟨o, h⟩)
    · exact .inr (by rw [s.lks]; exact n)
  · rcases t.new p hp with z | z
    · exact s.new p z
    · by_cases hm : p ∈ μ.ad
      · exact .inl hm
      · cases e : H p with
        | none => exact .inr rfl
        | some o =>
          by_cases he : E p
          · obtain ⟨u, hu⟩ := s.al p he; rw [z] at hu; cases hu
          · have := s.keep' p o e (.inl hm) he; rw [z] at this; cases this
  · obtain ⟨u, hu⟩ := s.al a h
    exact ⟨u, t.keep' a u hu (.inl (nad a (hE a h).2.1 (hE a h).2.2))⟩
theorem Stx.put {D : Addr} {o : HO} (s : Stx (· = D) μ H μ' H') : Stx (· = D) μ H μ' (upd H' D o) :=
  ⟨s.fbe, s.pre, s.lks, s.prs, s.prn, fun a u h n ne => by rw [upd_ne ne]; exact s.keep' a u h n ne, s.new, fun a h => ⟨o, by cases h; exact upd_same⟩⟩
theorem Stx.one {D : Addr} {o : HO} (h : H D = some o) : Stx (· = D) μ H μ H := ⟨rfl, fun _ _ z => z, rfl, fun _ z => z, fun _ z => .inl z, fun _ _ z _ _ => z, fun _ z => .inl z, fun a e => ⟨o, by cases e; exact h⟩⟩
theorem Stp.thenx {D : Addr} {μ0 : Mu} {H0 : Hp} (s : Stp μ0 H0 μ H) (hD : H0 D = none) (hx : D ∈ μ.pr) (t : Stx (· = D) μ H μ' H') : Stp μ0 H0 μ' H' := by
  refine ⟨t.fbe.trans s.fbe, fun i a h => t.pre i a (s.pre i a h), t.lks.trans s.lks, fun a h => t.prs a (s.prs a h), fun a h => ?_, fun a o h n => ?_, fun p hp => ?_⟩
  · rcases t.prn a h with z | z | z
    · exact s.prn a z
    · exact .inr (s.new a z)
    · by_cases hm : a ∈ μ0.ad
      · exact .inr (.inl hm)
      · cases e : H0 a with
        | none => exact .inr (.inr rfl)
        | some o => have := s.keep a o e hm; rw [z] at this; cases this
  · have ne : a ≠ D := ne_of_none h hD
    refine t.keep' a o (s.keep' a o h n) ?_ ne
    rcases n with n | n
    · refine .inl fun z => ?_
      rcases s.new a z with q | q
      · exact n q
      · rw [q] at h; cases h
    · exact .inr (by rw [s.lks]; exact n)
  · rcases t.new p hp with z | z
    · exact s.new p z
    · by_cases hm : p ∈ μ0.ad
      · exact .inl hm
      · cases e : H0 p with
        | none => exact .inr rfl
        | some o => have := s.keep p o e hm; rw [z] at this; cases this
open Classical in
theorem Rel.unlockx {E : Addr → Prop} {h : Bs} {μ1 : Mu} {H1 : Hp} (l : Option Nat) (hl : ∀ b, l = some b → ∃ a, μ1.ad[b]? = some a ∧ a ∉ μ1.lk ∧ ∃ vs, H1 a = some (.lst vs)) (hE : ∀ a ∈ μ1.ad, ¬ E a) (s : Stx E (lockMu μ1 l) H1 μ H) (r : Rel T μ h H) : Rel T { μ with lk := μ1.lk } (unlO l h) H ∧ Stx E μ1 H1 { μ with lk := μ1.lk } H := by
  have sp : Stp (lockMu μ1 l) (fun a => if E a then none else H1 a) μ H := ⟨s.fbe, s.pre, s.lks, s.prs, fun a h => by
      rcases s.prn a h with z | z | z
      · exact .inl z
      · exact .inr (.inl z)
      · exact .inr (.inr (by show (if E _ then none else _) = none; split <;> first | rfl | exact z)), fun a o h n => by
      by_cases he : E a
      · rw [if_pos he] at h; cases h
      · rw [if_neg he] at h; exact s.keep' a o h n he, fun p hp => by
      rcases s.new p hp with z | z
      · exact .inl z
      · exact .inr (by show (if E _ then none else _) = none; split <;> first | rfl | exact z)⟩
  obtain ⟨h1, h2⟩ := Rel.unlock l (fun b z => by
    obtain ⟨a, e1, e2, vs, e3⟩ := hl b z
    exact ⟨a, e1, e2, vs, by rw [if_neg (hE a (List.mem_of_getElem? e1))]; exact e3⟩) sp r
  refine ⟨h1, h2.fbe, h2.pre, h2.lks, h2.prs, fun a h => ?_, fun a o h n ne => ?_, fun p hp => ?_, s.al⟩
  · have := s.prn a h
    rw [lockMu_pr, lockMu_ad] at this
    exact this
  · exact h2.keep' a o (by rw [if_neg ne]; exact h) n
  · have := s.new p hp
    rw [lockMu_ad] at this
    exact this
end
end VI
end
section
namespace VI
open PySem PySem.Spec PyProof.Rows L2
abbrev Iu := List VI.D × Option Nat
abbrev SI := Ev → Bs → R Iu
structure Wk (T : Tb) (J : It) (items : List VI.D) (μL : Mu) (H1 : Hp) : Prop where
  goesx : ∀ (E : Addr → Prop) i μ H, (∀ a, E a → a ∈ μL.pr) → i < items.length → Stx E μL H1 μ H → J.go i H
  stopsx : ∀ (E : Addr → Prop) μ H, (∀ a, E a → a ∈ μL.pr) → Stx E μL H1 μ H → J.stop items.length H
  yieldsx : ∀ (E : Addr → Prop) i μ H h x H', (∀ a, E a → a ∈ μL.pr) → i < items.length → Stx E μL H1 μ H → Rel T μ h H → J.yld i H x H' → ∃ d, items[i]? = some d ∧ Stp μ H μ H' ∧ Rel T μ h H' ∧ Rep T μ H' d x
theorem Wk.goes {T : Tb} {J : It} {items : List VI.D} {μL : Mu} {H1 : Hp} (w : Wk T J items μL H1) (i : Nat) (μ : Mu) (H : Hp) (hi : i < items.length) (s : Stp μL H1 μ H) : J.go i H := w.goesx _ i μ H (fun _ z => z.elim) hi s.x0
theorem Wk.stops {T : Tb} {J : It} {items : List VI.D} {μL : Mu} {H1 : Hp} (w : Wk T J items μL H1) (μ : Mu) (H : Hp) (s : Stp μL H1 μ H) : J.stop items.length H := w.stopsx _ μ H (fun _ z => z.elim) s.x0
theorem Wk.yields {T : Tb} {J : It} {items : List VI.D} {μL : Mu} {H1 : Hp} (w : Wk T J items μL H1) (i : Nat) (μ : Mu) (H : Hp) (h : Bs) (x : V) (H' : Hp) (hi : i < items.length) (s : Stp μL H1 μ H) (r : Rel T μ h H) (y : J.yld i H x H') : ∃ d, items[i]? = some d ∧ Stp μ H μ H' ∧ Rel T μ h H' ∧ Rep T μ H' d x := w.yieldsx _ i μ H h x H' (fun _ z => z.elim) hi s.x0 r y
def Stays (μ : Mu) (H : Hp) (P : Hp → Prop) : Prop := ∀ (E : Addr → Prop) μ' H', (∀ a, E a → a ∈ μ.pr) → Stx E μ H μ' H' → P H'
def Lkb (μ : Mu) (h : Bs) (l : Option Nat) : Prop := ∀ b, l = some b → (∃ a, μ.ad[b]? = some a ∧ a ∉ μ.lk) ∧ ∃ lk xs, h.bs[b]? = some (.lst lk xs)
theorem Lkb.low {T : Tb} {μ : Mu} {h : Bs} {H : Hp} {l : Option Nat} (k : Lkb μ h l) (r : Rel T μ h H) : ∀ b, l = some b → ∃ a, μ.ad[b]? = some a ∧ a ∉ μ.lk ∧ ∃ vs, H a = some (.lst vs) := fun b z => by
  obtain ⟨⟨a, e1, e2⟩, lk, xs, e3⟩ := k b z
  obtain ⟨vs, e4, _⟩ := r.at_ b _ a e3 e1
  exact ⟨a, e1, e2, vs, e4⟩
def OutI (T : Tb) (W : WX) (σ : Sg) (μ : Mu) (H : Hp) (Q : It → Hp → Prop) : R Iu → Prop
  | .ok d h' => ∀ μ' H' J, Stp μ H μ' H' → Rel T μ' h' H' → Lkb μ' h' d.2 → Wk T J d.1 (lockMu μ' d.2) H' → Q J H'
  | .ex x h' => ∀ μ' H' cls d, Stp μ H μ' H' → Rel T μ' h' H' → RepX T μ' H' x cls d → W cls d σ H'
  | .no => False
def tI' (T : Tb) (W : WX) (s : SI) : TI := fun σ H Q => ∃ μ ρ h, Rel T μ h H ∧ RepE T μ H ρ σ ∧ OutI T W σ μ H Q (s ρ h)
section
variable {X : Cx} {T : Tb} {W : WX} {μ μ' : Mu} {H H' : Hp} {h : Bs} {σ : Sg} {ρ : Ev} {tg : Expr}
theorem OutI.step {Q : It → Hp → Prop} {r : R Iu} (o : OutI T W σ μ H Q r) (s : Stp μ H μ' H') : OutI T W σ μ' H' Q r := by
  cases r with
  | ok d h => exact fun μ2 H2 J s2 => o μ2 H2 J (s.trans s2)
  | ex x h => exact fun μ2 H2 c d s2 => o μ2 H2 c d (s.trans s2)
  | no => exact o
theorem OutI.bindV {Q : It → Hp → Prop} {r : R VI.D} {f : VI.D → Bs → R Iu} (o : OutI T W σ μ H Q (r.bind f)) :
    OutV T W σ μ H (fun v H1 => ∃ μ1 d h1, Stp μ H μ1 H1 ∧ Rel T μ1 h1 H1 ∧ Rep T μ1 H1 d v ∧ OutI T W σ μ1 H1 Q (f d h1)) r := by
  cases r with
  | ok d h => exact fun μ1 H1 v s r1 rv => ⟨μ1, d, h, s, r1, rv, OutI.step o s⟩
  | ex x h => exact o
  | no => exact o
theorem OutI.bindA {Q : It → Hp → Prop} {r : R (List VI.D)} {f : List VI.D → Bs → R Iu} (o : OutI T W σ μ H Q (r.bind f)) :
    OutA T W σ μ H (fun v H1 => ∃ μ1 d h1, Stp μ H μ1 H1 ∧ Rel T μ1 h1 H1 ∧ Reps T μ1 H1 d v ∧ OutI T W σ μ1 H1 Q (f d h1)) r := by
  cases r with
  | ok d h => exact fun μ1 H1 v s r1 rv => ⟨μ1, d, h, s, r1, rv, OutI.step o s⟩
  | ex x h => exact o
  | no => exact o
theorem PI.imp {e : Expr} {t t' : TI} (h : PI X tg e t) (i : ∀ σ H Q, t' σ H Q → t σ H Q) : PI X tg e t' := ⟨fun pins s σ H Q I w => h.run pins s σ H Q I (i σ H Q w)⟩
theorem PI.or {e : Expr} {t t' : TI} (h : PI X tg e t) (h' : PI X tg e t') : PI X tg e (fun σ H Q => t σ H Q ∨ t' σ H Q) := ⟨fun pins s σ H Q I w => by
  rcases w with w | w
  · exact h.run pins s σ H Q I w
  · exact h'.run pins s σ H Q I w⟩
def itSeq (d : VI.D) (h : Bs) : R Iu := match d with
  | .tup xs => .ok (xs, none) h
  | .tpl xs => .ok (xs, none) h
  | .lst xs => .ok (xs, none) h
  | .scr ns => .ok (ns.map .int, none) h
  | .ref b => (match h.bs[b]? with
    | some (.lst false xs) => .ok (xs, some b) h
    | some (.lst true xs) => .ok (xs, none) h
    | _ => .no)
  | _ => .no
def isTupD : VI.D → Bool
  | .tup _ => true
  | .tpl _ => true
  | _ => false
def siSeq (s : SV) : SI := fun ρ h => (s ρ h).bind itSeq
theorem wk_list {a : Addr} {xs : List VI.D} {vs : List V} {μ1 : Mu} (q : Reps T μ1 H xs vs) (hs : Stays μ1 H fun H' => SqL T.K H' a vs) : Wk T (Itl T.K a) xs μ1 H := by
  have wk := walk_list (K := T.K) (a := a) (xs := vs)
  refine ⟨fun E i μ' H' hE hi s => wk.goes i H' (by rw [← q.length]; exact hi) (hs E μ' H' hE s), fun E μ' H' hE s => by rw [q.length]; exact wk.stops H' (hs E μ' H' hE s), fun E i μ' H' h x H'' hE hi s r y => ?_⟩
  obtain ⟨e1, e2⟩ := wk.yields i H' x H'' (by rw [← q.length]; exact hi) (hs E μ' H' hE s) y
  subst e1
  have hd : xs[i]? = some xs[i] := List.getElem?_eq_getElem hi
  obtain ⟨v, e3, rv⟩ := q.get hd
  rw [e2] at e3
  cases e3
  exact ⟨_, hd, Stp.refl, r, Rep.stepx s hE _ _ rv⟩
theorem wk_tup {a : Addr} {xs : List VI.D} {vs : List V} {μ1 : Mu} (q : Reps T μ1 H xs vs) (hs : Stays μ1 H fun H' => SqT T.K H' a vs) : Wk T (Itt T.K a) xs μ1 H := by
  have wk := walk_tup (K := T.K) (a := a) (xs := vs)
  refine ⟨fun E i μ' H' hE hi s => wk.goes i H' (by rw [← q.length]; exact hi) (hs E μ' H' hE s), fun E μ' H' hE s => by rw [q.length]; exact wk.stops H' (hs E μ' H' hE s), fun E i μ' H' h x H'' hE hi s r y => ?_⟩
  obtain ⟨e1, e2⟩ := wk.yields i H' x H'' (by rw [← q.length]; exact hi) (hs E μ' H' hE s) y
  subst e1
  have hd : xs[i]? = some xs[i] := List.getElem?_eq_getElem hi
  obtain ⟨v, e3, rv⟩ := q.get hd
  rw [e2] at e3
  cases e3
  exact ⟨_, hd, Stp.refl, r, Rep.stepx s hE _ _ rv⟩
theorem seq_stays {d : VI.D} {v : V} {xs : List VI.D} {l : Option Nat} {h' : Bs} (r : Rel T μ h H) (rv : Rep T μ H d v) (e : itSeq d h = .ok (xs, l) h') :
    h' = h ∧ Lkb μ h l ∧ ∃ a vs, v = .ref a ∧ Reps T μ H xs vs ∧ ((isTupD d = false ∧ SqL T.K H a vs ∧ Stays (lockMu μ l) H fun H' => SqL T.K H' a vs) ∨ (isTupD d = true ∧ SqT T.K H a vs ∧ Stays (lockMu μ l) H fun H' => SqT T.K H' a vs)) := by
  have nl : Lkb μ h none := fun b z => by cases z
  cases d with
  | tup ys =>
    simp only [itSeq] at e; cases e
    obtain ⟨a, vs, e1, e2, e3, e4⟩ := rv.tupOf
    exact ⟨rfl, nl, a, vs, e1, e4, .inr ⟨rfl, SqT.of e2, fun E μ' H' hE s => SqT.of (s.keepN hE e2 e3)⟩⟩
  | tpl ys =>
    simp only [itSeq] at e; cases e
    obtain ⟨a, o, vs, e1, e2, _, e3, e4⟩ := rv.tplOf
    exact ⟨rfl, nl, a, vs, e1, e4, .inr ⟨rfl, SqT.fz e2, fun E μ' H' hE s => SqT.fz (s.keepN hE e2 e3)⟩⟩
  | lst ys =>
    simp only [itSeq] at e; cases e
    simp only [Rep] at rv
    obtain ⟨a, vs, e1, e2, e3, e4⟩ := rv
    exact ⟨rfl, nl, a, vs, e1, e4, .inl ⟨rfl, SqL.of e2, fun E μ' H' hE s => SqL.of (s.keepN hE e2 e3)⟩⟩
  | scr ns =>
    simp only [itSeq] at e; cases e
    simp only [Rep] at rv
    obtain ⟨a, e1, e2⟩ := rv
    exact ⟨rfl, nl, a, _, e1, Reps.ints ns, .inl ⟨rfl, e2.sq, fun E μ' H' hE s => (s.fl hE e2).sq⟩⟩
  | ref b =>
    simp only [itSeq] at e
    split at e
    · rename_i ys hb
      cases e
      obtain ⟨a, vs, e1, e2, e3, e4⟩ := r.boxAt hb rv
      have nk : a ∉ μ.lk := r.free e1 fun z e => by rw [hb] at e; cases e; rfl
      refine ⟨rfl, fun c z => by cases z; exact ⟨⟨a, e1, nk⟩, _, _, hb⟩, a, vs, e2, e4, .inl ⟨rfl, SqL.of e3, fun E μ' H' hE s => SqL.of (s.keep' a _ e3 (.inr ?_) fun z => (r.prh a (by have := hE a z; rwa [lockMu_pr] at this)).2 (List.mem_of_getElem? e1))⟩⟩
      simp only [lockMu, e1]
      exact List.mem_cons_self
    · rename_i ys hb
      cases e
      obtain ⟨a, vs, e1, e2, e3, e4⟩ := r.boxAt hb rv
      exact ⟨rfl, nl, a, vs, e2, e4, .inl ⟨rfl, SqL.of e3, fun E μ' H' hE s => SqL.of (s.keep' a _ e3 (.inr (r.lkf _ _ a hb rfl e1)) fun z => (r.prh a (hE a z)).2 (List.mem_of_getElem? e1))⟩⟩
    · cases e
  | _ => simp [itSeq] at e
theorem itSeq_calm {d : VI.D} {x : Ex} {h' : Bs} : itSeq d h ≠ .ex x h' := by
  intro e
  unfold itSeq at e
  repeat' split at e
  all_goals cases e
theorem lockMu_reps {l : Option Nat} {xs : List VI.D} {vs : List V} (q : Reps T μ H xs vs) : Reps T (lockMu μ l) H xs vs := Reps.ad lockMu_ad lockMu_pr _ _ q
theorem piv_seq {e : Expr} {s : SV} (hK : X.K = T.K) (he : PE X e (tV T W s)) : PI X tg e (tI' T W (siSeq s)) :=
  PI.imp (PI.or (pi_list he) (pi_tup he)) fun σ H Q ⟨μ, ρ, h, r, e, o⟩ => by
    unfold siSeq at o
    cases q : s ρ h with
    | no => rw [q] at o; exact o.elim
    | ex x h1 => rw [q] at o; exact .inl ⟨μ, ρ, h, r, e, by rw [q]; exact o⟩
    | ok d h1 =>
      rw [q] at o
      simp only [R.bind] at o
      cases q2 : itSeq d h1 with
      | no => rw [q2] at o; exact o.elim
      | ex x h2 => exact absurd q2 itSeq_calm
      | ok u h2 =>
        obtain ⟨xs, l⟩ := u
        rw [q2] at o
        cases ht : isTupD d with
        | true =>
          refine .inr ⟨μ, ρ, h, r, e, ?_⟩
          rw [q]
          intro μ1 H1 v s1 r1 rv
          obtain ⟨rfl, nl, a, vs, e1, e4, e5⟩ := seq_stays r1 rv q2
          rcases e5 with ⟨z, _⟩ | ⟨_, e5, e6⟩
          · rw [ht] at z; cases z
          · refine ⟨a, e1, ⟨vs, by rw [hK]; exact e5⟩, ?_⟩
            rw [hK]
            exact o μ1 H1 _ s1 r1 nl (wk_tup (lockMu_reps e4) e6)
        | false =>
          refine .inl ⟨μ, ρ, h, r, e, ?_⟩
          rw [q]
          intro μ1 H1 v s1 r1 rv
          obtain ⟨rfl, nl, a, vs, e1, e4, e5⟩ := seq_stays r1 rv q2
          rcases e5 with ⟨_, e5, e6⟩ | ⟨z, _⟩
          · refine ⟨a, e1, ⟨vs, by rw [hK]; exact e5⟩, ?_⟩
            rw [hK]
            exact o μ1 H1 _ s1 r1 nl (wk_list (lockMu_reps e4) e6)
          · rw [ht] at z; cases z
def rngItems (lo : Int) (n : Nat) : List VI.D := (List.range n).map fun (i : Nat) => .int (lo + (i : Int))
theorem wk_range {lo : Int} {n : Nat} {μ1 : Mu} : Wk T (Itr lo n) (rngItems lo n) μ1 H := by
  have wk := walk_range (lo := lo) (n := n)
  have hl : (rngItems lo n).length = n := by simp [rngItems]
  refine ⟨fun E i μ' H' hE hi s => wk.goes i H' (by rw [hl] at hi; exact hi) trivial, fun E μ' H' hE s => by rw [hl]; exact wk.stops H' trivial, fun E i μ' H' h x H'' hE hi s r y => ?_⟩
  rw [hl] at hi
  obtain ⟨e1, e2⟩ := wk.yields i H' x H'' hi trivial y
  subst e1
  exact ⟨.int (lo + i), by simp [rngItems, hi], Stp.refl, r, by rw [e2]; exact rep_int rfl⟩
def itRng1 (ds : List VI.D) (h : Bs) : R Iu := match ds with
  | [.int j] => if -(2 ^ 62) ≤ j ∧ j < 2 ^ 62 then .ok (rngItems 0 j.toNat, none) h else .no
  | _ => .no
def itRng2 (ds : List VI.D) (h : Bs) : R Iu := match ds with
  | [.int i, .int j] => if -(2 ^ 62) ≤ i ∧ i < 2 ^ 62 ∧ -(2 ^ 62) ≤ j ∧ j < 2 ^ 62 then .ok (rngItems i (j - i).toNat, none) h else .no
  | _ => .no
def siArg (f : List VI.D → Bs → R Iu) (sa : SA) : SI := fun ρ h => (sa ρ h).bind f
theorem OutI.nolk {Q : It → Hp → Prop} {items : List VI.D} {J : It} (r : Rel T μ h H) (o : OutI T W σ μ H Q (.ok (items, none) h)) (wk : Wk T J items μ H) : Q J H := o μ H J Stp.refl r (fun b z => by cases z) wk
theorem piv_range1 {a : Expr} {p pos : Pos} {sa : SA} (hg : Gl X "range") (hm : X.mg "range" = none) (hs : PySem.W.isStarred a = false) (ha : PA X [a] (tA' T W sa)) : PI X tg (.Call (.Name "range" p) [a] [] pos) (tI' T W (siArg itRng1 sa)) :=
  PI.imp (pi_range1 hg hm ha (by rw [star_no hs]; rfl)) fun σ H Q ⟨μ, ρ, h, r, e, o⟩ => by
    refine ⟨μ, ρ, h, r, e, OutA.mono (OutI.bindA o) ?_⟩
    rintro v H1 ⟨μ1, ds, h1, s1, r1, rv, o1⟩
    unfold itRng1 at o1
    split at o1
    · split at o1
      · rename_i hb
        obtain ⟨w, rfl, rw'⟩ := rv.is1
        simp only [Rep] at rw'
        subst rw'
        exact ⟨_, rfl, hb.1, hb.2, o1.nolk r1 wk_range⟩
      · exact o1.elim
    · exact o1.elim
theorem piv_range2 {a b : Expr} {p pos : Pos} {sa : SA} (hg : Gl X "range") (hm : X.mg "range" = none) (hs : PySem.W.isStarred a = false) (hs2 : PySem.W.isStarred b = false) (ha : PA X [a, b] (tA' T W sa)) : PI X tg (.Call (.Name "range" p) [a, b] [] pos) (tI' T W (siArg itRng2 sa)) :=
  PI.imp (pi_range2 hg hm ha (by rw [star_no hs, star_no hs2]; rfl) (by rw [star_no hs2]; rfl)) fun σ H Q ⟨μ, ρ, h, r, e, o⟩ => by
    refine ⟨μ, ρ, h, r, e, OutA.mono (OutI.bindA o) ?_⟩
    rintro v H1 ⟨μ1, ds, h1, s1, r1, rv, o1⟩
    unfold itRng2 at o1
    split at o1
    · split at o1
      · rename_i hb
        obtain ⟨w, w2, rfl, rw', rw2⟩ := rv.is2
        simp only [Rep] at rw' rw2
        subst rw' rw2
        exact ⟨_, _, rfl, hb, o1.nolk r1 wk_range⟩
      · exact o1.elim
    · exact o1.elim
def loopS (g : SG) (body : SS) : List VI.D → Ev → Bs → F
  | [], ρ, h => .nx ρ h
  | d :: ds, ρ, h => match g d ρ h with
    | .ok ρ1 h1 => (match body ρ1 h1 with
      | .nx ρ2 h2 => loopS g body ds ρ2 h2
      | .ct ρ2 h2 => loopS g body ds ρ2 h2
      | .bk ρ2 h2 => .nx ρ2 h2
      | f => f)
    | _ => .no
def ssFor (it : SI) (g : SG) (body : SS) : SS := fun ρ h => (it ρ h).toF ρ fun u h1 => unlF u.2 (loopS g body u.1 ρ (lockO u.2 h1))
theorem OutS.ofI {D : Ends} {r : R Iu} {k : Iu → Bs → F} (e : RepE T μ H ρ σ) (o : OutS T W μ H D (r.toF ρ k)) (Q : It → Hp → Prop)
    (hk : ∀ u h1 μ1 H1 J, r = .ok u h1 → Stp μ H μ1 H1 → Rel T μ1 h1 H1 → RepE T μ1 H1 ρ σ → Lkb μ1 h1 u.2 → Wk T J u.1 (lockMu μ1 u.2) H1 → OutS T W μ1 H1 D (k u h1) → Q J H1) : OutI T W σ μ H Q r := by
  cases r with
  | ok u h => exact fun μ1 H1 J s r1 l w => hk u h μ1 H1 J rfl s r1 (e.step s) l w (OutS.step o s)
  | ex x h => exact fun μ1 H1 c d s r1 rx => o μ1 H1 σ c d s r1 (e.step s) rx
  | no => exact o
theorem loop_imp {own : List Nat} {g : SG} {body : SS} {D : Ends} {J : It} {items : List VI.D} {μL : Mu} {H1 : Hp} {h1 : Bs} (wk : Wk T J items μL H1) (r1 : Rel T μL h1 H1) (e1 : RepE T μL H1 ρ σ) (o : OutS T W μL H1 D (loopS g body items ρ h1)) :
    ∃ Wv : Nat → Nat → Sg → Hp → Prop, (∃ m, Wv 0 m σ H1) ∧ ∀ i m σ H, Wv i m σ H →
      (J.stop i H ∧ D.nx σ H) ∨ (J.go i H ∧ ∃ N : Sg → Hp → Prop, (∀ σ' H', N σ' H' → ∃ m', m' < m ∧ Wv (i + 1) m' σ' H') ∧ ∀ x H', J.yld i H x H' → tG' T own g x σ H' fun σ2 H2 => tS' T W body { D with nx := N, ct := N, bk := D.nx } σ2 H2) := by
  let P : Nat → Sg → Hp → Prop := fun i σ H => ∃ μ ρ h, Stp μL H1 μ H ∧ Rel T μ h H ∧ RepE T μ H ρ σ ∧ OutS T W μ H D (loopS g body (items.drop i) ρ h)
  refine ⟨fun i m σ H => m = items.length - i ∧ i ≤ items.length ∧ P i σ H, ⟨_, rfl, Nat.zero_le _, μL, ρ, h1, Stp.refl, r1, e1, by simpa using o⟩, ?_⟩
  rintro i m σ2 H2 ⟨rfl, hi, μ2, ρ2, h2, s2, r2, e2, o2⟩
  by_cases hlt : i < items.length
  · refine .inr ⟨wk.goes i μ2 H2 hlt s2, P (i + 1), fun σ' H' p => ⟨items.length - (i + 1), by omega, rfl, hlt, p⟩, fun x H' y => ?_⟩
    obtain ⟨d, hd, s3, r3, rv⟩ := wk.yields i μ2 H2 h2 x H' hlt s2 r2 y
    have ed : items.drop i = d :: items.drop (i + 1) := by
      rw [List.drop_eq_getElem_cons hlt]
      rw [List.getElem?_eq_getElem hlt] at hd
      cases hd; rfl
    rw [ed] at o2
    have o3 := OutS.step o2 s3
    refine ⟨μ2, ρ2, h2, d, r3, e2.step s3, rv, ?_⟩
    simp only [loopS] at o3
    cases q : g d ρ2 h2 with
    | no => rw [q] at o3; exact o3
    | ex z h3 => rw [q] at o3; exact o3
    | ok ρ3 h3 =>
      rw [q] at o3
      simp only at o3
      intro μ4 H4 σ4 s4 r4 e4 _
      refine ⟨μ4, ρ3, h3, r4, e4, ?_⟩
      have o4 := OutS.step o3 s4
      have st : Stp μL H1 μ4 H4 := (s2.trans s3).trans s4
      cases q2 : body ρ3 h3 with
      | nx ρ5 h5 => rw [q2] at o4; exact fun μ5 H5 σ5 s5 r5 e5 => ⟨μ5, ρ5, h5, st.trans s5, r5, e5, OutS.step o4 s5⟩
      | ct ρ5 h5 => rw [q2] at o4; exact fun μ5 H5 σ5 s5 r5 e5 => ⟨μ5, ρ5, h5, st.trans s5, r5, e5, OutS.step o4 s5⟩
      | bk ρ5 h5 => rw [q2] at o4; exact o4
      | rt d5 h5 => rw [q2] at o4; exact o4
      | ex x5 ρ5 h5 => rw [q2] at o4; exact o4
      | no => rw [q2] at o4; exact o4
  · have ei : i = items.length := by omega
    subst ei
    refine .inl ⟨wk.stops μ2 H2 s2, ?_⟩
    rw [List.drop_length] at o2
    exact o2 μ2 H2 σ2 Stp.refl r2 e2
theorem psv_for {own : List Nat} {iter : Expr} {body : List Stmt} {pos : Pos} {it : SI} {g : SG} {sb : SS} (hp : PassesOwn (model X.prog X.w) X.A X.env X.xe) (hc : X.calm = true) (hi : PI X tg iter (tI' T W it)) (hg : PG X tg (tG' T own g)) (hb : PSs X body (tS' T W sb))
    (hs : ∀ x, foldedSetIterable iter X.env x = pure x) : PS X (.For tg iter body [] pos) (tS' T W (ssFor it g sb)) :=
  PS.imp (ps_for hp hc hi hg hb hs) fun D σ H ⟨μ, ρ, h, r, e, o⟩ => by
    refine ⟨μ, ρ, h, r, e, OutS.ofI e o _ ?_⟩
    rintro u h1 μ1 H1 J _ s1 r1 e1 l wk o1
    exact loop_imp wk (r1.lock u.2 fun b z => (l b z).2) (e1.ad lockMu_ad lockMu_pr) (OutS.unl u.2 (l.low r1) o1)
end
end VI
end
section
namespace VI
open PySem PySem.Spec PyProof.Rows L2
section
variable {X : Cx} {T : Tb} {W : WX} {μ μ' : Mu} {H H' : Hp} {h : Bs} {σ : Sg} {ρ : Ev} {tg : Expr} {p : Addr} {o : HO}
mutual
theorem Rep.mv (hn : ∀ a, μ.no a → μ'.no a) (hp : ∀ (i : Nat) a, μ.ad[i]? = some a → μ'.ad[i]? = some a) : ∀ (d : D) (v : V), Rep T μ H d v → Rep T μ' H d v
  | .non, v, q => by simpa only [Rep] using q
  | .bl b, v, q => by simpa only [Rep] using q
  | .int b, v, q => by simpa only [Rep] using q
  | .str b, v, q => by simpa only [Rep] using q
  | .tup xs, v, q => by
    simp only [Rep] at q ⊢
    obtain ⟨a, vs, e1, e2, e3, e4⟩ := q
    exact ⟨a, vs, e1, e2, hn a e3, Reps.mv hn hp xs vs e4⟩
  | .tpl xs, v, q => by
    simp only [Rep] at q ⊢
    obtain ⟨a, o, vs, e1, e2, c, e3, e4⟩ := q
    exact ⟨a, o, vs, e1, e2, c, hn a e3, Reps.mv hn hp xs vs e4⟩
  | .lst xs, v, q => by
    simp only [Rep] at q ⊢
    obtain ⟨a, vs, e1, e2, e3, e4⟩ := q
    exact ⟨a, vs, e1, e2, hn a e3, Reps.mv hn hp xs vs e4⟩
  | .dct ks xs, v, q => by
    simp only [Rep] at q ⊢
    obtain ⟨a, o, vs, e1, e2, e3, e4, e5⟩ := q
    exact ⟨a, o, vs, e1, e2, hn a e3, e4, Reps.mv hn hp xs vs e5⟩
  | .obj c fs xs, v, q => by
    simp only [Rep] at q ⊢
    obtain ⟨a, C, dx, vs, e1, e2, e3, e4, e5, e6⟩ := q
    exact ⟨a, C, dx, vs, e1, e2, e3, hn a e4, e5, Reps.mv hn hp xs vs e6⟩
  | .exo c fs xs, v, q => by
    simp only [Rep] at q ⊢
    obtain ⟨a, C, o, us, vs, e1, e2, e3, eo, n, x, l, r⟩ := q
    exact ⟨a, C, o, us, vs, e1, e2, e3, eo, hn a n, x.imp fun dx u z m => ⟨z, hn dx m⟩, l, Reps.mv hn hp xs vs r⟩
  | .ref b, v, q => by
    simp only [Rep] at q ⊢
    obtain ⟨a, e1, e2⟩ := q
    exact ⟨a, hp _ _ e1, e2⟩
  | .scr ns, v, q => by
    simp only [Rep] at q ⊢
    obtain ⟨a, e1, e2⟩ := q
    refine ⟨a, e1, ?_⟩
    rcases e2 with ⟨z1, z2⟩ | z
    · exact .inl ⟨z1, hn a z2⟩
    · exact .inr z
theorem Reps.mv (hn : ∀ a, μ.no a → μ'.no a) (hp : ∀ (i : Nat) a, μ.ad[i]? = some a → μ'.ad[i]? = some a) : ∀ (d : List D) (v : List V), Reps T μ H d v → Reps T μ' H d v
  | [], v, q => by simpa only [Reps] using q
  | x :: xs, v, q => by
    simp only [Reps] at q ⊢
    obtain ⟨w, r, e1, q1, q2⟩ := q
    exact ⟨w, r, e1, Rep.mv hn hp x w q1, Reps.mv hn hp xs r q2⟩
end
theorem RepB.mv (hn : ∀ a, μ.no a → μ'.no a) (hp : ∀ (i : Nat) a, μ.ad[i]? = some a → μ'.ad[i]? = some a) {b : Bx} {a : Addr} (q : RepB T μ H b a) : RepB T μ' H b a := by
  cases b with
  | lst lk xs => obtain ⟨vs, e1, q⟩ := q; exact ⟨vs, e1, Reps.mv hn hp _ _ q⟩
  | dct lk ks xs => obtain ⟨vs, e1, e2, q⟩ := q; exact ⟨vs, e1, e2, Reps.mv hn hp _ _ q⟩
  | dfz ks xs => obtain ⟨o, vs, e1, e2, q⟩ := q; exact ⟨o, vs, e1, e2, Reps.mv hn hp _ _ q⟩
  | obj c fs xs => obtain ⟨C, dx, vs, e1, e2, e3, q⟩ := q; exact ⟨C, dx, vs, e1, e2, e3, Reps.mv hn hp _ _ q⟩
  | tbl t => obtain ⟨a1, ps, e1, e2, e3⟩ := q; exact ⟨a1, ps, e1, e2, fun pos cv q => by obtain ⟨c, f1, f2, f3⟩ := e3 pos cv q; exact ⟨c, f1, f2, hn c f3⟩⟩
theorem upd_no {a : Addr} (hm : p ∈ μ.pr) (n : μ.no a) : upd H p o a = H a := upd_ne fun z => n.2 (by rw [z]; exact hm)
mutual
theorem Rep.pr (hm : p ∈ μ.pr) : ∀ (d : D) (v : V), Rep T μ H d v → Rep T μ (upd H p o) d v
  | .non, v, q => by simpa only [Rep] using q
  | .bl b, v, q => by simpa only [Rep] using q
  | .int b, v, q => by simpa only [Rep] using q
  | .str b, v, q => by simpa only [Rep] using q
  | .tup xs, v, q => by
    simp only [Rep] at q ⊢
    obtain ⟨a, vs, e1, e2, e3, e4⟩ := q
    exact ⟨a, vs, e1, (upd_no hm e3).trans e2, e3, Reps.pr hm xs vs e4⟩
  | .tpl xs, v, q => by
    simp only [Rep] at q ⊢
    obtain ⟨a, o, vs, e1, e2, c, e3, e4⟩ := q
    exact ⟨a, o, vs, e1, (upd_no hm e3).trans e2, c, e3, Reps.pr hm xs vs e4⟩
  | .lst xs, v, q => by
    simp only [Rep] at q ⊢
    obtain ⟨a, vs, e1, e2, e3, e4⟩ := q
    exact ⟨a, vs, e1, (upd_no hm e3).trans e2, e3, Reps.pr hm xs vs e4⟩
  | .dct ks xs, v, q => by
    simp only [Rep] at q ⊢
    obtain ⟨a, o, vs, e1, e2, e3, e4, e5⟩ := q
    exact ⟨a, o, vs, e1, (upd_no hm e3).trans e2, e3, e4, Reps.pr hm xs vs e5⟩
  | .obj c fs xs, v, q => by
    simp only [Rep] at q ⊢
    obtain ⟨a, C, dx, vs, e1, e2, e3, e4, e5, e6⟩ := q
    exact ⟨a, C, dx, vs, e1, e2, (upd_no hm e4).trans e3, e4, e5, Reps.pr hm xs vs e6⟩
  | .exo c fs xs, v, q => by
    simp only [Rep] at q ⊢
    obtain ⟨a, C, ob, us, vs, e1, e2, e3, eo, n, x, l, r⟩ := q
    exact ⟨a, C, ob, us, vs, e1, e2, (upd_no hm n).trans e3, eo, n, x.imp fun dx u z m => ⟨(upd_no hm m).trans z, m⟩, l, Reps.pr hm xs vs r⟩
  | .ref b, v, q => by simpa only [Rep] using q
  | .scr ns, v, q => by
    simp only [Rep] at q ⊢
    obtain ⟨a, e1, e2⟩ := q
    refine ⟨a, e1, ?_⟩
    rcases e2 with ⟨z1, z2⟩ | z
    · refine .inl ⟨?_, z2⟩
      rcases z1 with z1 | ⟨u, z1⟩
      · exact .inl ((upd_no hm z2).trans z1)
      · exact .inr ⟨u, (upd_no hm z2).trans z1⟩
    · exact .inr z
theorem Reps.pr (hm : p ∈ μ.pr) : ∀ (d : List D) (v : List V), Reps T μ H d v → Reps T μ (upd H p o) d v
  | [], v, q => by simpa only [Reps] using q
  | x :: xs, v, q => by
    simp only [Reps] at q ⊢
    obtain ⟨w, r, e1, q1, q2⟩ := q
    exact ⟨w, r, e1, Rep.pr hm x w q1, Reps.pr hm xs r q2⟩
end
theorem Rel.pr {o : HO} (r : Rel T μ h H) (hm : p ∈ μ.pr) (nt : ∀ xs, o ≠ .tup xs := by first | (intro xs z; cases z; done) | exact kvO_tup) : Rel T μ h (upd H p o) := by
  have np : p ∉ μ.ad := (r.prh p hm).2
  refine ⟨r.fb, fun a ha => ?_, r.lks, r.lkf, r.len, r.nd, fun i b a e1 e2 => ?_, r.lo, r.ord, r.wf⟩
  · obtain ⟨⟨ys, e, nt'⟩, n⟩ := r.prh a ha
    refine ⟨?_, n⟩
    by_cases hap : a = p
    · subst hap; exact ⟨_, upd_same, nt⟩
    · exact ⟨ys, by rw [upd_ne hap]; exact e, nt'⟩
  · have q := r.at_ i b a e1 e2
    have hne : a ≠ p := fun z => np (by rw [← z]; exact List.mem_of_getElem? e2)
    cases b with
    | lst lk ys => obtain ⟨vs, e3, q⟩ := q; exact ⟨vs, by rw [upd_ne hne]; exact e3, Reps.pr hm _ _ q⟩
    | dct lk ks ys => obtain ⟨vs, e3, e4, q⟩ := q; exact ⟨vs, by rw [upd_ne hne]; exact e3, e4, Reps.pr hm _ _ q⟩
    | dfz ks ys => obtain ⟨o, vs, e3, e4, q⟩ := q; exact ⟨o, vs, by rw [upd_ne hne]; exact e3, e4, Reps.pr hm _ _ q⟩
    | obj c fs ys => obtain ⟨C, dx, vs, e3, e4, e5, q⟩ := q; exact ⟨C, dx, vs, e3, by rw [upd_ne hne]; exact e4, e5, Reps.pr hm _ _ q⟩
    | tbl t => obtain ⟨a1, ps, e3, e4, e5⟩ := q; exact ⟨a1, ps, by rw [upd_ne hne]; exact e3, e4, fun pos cv z => by obtain ⟨c, f1, f2, f3⟩ := e5 pos cv z; exact ⟨c, f1, (upd_no hm f3).trans f2, f3⟩⟩
def Mu.prot (μ : Mu) (p : Addr) : Mu := { μ with pr := p :: μ.pr }
theorem Stp.prot (hp : H p = none) : Stp μ H (μ.prot p) (upd H p o) :=
  ⟨rfl, fun _ _ e => e, rfl, fun _ z => List.mem_cons_of_mem _ z, fun a z => by
    rcases List.mem_cons.mp z with y | y
    · subst y; exact .inr (.inr hp)
    · exact .inl y, fun a u e _ => by rw [upd_ne (ne_of_none e hp)]; exact e, fun _ e => .inl e⟩
theorem Rel.prot {o : HO} (r : Rel T μ h H) (hp : H p = none) (nt : ∀ xs, o ≠ .tup xs := by first | (intro xs z; cases z; done) | exact kvO_tup) : Rel T (μ.prot p) h (upd H p o) := by
  refine ⟨r.fb, fun a ha => ?_, r.lks, r.lkf, r.len, r.nd, fun i b a e1 e2 => ?_, r.lo, r.ord, r.wf⟩
  · rcases List.mem_cons.mp ha with z | z
    · subst z; exact ⟨⟨_, upd_same, nt⟩, r.not' hp⟩
    · obtain ⟨⟨ys, e, nt'⟩, n⟩ := r.prh a z
      exact ⟨⟨ys, by rw [upd_ne (ne_of_none e hp)]; exact e, nt'⟩, n⟩
  · exact (r.at_ i b a e1 e2).step (Stp.prot hp) (upd_ne fun z => by subst z; exact r.not' hp (List.mem_of_getElem? e2))
def Mu.unprot (μ : Mu) (p : Addr) : Mu := { μ with pr := μ.pr.filter fun a => decide (a ≠ p) }
theorem unprot_no {a : Addr} (n : μ.no a) : (μ.unprot p).no a := ⟨n.1, fun z => n.2 (List.mem_filter.mp z).1⟩
theorem Rel.unprot (r : Rel T μ h H) : Rel T (μ.unprot p) h H :=
  ⟨r.fb, fun a ha => r.prh a (List.mem_filter.mp ha).1, r.lks, r.lkf, r.len, r.nd, fun i b a e1 e2 => (r.at_ i b a e1 e2).mv (fun _ n => unprot_no n) (fun _ _ e => e), r.lo, r.ord, r.wf⟩
theorem Stp.unprot {μ1 : Mu} {H1 : Hp} {h1 : Bs} (r : Rel T μ1 h1 H1) (hp : H1 p = none) (s : Stp μ1 H1 μ H) : Stp μ1 H1 (μ.unprot p) H :=
  ⟨s.fbe, s.pre, s.lks, fun a z => List.mem_filter.mpr ⟨s.prs a z, by
    obtain ⟨⟨xs, e, _⟩, _⟩ := r.prh a z
    simp only [decide_eq_true_eq]
    exact ne_of_none e hp⟩, fun a z => s.prn a (List.mem_filter.mp z).1, s.keep', s.new⟩
theorem Rel.adopt {xs : List D} {vs : List V} (r : Rel T μ h H) (hm : p ∈ μ.pr) (e : H p = some (.lst vs)) (q : Reps T μ H xs vs) : Rel T ((μ.unprot p).push p) { h with bs := h.bs ++ [.lst false xs] } H := by
  have np : p ∉ μ.ad := (r.prh p hm).2
  have hn : ∀ a, μ.no a → ((μ.unprot p).push p).no a := fun a n => ⟨fun z => by
    rcases List.mem_append.mp (show a ∈ μ.ad ++ [p] from z) with z | z
    · exact n.1 z
    · have : a = p := by simpa using z
      subst this; exact n.2 hm, fun z => n.2 (List.mem_filter.mp z).1⟩
  have hpre : ∀ (i : Nat) a, μ.ad[i]? = some a → ((μ.unprot p).push p).ad[i]? = some a := fun i a e => by
    show (μ.ad ++ [p])[i]? = some a
    rw [List.getElem?_append_left (List.getElem?_eq_some_iff.mp e).1]; exact e
  refine ⟨r.fb, fun a ha => ?_, fun a ha => ?_, fun b0 ys a e1 e1l e2' => ?_, by simp [Mu.push, Mu.unprot, r.len], ?_, fun i b' a e1 e2' => ?_, fun k hk' => by simpa using Nat.le_succ_of_le (r.lo k hk'), r.ord, fun k hk' i b' hi e' => ?_⟩
  · obtain ⟨h1, h2⟩ := List.mem_filter.mp (show a ∈ μ.pr.filter fun a => decide (a ≠ p) from ha)
    obtain ⟨hx, n⟩ := r.prh a h1
    refine ⟨hx, fun z => ?_⟩
    rcases List.mem_append.mp (show a ∈ μ.ad ++ [p] from z) with z | z
    · exact n z
    · have : a = p := by simpa using z
      simp [this] at h2
  · obtain ⟨b0, ys, e1, e2, e2l⟩ := r.lks a ha
    refine ⟨b0, ys, hpre _ _ e1, ?_, e2l⟩
    show (h.bs ++ [_])[b0]? = _
    rw [List.getElem?_append_left (List.getElem?_eq_some_iff.mp e2).1]
    exact e2
  · have e2 : (μ.ad ++ [p])[b0]? = some a := e2'
    have e1' : (h.bs ++ [Bx.lst false xs])[b0]? = some ys := e1
    by_cases hi : b0 < μ.ad.length
    · rw [List.getElem?_append_left hi] at e2
      rw [List.getElem?_append_left (by rw [← r.len]; exact hi)] at e1'
      exact r.lkf b0 ys a e1' e1l e2
    · rw [List.getElem?_append_right (by rw [← r.len]; omega)] at e1'
      have h0 : b0 - h.bs.length = 0 := by
        have := (List.getElem?_eq_some_iff.mp e1').1
        simp at this; omega
      rw [h0] at e1'
      simp at e1'
      rw [← e1'] at e1l
      cases e1l
  · show (μ.ad ++ [p]).Nodup
    rw [List.nodup_append]
    refine ⟨r.nd, by simp, fun x hx y hy => ?_⟩
    have : y = p := by simpa using hy
    subst this
    intro z; subst z
    exact np hx
  · have e2 : (μ.ad ++ [p])[i]? = some a := e2'
    by_cases hi : i < μ.ad.length
    · rw [List.getElem?_append_left hi] at e2
      have e1' : (h.bs ++ [Bx.lst false xs])[i]? = some b' := e1
      rw [List.getElem?_append_left (by rw [← r.len]; exact hi)] at e1'
      exact (r.at_ i b' a e1' e2).mv hn hpre
    · rw [List.getElem?_append_right (by omega)] at e2
      have e1' : (h.bs ++ [Bx.lst false xs])[i]? = some b' := e1
      rw [List.getElem?_append_right (by rw [← r.len]; omega), ← r.len] at e1'
      have h0 : i - μ.ad.length = 0 := by
        have := (List.getElem?_eq_some_iff.mp e2).1
        simp at this; omega
      rw [h0] at e1' e2
      simp at e1' e2
      subst e1'; subst e2
      exact ⟨vs, e, Reps.mv hn hpre _ _ q⟩
  · have hl : i < h.bs.length := Nat.lt_of_lt_of_le hi (r.lo k hk')
    have e'' : (h.bs ++ [Bx.lst false xs])[i]? = some b' := e'
    rw [List.getElem?_append_left hl] at e''
    exact r.wf k hk' i b' hi e''
theorem Stp.adopt {μ1 : Mu} {H1 : Hp} {h1 : Bs} (r : Rel T μ1 h1 H1) (hp : H1 p = none) (s : Stp μ1 H1 μ H) : Stp μ1 H1 ((μ.unprot p).push p) H := by
  have s' := Stp.unprot r hp s
  refine ⟨s'.fbe, fun i a e => ?_, s'.lks, s'.prs, s'.prn, s'.keep', fun a z => ?_⟩
  · show (μ.ad ++ [p])[i]? = some a
    have := s.pre i a e
    rw [List.getElem?_append_left (List.getElem?_eq_some_iff.mp this).1]; exact this
  · rcases List.mem_append.mp (show a ∈ μ.ad ++ [p] from z) with z | z
    · exact s.new a z
    · have : a = p := by simpa using z
      subst this; exact .inr hp
end
end VI
end
section
namespace VI
open PySem PySem.Spec PyProof.Rows L2
abbrev SB := Ev → Bs → R Bool
def lcS (g : SG) (tt : SB) (el : SV) (ρ : Ev) : List VI.D → Bs → R (List VI.D)
  | [], h => .ok [] h
  | d :: ds, h => match g d ρ h with
    | .ok ρ1 h1 => (match tt ρ1 h1 with
      | .ok true h2 => (match el ρ1 h2 with
        | .ok y h3 => (match lcS g tt el ρ ds h3 with
          | .ok ys h4 => .ok (y :: ys) h4
          | _ => .no)
        | _ => .no)
      | .ok false h2 => lcS g tt el ρ ds h2
      | _ => .no)
    | _ => .no
def wipeE (ρ : Ev) : List Nat → Ev
  | [] => ρ
  | v :: vs => (wipeE ρ vs).set v none
def sLc (bx : Bool) (own : List Nat) (it : SI) (g : SG) (tt : SB) (el : SV) : SV := fun ρ h =>
  (it ρ h).bind fun u h1 => (unlR u.2 (lcS g tt el (wipeE ρ own) u.1 (lockO u.2 h1))).bind fun ys h2 => newL bx ys h2
section
variable {X : Cx} {T : Tb} {W : WX} {μ μ' : Mu} {H H' : Hp} {h : Bs} {σ : Sg} {ρ : Ev} {tg : Expr} {p : Addr} {o : HO}
theorem RepE.none (e : RepE T μ H ρ σ) (i : Nat) : RepE T μ H (ρ.set i none) (σ.set i none) := by
  refine ⟨by simp [e.1], fun j d q => ?_⟩
  by_cases hj : i = j
  · subst hj
    have hl : i < ρ.length := by
      have := (List.getElem?_eq_some_iff.mp q).1
      simpa using this
    rw [List.getElem?_set_self hl] at q
    cases q
  · rw [List.getElem?_set_ne hj] at q ⊢
    exact e.2 j d q
theorem RepE.wipe (e : RepE T μ H ρ σ) : ∀ own : List Nat, RepE T μ H (wipeE ρ own) (L2.wipe σ own)
  | [] => e
  | v :: vs => (RepE.wipe e vs).none v
theorem RepE.pr (hm : p ∈ μ.pr) (e : RepE T μ H ρ σ) : RepE T μ (upd H p o) ρ σ := ⟨e.1, fun i d q => by
  obtain ⟨v, e1, r⟩ := e.2 i d q
  exact ⟨v, e1, Rep.pr hm d v r⟩⟩
theorem Stp.over (s : Stp μ H μ' H') (hp : H p = none) : Stp μ H μ' (upd H' p o) :=
  ⟨s.fbe, s.pre, s.lks, s.prs, s.prn, fun a u e n => by rw [upd_ne (ne_of_none e hp)]; exact s.keep' a u e n, s.new⟩
theorem newL_prot {bx : Bool} {ys : List VI.D} {acc : List V} {μ1 : Mu} {H1 : Hp} {h1 : Bs} {Q : VK} (o : OutV T W σ μ1 H1 Q (newL bx ys h)) (r1 : Rel T μ1 h1 H1) (hp : H1 p = none) (s : Stp μ1 H1 μ H) (r : Rel T μ h H) (hm : p ∈ μ.pr)
    (e : H p = some (.lst acc)) (q : Reps T μ H ys acc) : Q (.ref p) H := by
  unfold newL at o
  split at o
  · cases bx with
    | false =>
      refine o _ H _ (Stp.unprot r1 hp s) r.unprot ?_
      simp only [Rep]
      exact ⟨p, acc, rfl, e, ⟨(r.prh p hm).2, fun z => by simpa using (List.mem_filter.mp z).2⟩, Reps.mv (fun _ n => unprot_no n) (fun _ _ e => e) _ _ q⟩
    | true =>
      refine o _ H _ (Stp.adopt r1 hp s) (r.adopt hm e q) ?_
      simp only [Rep]
      refine ⟨p, ?_, rfl⟩
      show (μ.ad ++ [p])[h.bs.length]? = some p
      rw [← r.len]; simp
  · exact o.elim
theorem newL_len {bx : Bool} {ys : List VI.D} {μ1 : Mu} {H1 : Hp} {Q : VK} (o : OutV T W σ μ1 H1 Q (newL bx ys h)) : ys.length ≤ sizeLine := by
  unfold newL at o
  split at o
  · assumption
  · exact o.elim
theorem lc_imp {bx : Bool} {own : List Nat} {it : SI} {g : SG} {tt : SB} {el : SV} : ∀ σ H Q, tV T W (sLc bx own it g tt el) σ H Q → tLc (tI' T W it) (tG' T own g) (tB' T noW tt) (tV T noW el) own σ H Q := fun σ H Q ⟨μ, ρ, h, r, e, o⟩ => by
  refine ⟨μ, ρ, h, r, e, ?_⟩
  unfold sLc at o
  cases q : it ρ h with
  | no => rw [q] at o; exact o
  | ex x h1 => rw [q] at o; exact o
  | ok u h1 =>
    rw [q] at o
    simp only [R.bind] at o
    intro μ1 H1 J s1 r1 l wk
    have o1 := OutV.step o s1
    obtain ⟨items, lk⟩ := u
    simp only at o1 l wk
    cases q2 : lcS g tt el (wipeE ρ own) items (lockO lk h1) with
    | no => rw [q2] at o1; exact o1.elim
    | ex x h2 =>
      exfalso
      have key : ∀ (ds : List VI.D) (h : Bs) (x : Ex) (h' : Bs), lcS g tt el (wipeE ρ own) ds h ≠ .ex x h' := by
        intro ds
        induction ds with
        | nil => intro h x h' z; simp [lcS] at z
        | cons d ds ih =>
          intro h x h' z
          simp only [lcS] at z
          repeat' split at z
          all_goals first | (cases z; done) | exact ih _ _ _ z
      exact key _ _ _ _ q2
    | ok ys h2 =>
      rw [q2] at o1
      simp only [unlR] at o1
      have o2 : OutV T W σ μ1 H1 Q (newL bx ys (unlO lk h2)) := o1
      have hlen := newL_len o2
      intro D hD
      have rL : Rel T (lockMu μ1 lk) (lockO lk h1) H1 := r1.lock lk fun b z => (l b z).2
      have eL : RepE T (lockMu μ1 lk) H1 ρ σ := (e.step s1).ad lockMu_ad lockMu_pr
      let P : Nat → Hp → Prop := fun i H => ∃ μ h acc accD, Stp (lockMu μ1 lk) H1 μ H ∧ Rel T μ h H ∧ D ∈ μ.pr ∧ H D = some (.lst acc) ∧ Reps T μ H accD acc ∧ RepE T μ H ρ σ ∧
        ∃ ys', lcS g tt el (wipeE ρ own) (items.drop i) h = .ok ys' h2 ∧ accD ++ ys' = ys
      have h0 : P 0 (upd H1 D (.lst [])) := ⟨(lockMu μ1 lk).prot D, lockO lk h1, [], [], Stp.prot hD, rL.prot hD, List.mem_cons_self, upd_same, .nil, eL.step (Stp.prot hD), ys, by simpa using q2, rfl⟩
      refine ⟨fun i m H => m = items.length - i ∧ i ≤ items.length ∧ P i H, ⟨_, rfl, Nat.zero_le _, h0⟩, ?_⟩
      rintro i m H2 ⟨rfl, hi, μ2, hh, acc, accD, s2, r2, hm2, hD2, q2r, e2, ys', c2, ey⟩
      by_cases hlt : i < items.length
      · refine .inr ⟨wk.goes i μ2 H2 hlt s2, P (i + 1), fun H' p => ⟨items.length - (i + 1), by omega, rfl, hlt, p⟩, fun x H3 y => ?_⟩
        obtain ⟨d, hd, s3, r3, rv⟩ := wk.yields i μ2 H2 hh x H3 hlt s2 r2 y
        have ed : items.drop i = d :: items.drop (i + 1) := by
          rw [List.drop_eq_getElem_cons hlt]
          rw [List.getElem?_eq_getElem hlt] at hd
          cases hd; rfl
        rw [ed] at c2
        simp only [lcS] at c2
        have e3 : RepE T μ2 H3 ρ σ := e2.step s3
        refine ⟨μ2, wipeE ρ own, hh, d, r3, e3.wipe own, rv, ?_⟩
        cases q3 : g d (wipeE ρ own) hh with
        | no => rw [q3] at c2; cases c2
        | ex x h3 => rw [q3] at c2; cases c2
        | ok ρ4 h4 =>
          rw [q3] at c2
          simp only at c2
          intro μ4 H4 σ4 s4 r4 e4 w4
          have wid : ∀ (own : List Nat) (σ : Sg), L2.wipe (L2.wipe σ own) own = L2.wipe σ own := by
            intro own σ
            apply List.ext_getElem?
            intro j
            by_cases hj : j ∈ own
            · have key : ∀ (os : List Nat) (τ : Sg), j ∈ os → (L2.wipe τ os)[j]? = (if j < τ.length then some none else none) := by
                intro os
                induction os with
                | nil => intro τ z; cases z
                | cons o os ih =>
                  intro τ z
                  unfold L2.wipe
                  by_cases ho : o = j
                  · subst ho
                    rw [List.getElem?_set]
                    simp [wipe_length]
                  · rw [List.getElem?_set_ne ho]
                    rcases List.mem_cons.mp z with z | z
                    · exact absurd z.symm ho
                    · exact ih τ z
              rw [key own _ hj, key own _ hj, wipe_length]
            · rw [wipe_out hj]
          refine ⟨by rw [w4, wid], ?_⟩
          refine ⟨μ4, ρ4, h4, r4, e4, ?_⟩
          have hm4 : D ∈ μ4.pr := s4.prs D (s3.prs D hm2)
          have hD3 : H3 D = some (.lst acc) := s3.keep D _ hD2 (r2.prh D hm2).2
          have hD4 : H4 D = some (.lst acc) := s4.keep D _ hD3 (r3.prh D hm2).2
          have q4r : Reps T μ4 H4 accD acc := Reps.step s4 _ _ (Reps.step s3 _ _ q2r)
          have s24 : Stp (lockMu μ1 lk) H1 μ4 H4 := (s2.trans s3).trans s4
          have e24 : RepE T μ4 H4 ρ σ := e3.step s4
          cases q4 : tt ρ4 h4 with
          | no => rw [q4] at c2; cases c2
          | ex x h5 => rw [q4] at c2; cases c2
          | ok b h5 =>
            rw [q4] at c2
            cases b with
            | false =>
              simp only at c2
              intro μ5 H5 s5 r5
              simp only [Bool.false_eq_true, if_false]
              exact ⟨μ5, h5, acc, accD, s24.trans s5, r5, s5.prs D hm4, s5.keep D _ hD4 (r4.prh D hm4).2, Reps.step s5 _ _ q4r, e24.step s5, ys', c2, ey⟩
            | true =>
              simp only at c2
              intro μ5 H5 s5 r5
              simp only [if_true]
              refine ⟨μ5, ρ4, h5, r5, e4.step s5, ?_⟩
              have hm5 : D ∈ μ5.pr := s5.prs D hm4
              have hD5 : H5 D = some (.lst acc) := s5.keep D _ hD4 (r4.prh D hm4).2
              cases q5 : el ρ4 h5 with
              | no => rw [q5] at c2; cases c2
              | ex x h6 => rw [q5] at c2; cases c2
              | ok z h6 =>
                rw [q5] at c2
                simp only at c2
                cases q6 : lcS g tt el (wipeE ρ own) (items.drop (i + 1)) h6 with
                | no => rw [q6] at c2; cases c2
                | ex x h7 => rw [q6] at c2; cases c2
                | ok zs h7 =>
                  rw [q6] at c2
                  cases c2
                  intro μ6 H6 v6 s6 r6 rv6
                  have hm6 : D ∈ μ6.pr := s6.prs D hm5
                  have hD6 : H6 D = some (.lst acc) := s6.keep D _ hD5 (r5.prh D hm5).2
                  have q6r : Reps T μ6 H6 accD acc := Reps.step s6 _ _ (Reps.step s5 _ _ q4r)
                  have hl : acc.length < sizeLine := by
                    have h1 := q6r.length
                    have h2 := congrArg List.length ey
                    rw [List.length_append, List.length_cons] at h2
                    omega
                  exact ⟨acc, hD6, hl, μ6, h6, acc ++ [v6], accD ++ [z], ((s24.trans s5).trans s6).over hD, r6.pr hm6, hm6, upd_same, Reps.pr hm6 _ _ (q6r.append (.one rv6)), ((e24.step s5).step s6).pr hm6, zs, q6, by rw [List.append_assoc]; exact ey⟩
      · have ei : i = items.length := by omega
        subst ei
        refine .inl ⟨wk.stops μ2 H2 s2, ?_⟩
        rw [List.drop_length] at c2
        simp only [lcS] at c2
        cases c2
        rw [List.append_nil] at ey
        subst ey
        obtain ⟨ru, su⟩ := Rel.unlock lk (l.low r1) s2 r2
        exact newL_prot o2 r1 hD su ru hm2 hD2 (Reps.ad (μ := μ2) (μ' := { μ2 with lk := μ1.lk }) rfl rfl _ _ q2r)
end
end VI
end
section
namespace VI
open PySem PySem.Spec PyProof.Rows L2
section
variable {X : Cx} {T : Tb} {W : WX} {μ μ' : Mu} {H H' : Hp} {h : Bs} {σ : Sg} {ρ : Ev} {tg : Expr} {p : Addr} {o : HO}
theorem ptv_nil : PTs X [] (tB' T W fun _ h => .ok true h) := ⟨fun pins s σ H Q I w => pts_nil.run pins s σ H Q I (by obtain ⟨μ, ρ, h, r, e, o⟩ := w; exact o μ H Stp.refl r)⟩
theorem ptv_one {c : Expr} {s : SB} (h : PT X c (tB' T W s)) : PTs X [c] (tB' T W s) := pts_one h
variable {elt iter : Expr} {ifs : List Expr} {scope : Scope} {own : List (Str × Nat)} {pos : Pos} {it : SI} {g : SG} {tt : SB} {el : SV}
theorem pv_lc {bx : Bool} (hc : X.calm = true) (hN : X.N.Nodup) (hi : PI X tg iter (tI' T W it)) (ok : BlkOk X.N X.env.scope scope own)
    (hg : ∀ (s : Shared) (H : Hp) (C : Addr) (cl : List (Str × Addr)) (fp : List Addr), PG (X.blk s H scope (compEnvC scope cl C X.env) fp) tg (tG' T (own.map (·.2)) g))
    (ht : ∀ (s : Shared) (H : Hp) (C : Addr) (cl : List (Str × Addr)) (fp : List Addr), PTs (X.blk s H scope (compEnvC scope cl C X.env) fp) ifs (tB' T noW tt))
    (he : ∀ (s : Shared) (H : Hp) (C : Addr) (cl : List (Str × Addr)) (fp : List Addr), PE (X.blk s H scope (compEnvC scope cl C X.env) fp) elt (tV T noW el)) (hs : ∀ x, foldedSetIterable iter X.env x = pure x) :
    PE X (.ListComp elt [⟨tg, iter, ifs, 0⟩] scope pos) (tV T W (sLc bx (own.map (·.2)) it g tt el)) := PE.imp (pe_lc hc hN hi ok hg ht he hs) lc_imp
theorem psv_setLc {bx : Bool} {i : Nat} {y : Str} {py spos : Pos} (hc : X.calm = true) (hN : X.N.Nodup) (hy : X.N[i]? = some y) (hyl : X.env.scope.names.lookup y = some .local)
    (hsw : swapsWith (.ListComp elt [⟨tg, iter, ifs, 0⟩] scope pos) (some (.Name y py)) spos.line X.env = pure true) (hi : PI X tg iter (tI' T W it)) (ok : BlkOk X.N X.env.scope scope own)
    (hg : ∀ (s : Shared) (H : Hp) (C : Addr) (cl : List (Str × Addr)) (fp : List Addr), PG (X.blk s H scope (compEnvC scope cl C X.env) fp) tg (tG' T (own.map (·.2)) g))
    (ht : ∀ (s : Shared) (H : Hp) (C : Addr) (cl : List (Str × Addr)) (fp : List Addr), PTs (X.blk s H scope (compEnvC scope cl C X.env) fp) ifs (tB' T noW tt))
    (he : ∀ (s : Shared) (H : Hp) (C : Addr) (cl : List (Str × Addr)) (fp : List Addr), PE (X.blk s H scope (compEnvC scope cl C X.env) fp) elt (tV T noW el)) (hs : ∀ x, foldedSetIterable iter X.env x = pure x) :
    PS X (.Assign [.Name y py] (.ListComp elt [⟨tg, iter, ifs, 0⟩] scope pos) spos) (tS' T W (ssAsg (sLc bx (own.map (·.2)) it g tt el) (sgName i))) :=
  PS.imp (ps_setLc hc hN hy hyl hsw hi ok hg ht he hs) fun D σ H w => by
    have w' := asgN_imp D σ H w
    exact lc_imp σ H _ w'
def spF (T : Tb) (f : List D → Bs → R D) : Sp := fun vs H Q E => ∃ μ h ds, Rel T μ h H ∧ Reps T μ H ds vs ∧ OutV T (fun c d _ H => E c d H) [] μ H Q (f ds h)
variable {k : Nat} {f : Addr} {fd : FuncData} {ps : List Str} {x : Str} {q : Pos} {e : Expr} {es : List Expr} {cf : List D → Bs → R D} {sa : SA}
theorem OutV.sig {Q : VK} {r : R D} {σ' : Sg} (o : OutV T W σ μ H Q r) : OutV T (fun c d _ H => W c d σ H) σ' μ H Q r := by
  cases r with
  | ok d h => exact o
  | ex x h => exact o
  | no => exact o
theorem fn_imp : ∀ σ H Q, tV T W (sCall cf sa) σ H Q → tCallSD (spF T cf) [] (WE W) (tA' T W sa) σ H Q := fun σ H Q ⟨μ, ρ, h, r, e, o⟩ => by
  refine ⟨μ, ρ, h, r, e, OutA.mono (OutV.bindA o) ?_⟩
  rintro v H1 ⟨μ1, d, h1, s1, r1, rv, o1⟩
  exact ⟨μ1, h1, d, r1, by simpa using rv, o1.sig⟩
theorem pv_call (F : FnOk X.prog X.w X.K X.mg X.base (CX X.prog X.w) k f fd ps (spF T cf)) (hr : Room k X.A) (hg : Gl X x) (hm : X.mg x = some (.ref f)) (hk : PySem.W.keepIn X.K (.ref f) = true) (hb : Binds X.K fd ps []) (tk : Takes X W)
    (hdb : (x == ("__debug__" : Str)) = false) (hs : noStars (e :: es) = true) (ha : PA X (e :: es) (tA' T W sa)) : PE X (.Call (.Name x q) (e :: es) [] pos) (tV T W (sCall cf sa)) := by
  simp only [noStars, List.all_cons, Bool.and_eq_true, Bool.not_eq_true'] at hs
  exact PE.imp (pe_callSD F hr hg hm hk hb .nil (fun σ => passAt tk σ) ha hdb (star_no hs.1) (back_no (show noStars es = true from hs.2))) fn_imp
end
end VI
end
section
namespace VI
open PySem PySem.Spec PyProof.Rows L2
def noSuper : Expr → Bool
  | .Call (.Name id _) [] [] _ => id != ("super" : Str)
  | _ => true
theorem abase {o : Expr} {attr : Str} {env : Env} {whole : Sem Value} (h : noSuper o = true) : attributeBase o attr env whole = whole := by
  unfold noSuper at h
  split at h
  · exact abase_call h
  · rename_i hn
    unfold attributeBase
    split
    · exact absurd rfl (hn _ _ _)
    · rfl
theorem form_ok {n : Nat} {pos : Pos} {env : Env} {es : List Expr} (hs : noStars es = true) (hn : n < 30) : methodCallForm n (backTo pos (starEach es env)) (backToKw pos (keywordEach [] env)) = true := by
  unfold methodCallForm
  have e1 : (backTo pos (starEach es env)).all (fun x => !x.1) = true := by
    have := back_no (pos := pos) (env := env) hs
    rw [List.all_eq_true]
    intro z hz
    rw [List.any_eq_false] at this
    simpa using this z hz
  have e2 : (backToKw pos (keywordEach [] env)) = [] := rfl
  rw [e2, e1]
  simp [hn]
theorem mcall_tree {o : Expr} {m : Str} {apos pos : Pos} {es : List Expr} {env : Env} (hb : noSuper o = true) (hs : noStars es = true) (hn : es.length < 30) (hl : (apos.endLine == pos.line) = true) :
    eval (.Call (.Attribute o m apos) es [] pos) env = (do
      let ov ← eval o env
      standAt apos.atName
      let (f, first) ← holding [ov] (getMethod ov m (plainOf o env))
      callWith pos f first (backTo pos (starEach es env)) (backToKw pos (keywordEach [] env))) :=
  mcall_of (abase hb) fun ov => mcall_line (form_ok hs (by simpa using hn)) hl
section
variable {X : Cx} {T : Tb} {W : WX} {μ μ' : Mu} {H H' : Hp} {h : Bs} {σ : Sg} {ρ : Ev}
def fldOf (f : Nat) : List Nat → List D → Option D
  | g :: gs, x :: xs => if g = f then some x else fldOf f gs xs
  | _, _ => none
def insOf (h : Bs) : D → Option (Nat × List Nat × List D)
  | .obj c fs vs => some (c, fs, vs)
  | .ref b => (match h.bs[b]? with | some (.obj c fs vs) => some (c, fs, vs) | _ => none)
  | _ => none
theorem Rel.insOf (r : Rel T μ h H) {d : D} {v : V} {c : Nat} {fs : List Nat} {xs : List D} (q : Rep T μ H d v) (e : insOf h d = some (c, fs, xs)) :
    ∃ a C dx vs, v = .ref a ∧ T.cls c = some C ∧ H a = some (.ins C dx ((fs.map T.att).zip vs)) ∧ fs.length = vs.length ∧ Reps T μ H xs vs := by
  cases d with
  | obj c' fs' xs' =>
    simp only [VI.insOf] at e; cases e
    simp only [Rep] at q
    obtain ⟨a, C, dx, vs, e1, e2, e3, _, e5, e6⟩ := q
    exact ⟨a, C, dx, vs, e1, e2, e3, e5, e6⟩
  | ref b =>
    simp only [VI.insOf] at e
    split at e
    · rename_i hb
      cases e
      simp only [Rep] at q
      obtain ⟨a, e1, e2⟩ := q
      obtain ⟨C, dx, vs, e3, e4, e5, e6⟩ := r.at_ _ _ a hb e1
      exact ⟨a, C, dx, vs, e2, e3, e4, e5, e6⟩
    · cases e
  | _ => simp [VI.insOf] at e
theorem fld_lookup (ok : T.Ok) {f : Nat} (hf : f < T.n) : ∀ {fs : List Nat} {xs : List D} {vs : List V} {x : D}, fs.length = vs.length → Reps T μ H xs vs → fldOf f fs xs = some x → ∃ v, ((fs.map T.att).zip vs).lookup (T.att f) = some v ∧ Rep T μ H x v
  | [], xs, vs, x, _, _, e => by simp [fldOf] at e
  | g :: gs, [], vs, x, _, _, e => by simp [fldOf] at e
  | g :: gs, y :: ys, vs, x, hl, q, e => by
    simp only [Reps] at q
    obtain ⟨v, r, rfl, q1, q2⟩ := q
    simp only [fldOf] at e
    simp only [List.map_cons, List.zip_cons_cons]
    rw [List.lookup_cons]
    split at e
    · rename_i hg
      cases e
      subst hg
      exact ⟨v, by simp, q1⟩
    · rename_i hg
      have hne : (T.att f == T.att g) = false := by
        rw [beq_eq_false_iff_ne]
        exact fun z => hg (ok.inj f g hf z.symm)
      rw [hne]
      exact fld_lookup ok hf (by simpa using hl) q2 e
def fldD (T : Tb) (f : Nat) (d : D) (h : Bs) : R D := match insOf h d with
  | some (c, fs, xs) => if T.fok c f then (match fldOf f fs xs with
    | some x => .ok x h
    | none => .no) else .no
  | none => .no
theorem pv_fld {e : Expr} {f : Nat} {s : SV} {pos : Pos} (ok : T.Ok) (hK : X.K = T.K) (hb : noSuper e = true) (he : PE X e (tV T W s)) : PE X (.Attribute e (T.att f) pos) (tV T W (sUn (fldD T f) s)) :=
  PE.imp (pe_fld he (abase hb)) fun σ H Q ⟨μ, ρ, h, r, e, o⟩ => by
    refine ⟨μ, ρ, h, r, e, OutV.mono (OutV.bind o) ?_⟩
    rintro v H1 ⟨μ1, d, h1, s1, r1, rv, o1⟩
    unfold fldD at o1
    split at o1
    · rename_i c fs xs hi
      split at o1
      · rename_i hf
        split at o1
        · rename_i x hx
          obtain ⟨a, C, dx, vs, e1, e2, e3, e4, e5⟩ := r1.insOf rv hi
          obtain ⟨w, l, rw'⟩ := fld_lookup ok (ok.lt c f hf) e4 e5 hx
          obtain ⟨cl, na⟩ := ok.fld c f C hf e2
          exact ⟨a, C, dx, _, w, e1, e3, by rw [hK]; exact cl, by rw [hK]; exact na, l, o1 μ1 H1 _ Stp.refl r1 rw'⟩
        · exact o1.elim
      · exact o1.elim
    · exact o1.elim
def mthD (m : Nat) (mt : Nat → Option (List D → Bs → R D)) (d : D) (h : Bs) : Option (List D → Bs → R D) := match insOf h d with
  | some (c, fs, _) => if fs.contains m then none else mt c
  | none => none
def sMeth (m : Nat) (mt : Nat → Option (List D → Bs → R D)) (so : SV) (sa : SA) : SV := fun ρ h => (so ρ h).bind fun d h1 => match mthD m mt d h1 with
  | some f => (sa ρ h1).bind fun ds h2 => f (d :: ds) h2
  | none => .no
theorem lookup_none {f : Nat} (ok : T.Ok) (hf : f < T.n) : ∀ {fs : List Nat} {vs : List V}, fs.contains f = false → ((fs.map T.att).zip vs).lookup (T.att f) = none
  | [], vs, _ => by simp
  | g :: gs, [], _ => by simp
  | g :: gs, v :: vs, hc => by
    simp only [List.map_cons, List.zip_cons_cons]
    rw [List.lookup_cons]
    simp only [List.contains_cons, Bool.or_eq_false_iff] at hc
    have hne : (T.att f == T.att g) = false := by
      rw [beq_eq_false_iff_ne]
      intro z
      have := ok.inj f g hf z.symm
      subst this
      simp at hc
    rw [hne]
    exact lookup_none ok hf hc.2
theorem pv_meth {k : Nat} {m : Nat} {ob : Expr} {e0 : Expr} {es0 : List Expr} {apos pos : Pos} {so : SV} {sa : SA} {mt : Nat → Option (List D → Bs → R D)} (ok : T.Ok) (hK : X.K = T.K) (hm : m < T.n) (hr : Room k X.A) (tk : Takes X W)
    (hM : ∀ c cf, mt c = some cf → ∃ C f fd ps, T.cls c = some C ∧ Cls X.K C ∧ Meth X.K C (T.att m) f ∧ FnOk X.prog X.w X.K X.mg X.base (CX X.prog X.w) k f fd ps (spF T cf) ∧ Binds X.K fd ps [])
    (hb : noSuper ob = true) (hs : noStars (e0 :: es0) = true) (hn : (e0 :: es0).length < 30) (hl : (apos.endLine == pos.line) = true) (he : PE X ob (tV T W so)) (ha : PA X (e0 :: es0) (tA' T W sa)) : PE X (.Call (.Attribute ob (T.att m) apos) (e0 :: es0) [] pos) (tV T W (sMeth m mt so sa)) := by
  refine ⟨fun pins s σ H Q I w => ?_⟩
  obtain ⟨μ, ρ, h, r, e, o⟩ := w
  have w1 : tV T W so σ H (fun v H1 => ∃ μ1 d h1, Stp μ H μ1 H1 ∧ Rel T μ1 h1 H1 ∧ Rep T μ1 H1 d v ∧ OutV T W σ μ1 H1 Q (match mthD m mt d h1 with
    | some f => (sa ρ h1).bind fun ds h2 => f (d :: ds) h2
    | none => .no)) := ⟨μ, ρ, h, r, e, OutV.bind o⟩
  refine PySem.W.methodCall_KW (pl := plainOf ob X.env) (thn (he.run pins s σ H _ I w1) fun u s1 ⟨x, H1, I1, rx, μ1, d, h1, st1, r1, rv, o1⟩ => ?_) (mcall_tree hb hs hn hl)
  unfold mthD at o1
  split at o1
  · rename_i cf hcf
    split at hcf
    · rename_i c fs xs hi
      split at hcf
      · cases hcf
      · rename_i hc
        obtain ⟨a, C, dx, vs, e1, e2, e3, e4, e5⟩ := r1.insOf rv hi
        obtain ⟨C', f, fd, ps, f1, f2, f3, F, hbnd⟩ := hM c cf hcf
        rw [e2] at f1; cases f1
        subst e1
        obtain rfl : u = Value.ref a := rx
        refine getmeth_ok I1 e3 f2 f3 (lookup_none ok hm (by simpa using hc)) ?_
        have fin : ∀ (us : List Value) (s2 : Shared) (vs2 : List V) (H2 : Hp), Inv X pins σ H2 s2 → Vals vs2 us → (∃ μ2 ds h2, Stp μ1 H1 μ2 H2 ∧ Rel T μ2 h2 H2 ∧ Reps T μ2 H2 ds vs2 ∧ OutV T W σ μ2 H2 Q (cf (d :: ds) h2)) →
            wpAny (model X.prog X.w) X.A (call (.ref f) ([Value.ref a] ++ us)) (EP X pins σ Q) X.xe s2 := by
          rintro us s2 vs2 H2 I2 rv2 ⟨μ2, ds, h2, st2, r2, rr2, o2⟩
          exact run_fnSD (us := Value.ref a :: us) (vs := V.ref a :: vs2) (dvs := []) (E := WE W) F hr hbnd .nil (passAt tk σ) I2 (.cons rfl rv2) ⟨μ2, h2, d :: ds, r2, by simpa using Reps.cons (Rep.step st2 _ _ rv) rr2, OutV.sig o2⟩
        simp only [noStars, List.all_cons, Bool.and_eq_true, Bool.not_eq_true'] at hs
        have w2 : tA' T W sa σ H1 (fun vs2 H2 => ∃ μ2 ds h2, Stp μ1 H1 μ2 H2 ∧ Rel T μ2 h2 H2 ∧ Reps T μ2 H2 ds vs2 ∧ OutV T W σ μ2 H2 Q (cf (d :: ds) h2)) := ⟨μ1, ρ, h1, r1, e.step st1, OutV.bindA o1⟩
        refine PySem.W.callWith_K (first := [.ref a]) (h₀ := X.base) I.ok.mod.kin f3.kp (thn (ha.run pos pins s1 σ H1 _ I1 w2) fun us s2 ⟨vs2, H2, I2, rv2, q2⟩ => ⟨I2.kIn, ?_⟩) (star_no hs.1) (back_no (show noStars es0 = true from hs.2))
        exact fin us s2 vs2 H2 I2 rv2 q2
    · cases hcf
  · exact o1.elim
end
end VI
end
section
namespace VI
open PySem PySem.Spec PyProof.Rows L2
section
variable {X : Cx} {T : Tb} {W : WX} {μ μ' : Mu} {H H' : Hp} {h : Bs} {σ : Sg} {ρ : Ev}
def putN (f : Nat) : List Nat → List Nat
  | [] => [f]
  | g :: gs => if g = f then g :: gs else g :: putN f gs
def putX {α : Type} (f : Nat) (v : α) : List Nat → List α → List α
  | [], _ => [v]
  | g :: gs, x :: xs => if g = f then v :: xs else x :: putX f v gs xs
  | _ :: _, [] => []
theorem putF_zip (ok : T.Ok) {f : Nat} (hf : f < T.n) {y : V} : ∀ {fs : List Nat} {vs : List V}, fs.length = vs.length → putF (T.att f) y ((fs.map T.att).zip vs) = ((putN f fs).map T.att).zip (putX f y fs vs) ∧ (putN f fs).length = (putX f y fs vs).length
  | [], [], _ => ⟨rfl, rfl⟩
  | [], _ :: _, e => by simp at e
  | _ :: _, [], e => by simp at e
  | g :: gs, v :: vs, e => by
    simp only [List.map_cons, List.zip_cons_cons, putF, putN, putX]
    by_cases hg : g = f
    · subst hg
      simp only [if_true]
      exact ⟨rfl, by simpa using e⟩
    · have hne : ¬ T.att g = T.att f := fun z => hg (ok.inj f g hf z)
      obtain ⟨h1, h2⟩ := putF_zip ok hf (y := y) (fs := gs) (vs := vs) (by simpa using e)
      rw [if_neg hne, if_neg hg, if_neg hg, h1]
      exact ⟨rfl, by simp [h2]⟩
theorem Reps.putX {f : Nat} {x : D} {v : V} (r : Rep T μ H x v) : ∀ {fs : List Nat} {xs : List D} {vs : List V}, fs.length = vs.length → Reps T μ H xs vs → Reps T μ H (VI.putX f x fs xs) (VI.putX f v fs vs)
  | [], xs, vs, _, _ => .one r
  | g :: gs, [], vs, e, q => by simp only [Reps] at q; subst q; simp at e
  | g :: gs, y :: ys, vs, e, q => by
    simp only [Reps] at q
    obtain ⟨w, rr, rfl, q1, q2⟩ := q
    simp only [VI.putX]
    split
    · exact .cons r q2
    · exact .cons q1 (Reps.putX r (by simpa using e) q2)
theorem bels_putX {k f : Nat} {d : D} (hd : bel k d) : ∀ {fs : List Nat} {xs : List D}, bels k xs → bels k (putX f d fs xs)
  | [], xs, _ => by simp only [putX, bels]; exact ⟨hd, trivial⟩
  | g :: gs, [], _ => by simp [putX, bels]
  | g :: gs, y :: ys, h => by
    simp only [bels] at h
    simp only [putX]
    split
    · simp only [bels]; exact ⟨hd, h.2⟩
    · simp only [bels]; exact ⟨h.1, bels_putX hd h.2⟩
def setF (T : Tb) (f : Nat) (o v : D) (h : Bs) : R D := match o with
  | .ref b => (match h.bs[b]? with
    | some (.obj c fs xs) => if T.fok c f && okW h b v && decide (fs.length < 1000) then .ok .non { h with bs := h.bs.set b (.obj c (putN f fs) (putX f v fs xs)) } else .no
    | _ => .no)
  | _ => .no
def ssFld (T : Tb) (f : Nat) (so sv : SV) : SS := fun ρ h => (sv ρ h).toF ρ fun v h1 => (so ρ h1).toF ρ fun o h2 => (setF T f o v h2).toF ρ fun _ h3 => .nx ρ h3
theorem sw_att {o e : Expr} {x : Str} {p : Pos} {l : Nat} {env : Env} : swapsWith e (some (.Attribute o x p)) l env = pure false := by cases e <;> rfl
theorem psv_fld {o e : Expr} {f : Nat} {so sv : SV} {pos pos' : Pos} (ok : T.Ok) (hK : X.K = T.K) (ho : PE X o (tV T W so)) (he : PE X e (tV T W sv)) : PS X (.Assign [.Attribute o (T.att f) pos'] e pos) (tS' T W (ssFld T f so sv)) :=
  PS.imp (ps_fld ho he sw_att) fun D σ H ⟨μ, ρ, h, r, e, o⟩ => by
    refine ⟨μ, ρ, h, r, e, OutV.mono (OutS.ofV e o) ?_⟩
    rintro v H1 ⟨μ1, d, h1, s1, r1, e1, rv, o1⟩
    refine ⟨μ1, ρ, h1, r1, e1, OutV.mono (OutS.ofV e1 o1) ?_⟩
    rintro v2 H2 ⟨μ2, d2, h2, s2, r2, e2, rv2, o2⟩
    unfold setF at o2
    split at o2
    · rename_i b
      split at o2
      · rename_i c fs xs hb
        split at o2
        · rename_i hc
          simp only [Bool.and_eq_true, decide_eq_true_eq] at hc
          obtain ⟨⟨hf, hw⟩, hl⟩ := hc
          simp only [Rep] at rv2
          obtain ⟨a, f1, f2⟩ := rv2
          obtain ⟨C, dx, vs, f3, f4, f5, f6⟩ := r2.at_ _ _ a hb f1
          obtain ⟨cl, na⟩ := ok.fld c f C hf f3
          obtain ⟨z1, z2⟩ := putF_zip ok (ok.lt c f hf) (y := v) f5
          have rv' : Rep T μ2 H2 d v := Rep.step s2 _ _ rv
          have hlk : ∀ z, h2.bs[b]? = some z → lkd z = false := fun z e => by rw [hb] at e; cases e; rfl
          have st : Stp μ2 H2 μ2 (upd H2 a (.ins C dx (putF (T.att f) v ((fs.map T.att).zip vs)))) := Stp.put (List.mem_of_getElem? f1) (r2.free f1 hlk)
          refine ⟨a, C, dx, _, f2, f4, by rw [hK]; exact cl, by rw [hK]; exact na, ?_, ?_⟩
          · rw [List.length_zip, List.length_map]; omega
          · refine o2 μ2 _ σ st (r2.put f1 hlk rfl ⟨C, dx, _, f3, by rw [upd_same, z1], z2, Reps.putX (Rep.step st _ _ rv') f5 (Reps.step st _ _ f6)⟩ fun k hk hb' => ?_) (e2.step st)
            exact bels_putX (okW_bel r2 hw k hk hb') (r2.wf k hk b _ hb' hb)
        · exact o2.elim
      · exact o2.elim
    · exact o2.elim
mutual
def frzD (g : Nat → Option D) : D → Option D
  | .tup xs => (match frzDs g xs with | some ys => some (.tup ys) | none => none)
  | .tpl xs => (match frzDs g xs with | some ys => some (.tpl ys) | none => none)
  | .lst xs => (match frzDs g xs with | some ys => some (.lst ys) | none => none)
  | .dct ks vs => (match frzDs g vs with | some ys => some (.dct ks ys) | none => none)
  | .obj c fs vs => (match frzDs g vs with | some ys => some (.obj c fs ys) | none => none)
  | .exo c fs vs => (match frzDs g vs with | some ys => some (.exo c fs ys) | none => none)
  | .ref b => g b
  | .non => some .non
  | .bl b => some (.bl b)
  | .int i => some (.int i)
  | .str x => some (.str x)
  | .scr ns => some (.scr ns)
def frzDs (g : Nat → Option D) : List D → Option (List D)
  | [] => some []
  | x :: xs => (match frzD g x with
    | some y => (match frzDs g xs with | some ys => some (y :: ys) | none => none)
    | none => none)
end
def frzR (fb : Nat) (bs : List Bx) : Nat → Nat → Option D
  | 0, b => if b < fb then some (.ref b) else none
  | n + 1, b => if b < fb then some (.ref b) else match bs[b]? with
    | some (.lst _ xs) => (match frzDs (frzR fb bs n) xs with | some ys => some (.lst ys) | none => none)
    | some (.obj c fs xs) => (match frzDs (frzR fb bs n) xs with | some ys => some (.obj c fs ys) | none => none)
    | some (.dfz ks xs) => (match frzDs (frzR fb bs n) xs with | some ys => some (.dct ks ys) | none => none)
    | _ => none
def Mu.cut (μ : Mu) (n : Nat) : Mu := { μ with ad := μ.ad.take n, fb := μ.fb.tail }
theorem cut_no {n : Nat} {a : Addr} (n' : μ.no a) : (μ.cut n).no a := ⟨fun z => n'.1 (List.mem_of_mem_take z), n'.2⟩
mutual
theorem frzD_ok {n : Nat} {g : Nat → Option D} (hg : ∀ b d v, g b = some d → Rep T μ H (.ref b) v → Rep T (μ.cut n) H d v) : ∀ (d d' : D) (v : V), frzD g d = some d' → Rep T μ H d v → Rep T (μ.cut n) H d' v
  | .non, d', v, e, q => by simp only [frzD] at e; cases e; simpa only [Rep] using q
  | .bl b, d', v, e, q => by simp only [frzD] at e; cases e; simpa only [Rep] using q
  | .int b, d', v, e, q => by simp only [frzD] at e; cases e; simpa only [Rep] using q
  | .str b, d', v, e, q => by simp only [frzD] at e; cases e; simpa only [Rep] using q
  | .scr b, d', v, e, q => by
    simp only [frzD] at e; cases e
    simp only [Rep] at q ⊢
    obtain ⟨a, e1, e2⟩ := q
    refine ⟨a, e1, ?_⟩
    rcases e2 with ⟨z1, z2⟩ | z
    · exact .inl ⟨z1, cut_no z2⟩
    · exact .inr z
  | .ref b, d', v, e, q => by simp only [frzD] at e; exact hg b d' v e q
  | .dct ks xs, d', v, e, q => by
    simp only [frzD] at e
    cases z : frzDs g xs with
    | none => rw [z] at e; cases e
    | some ys =>
      rw [z] at e; cases e
      simp only [Rep] at q ⊢
      obtain ⟨a, o, vs, e1, e2, e3, e4, e5⟩ := q
      exact ⟨a, o, vs, e1, e2, cut_no e3, e4, frzDs_ok hg xs ys vs z e5⟩
  | .tup xs, d', v, e, q => by
    simp only [frzD] at e
    cases z : frzDs g xs with
    | none => rw [z] at e; cases e
    | some ys =>
      rw [z] at e; cases e
      simp only [Rep] at q ⊢
      obtain ⟨a, vs, e1, e2, e3, e4⟩ := q
      exact ⟨a, vs, e1, e2, cut_no e3, frzDs_ok hg xs ys vs z e4⟩
  | .tpl xs, d', v, e, q => by
    simp only [frzD] at e
    cases z : frzDs g xs with
    | none => rw [z] at e; cases e
    | some ys =>
      rw [z] at e; cases e
      simp only [Rep] at q ⊢
      obtain ⟨a, o, vs, e1, e2, c, e3, e4⟩ := q
      exact ⟨a, o, vs, e1, e2, c, cut_no e3, frzDs_ok hg xs ys vs z e4⟩
  | .lst xs, d', v, e, q => by
    simp only [frzD] at e
    cases z : frzDs g xs with
    | none => rw [z] at e; cases e
    | some ys =>
      rw [z] at e; cases e
      simp only [Rep] at q ⊢
      obtain ⟨a, vs, e1, e2, e3, e4⟩ := q
      exact ⟨a, vs, e1, e2, cut_no e3, frzDs_ok hg xs ys vs z e4⟩
  | .obj c fs xs, d', v, e, q => by
    simp only [frzD] at e
    cases z : frzDs g xs with
    | none => rw [z] at e; cases e
    | some ys =>
      rw [z] at e; cases e
      simp only [Rep] at q ⊢
      obtain ⟨a, C, dx, vs, e1, e2, e3, e4, e5, e6⟩ := q
      exact ⟨a, C, dx, vs, e1, e2, e3, cut_no e4, e5, frzDs_ok hg xs ys vs z e6⟩
  | .exo c fs xs, d', v, e, q => by
    simp only [frzD] at e
    cases z : frzDs g xs with
    | none => rw [z] at e; cases e
    | some ys =>
      rw [z] at e; cases e
      simp only [Rep] at q ⊢
      obtain ⟨a, C, o, us, vs, e1, e2, e3, eo, n, x, l, r⟩ := q
      exact ⟨a, C, o, us, vs, e1, e2, e3, eo, cut_no n, x.imp fun dx u z m => ⟨z, cut_no m⟩, l, frzDs_ok hg xs ys vs z r⟩
theorem frzDs_ok {n : Nat} {g : Nat → Option D} (hg : ∀ b d v, g b = some d → Rep T μ H (.ref b) v → Rep T (μ.cut n) H d v) : ∀ (d d' : List D) (v : List V), frzDs g d = some d' → Reps T μ H d v → Reps T (μ.cut n) H d' v
  | [], d', v, e, q => by simp only [frzDs] at e; cases e; simpa only [Reps] using q
  | x :: xs, d', v, e, q => by
    simp only [frzDs] at e
    cases z : frzD g x with
    | none => rw [z] at e; cases e
    | some y =>
      rw [z] at e
      cases z2 : frzDs g xs with
      | none => rw [z2] at e; cases e
      | some ys =>
        rw [z2] at e; cases e
        simp only [Reps] at q ⊢
        obtain ⟨w, r, e1, q1, q2⟩ := q
        exact ⟨w, r, e1, frzD_ok hg x y w z q1, frzDs_ok hg xs ys r z2 q2⟩
end
theorem frzR_ok (r : Rel T μ h H) {fb : Nat} : ∀ (n b : Nat) (d : D) (v : V), frzR fb h.bs n b = some d → Rep T μ H (.ref b) v → Rep T (μ.cut fb) H d v := by
  have low : ∀ (b : Nat) (v : V), b < fb → Rep T μ H (.ref b) v → Rep T (μ.cut fb) H (.ref b) v := fun b v hb q => by
    simp only [Rep] at q ⊢
    obtain ⟨a, e1, e2⟩ := q
    exact ⟨a, by show (μ.ad.take fb)[b]? = some a; rw [List.getElem?_take_of_lt hb]; exact e1, e2⟩
  have out : ∀ (b : Nat) (a : Addr), ¬ b < fb → μ.ad[b]? = some a → (μ.cut fb).no a := fun b a hb e => by
    refine ⟨fun z => ?_, fun z => (r.prh a z).2 (List.mem_of_getElem? e)⟩
    obtain ⟨j, hj⟩ := List.getElem?_of_mem (show a ∈ μ.ad.take fb from z)
    have hj' : j < fb := by
      have := (List.getElem?_eq_some_iff.mp hj).1
      rw [List.length_take] at this
      omega
    rw [List.getElem?_take_of_lt hj'] at hj
    obtain ⟨p1, q1⟩ := List.getElem?_eq_some_iff.mp e
    obtain ⟨p2, q2⟩ := List.getElem?_eq_some_iff.mp hj
    have := (List.getElem_inj (h₀ := p1) (h₁ := p2) r.nd).mp (q1.trans q2.symm)
    omega
  intro n
  induction n with
  | zero =>
    intro b d v e q
    simp only [frzR] at e
    split at e
    · rename_i hb; cases e; exact low b v hb q
    · cases e
  | succ n ih =>
    intro b d v e q
    simp only [frzR] at e
    split at e
    · rename_i hb; cases e; exact low b v hb q
    · rename_i hb
      have q' := q
      simp only [Rep] at q'
      obtain ⟨a, e1, e2⟩ := q'
      split at e
      · rename_i lk xs hx
        cases z : frzDs (frzR fb h.bs n) xs with
        | none => rw [z] at e; cases e
        | some ys =>
          rw [z] at e; cases e
          obtain ⟨vs, e3, e4⟩ := r.at_ _ _ a hx e1
          simp only [Rep]
          exact ⟨a, vs, e2, e3, out b a hb e1, frzDs_ok ih xs ys vs z e4⟩
      · rename_i c fs xs hx
        cases z : frzDs (frzR fb h.bs n) xs with
        | none => rw [z] at e; cases e
        | some ys =>
          rw [z] at e; cases e
          obtain ⟨C, dx, vs, e3, e4, e5, e6⟩ := r.at_ _ _ a hx e1
          simp only [Rep]
          exact ⟨a, C, dx, vs, e2, e3, e4, out b a hb e1, e5, frzDs_ok ih xs ys vs z e6⟩
      · rename_i ks xs hx
        cases z : frzDs (frzR fb h.bs n) xs with
        | none => rw [z] at e; cases e
        | some ys =>
          rw [z] at e; cases e
          obtain ⟨o, vs, e3, e4, e5⟩ := r.at_ _ _ a hx e1
          simp only [Rep]
          exact ⟨a, o, vs, e2, e3, out b a hb e1, e4, frzDs_ok ih xs ys vs z e5⟩
      · cases e
mutual
theorem Rep.cut {n : Nat} : ∀ (d : D) (v : V), bel n d → Rep T μ H d v → Rep T (μ.cut n) H d v
  | .non, v, _, q => by simpa only [Rep] using q
  | .bl b, v, _, q => by simpa only [Rep] using q
  | .int b, v, _, q => by simpa only [Rep] using q
  | .str b, v, _, q => by simpa only [Rep] using q
  | .scr b, v, _, q => by
    simp only [Rep] at q ⊢
    obtain ⟨a, e1, e2⟩ := q
    refine ⟨a, e1, ?_⟩
    rcases e2 with ⟨z1, z2⟩ | z
    · exact .inl ⟨z1, cut_no z2⟩
    · exact .inr z
  | .ref b, v, hb, q => by
    simp only [bel] at hb
    simp only [Rep] at q ⊢
    obtain ⟨a, e1, e2⟩ := q
    exact ⟨a, by show (μ.ad.take n)[b]? = some a; rw [List.getElem?_take_of_lt hb]; exact e1, e2⟩
  | .dct ks xs, v, hb, q => by
    simp only [bel] at hb
    simp only [Rep] at q ⊢
    obtain ⟨a, o, vs, e1, e2, e3, e4, e5⟩ := q
    exact ⟨a, o, vs, e1, e2, cut_no e3, e4, Reps.cutR xs vs hb e5⟩
  | .tup xs, v, hb, q => by
    simp only [bel] at hb
    simp only [Rep] at q ⊢
    obtain ⟨a, vs, e1, e2, e3, e4⟩ := q
    exact ⟨a, vs, e1, e2, cut_no e3, Reps.cutR xs vs hb e4⟩
  | .tpl xs, v, hb, q => by
    simp only [bel] at hb
    simp only [Rep] at q ⊢
    obtain ⟨a, o, vs, e1, e2, c, e3, e4⟩ := q
    exact ⟨a, o, vs, e1, e2, c, cut_no e3, Reps.cutR xs vs hb e4⟩
  | .lst xs, v, hb, q => by
    simp only [bel] at hb
    simp only [Rep] at q ⊢
    obtain ⟨a, vs, e1, e2, e3, e4⟩ := q
    exact ⟨a, vs, e1, e2, cut_no e3, Reps.cutR xs vs hb e4⟩
  | .obj c fs xs, v, hb, q => by
    simp only [bel] at hb
    simp only [Rep] at q ⊢
    obtain ⟨a, C, dx, vs, e1, e2, e3, e4, e5, e6⟩ := q
    exact ⟨a, C, dx, vs, e1, e2, e3, cut_no e4, e5, Reps.cutR xs vs hb e6⟩
  | .exo c fs xs, v, hb, q => by
    simp only [bel] at hb
    simp only [Rep] at q ⊢
    obtain ⟨a, C, o, us, vs, e1, e2, e3, eo, n, x, l, r⟩ := q
    exact ⟨a, C, o, us, vs, e1, e2, e3, eo, cut_no n, x.imp fun dx u z m => ⟨z, cut_no m⟩, l, Reps.cutR xs vs hb r⟩
theorem Reps.cutR {n : Nat} : ∀ (d : List D) (v : List V), bels n d → Reps T μ H d v → Reps T (μ.cut n) H d v
  | [], v, _, q => by simpa only [Reps] using q
  | x :: xs, v, hb, q => by
    simp only [bels] at hb
    simp only [Reps] at q ⊢
    obtain ⟨w, r, e1, q1, q2⟩ := q
    exact ⟨w, r, e1, Rep.cut x w hb.1 q1, Reps.cutR xs r hb.2 q2⟩
end
def inB (h : Bs) : Bs := { h with fbs := h.bs.length :: h.fbs }
def Mu.enter (μ : Mu) (n : Nat) : Mu := { μ with fb := n :: μ.fb }
theorem Rel.enter (r : Rel T μ h H) : Rel T (μ.enter h.bs.length) (inB h) H := by
  have hmv : ∀ {b : Bx} {a : Addr}, RepB T μ H b a → RepB T (μ.enter h.bs.length) H b a := fun q => RepB.mv (μ := μ) (μ' := μ.enter h.bs.length) (fun _ n => n) (fun _ _ e => e) q
  refine ⟨congrArg (List.cons _) r.fb, r.prh, r.lks, r.lkf, r.len, r.nd, fun i b a e1 e2 => hmv (r.at_ i b a e1 e2), fun k hk => ?_, List.pairwise_cons.mpr ⟨fun k hk => r.lo k hk, r.ord⟩, fun k hk i b hi e => ?_⟩
  · rcases List.mem_cons.mp hk with z | z
    · rw [z]; exact Nat.le_refl _
    · exact r.lo k z
  · rcases List.mem_cons.mp hk with z | z
    · have hl : i < μ.ad.length := by rw [r.len]; rw [z] at hi; exact hi
      have q := r.at_ i b _ e (List.getElem?_eq_getElem hl)
      rw [z, ← r.len]
      cases b with
      | lst lk xs => obtain ⟨vs, _, q⟩ := q; exact Rel.bels' q
      | dct lk ks xs => obtain ⟨vs, _, _, q⟩ := q; exact Rel.bels' q
      | dfz ks xs => obtain ⟨o, vs, _, _, q⟩ := q; exact Rel.bels' q
      | obj c fs xs => obtain ⟨C, dx, vs, _, _, _, q⟩ := q; exact Rel.bels' q
      | tbl t => exact True.intro
    · exact r.wf k z i b hi e
def outB (h0 h : Bs) : Bs := { fbs := h0.fbs, bs := h.bs.take h0.bs.length }
theorem Rel.leave {h0 : Bs} {μ0 : Mu} {H0 : Hp} (r0 : Rel T μ0 h0 H0) (s : Stp (μ0.enter h0.bs.length) H0 μ H) (r : Rel T μ h H) : Rel T (μ.cut h0.bs.length) (outB h0 h) H ∧ Stp μ0 H0 (μ.cut h0.bs.length) H := by
  have hf : h.fbs = h0.bs.length :: h0.fbs := by rw [r.fb, s.fbe, r0.fb]; rfl
  have hfb : μ.fb = h0.bs.length :: μ0.fb := s.fbe
  have hn : h0.bs.length ≤ h.bs.length := r.lo _ (by rw [hf]; exact List.mem_cons_self)
  have ho := r.ord
  rw [hf] at ho
  have ho1 := (List.pairwise_cons.mp ho).1
  refine ⟨⟨by show h0.fbs = μ.fb.tail; rw [hfb]; exact r0.fb, fun a ha => ⟨(r.prh a ha).1, fun z => (r.prh a ha).2 (List.mem_of_mem_take z)⟩, fun a ha => ?_, fun b xs a e1 e1l e2 => ?_, ?_, r.nd.sublist (List.take_sublist _ _), fun i b a e1 e2 => ?_, fun k hk => ?_, (List.pairwise_cons.mp ho).2, fun k hk i b hi e => ?_⟩, ⟨by show μ.fb.tail = μ0.fb; rw [hfb]; rfl, fun i a e => ?_, s.lks, s.prs, s.prn, s.keep', fun p hp => s.new p (List.mem_of_mem_take hp)⟩⟩
  · obtain ⟨b, xs, e1, e2, e2l⟩ := r.lks a ha
    have ha0 : a ∈ μ0.lk := by
      have := s.lks
      show a ∈ (μ0.enter h0.bs.length).lk
      rw [← this]; exact ha
    obtain ⟨b0, xs0, f1, f2, _⟩ := r0.lks a ha0
    have hb0 : b0 < h0.bs.length := (List.getElem?_eq_some_iff.mp f2).1
    have g1 := s.pre b0 a f1
    have hbb : b = b0 := by
      obtain ⟨p1, q1⟩ := List.getElem?_eq_some_iff.mp e1
      obtain ⟨p2, q2⟩ := List.getElem?_eq_some_iff.mp g1
      exact (List.getElem_inj (h₀ := p1) (h₁ := p2) r.nd).mp (q1.trans q2.symm)
    subst hbb
    exact ⟨b, xs, by show (μ.ad.take _)[b]? = _; rw [List.getElem?_take_of_lt hb0]; exact e1, by show (h.bs.take _)[b]? = _; rw [List.getElem?_take_of_lt hb0]; exact e2, e2l⟩
  · have hb : b < h0.bs.length := by
      have := (List.getElem?_eq_some_iff.mp (show (h.bs.take h0.bs.length)[b]? = _ from e1)).1
      rw [List.length_take] at this; omega
    have e1' : (h.bs.take h0.bs.length)[b]? = _ := e1
    have e2' : (μ.ad.take h0.bs.length)[b]? = _ := e2
    rw [List.getElem?_take_of_lt hb] at e1' e2'
    exact r.lkf b xs a e1' e1l e2'
  · show (μ.ad.take _).length = (h.bs.take _).length
    rw [List.length_take, List.length_take, r.len]
  · have hi : i < h0.bs.length := by
      have := (List.getElem?_eq_some_iff.mp (show (h.bs.take h0.bs.length)[i]? = _ from e1)).1
      rw [List.length_take] at this; omega
    have e1' : (h.bs.take h0.bs.length)[i]? = _ := e1
    have e2' : (μ.ad.take h0.bs.length)[i]? = _ := e2
    rw [List.getElem?_take_of_lt hi] at e1' e2'
    have q := r.at_ i b a e1' e2'
    have w := r.wf h0.bs.length (by rw [hf]; exact List.mem_cons_self) i b hi e1'
    cases b with
    | lst lk xs => obtain ⟨vs, e3, q⟩ := q; exact ⟨vs, e3, Reps.cutR _ _ w q⟩
    | dct lk ks xs => obtain ⟨vs, e3, e4, q⟩ := q; exact ⟨vs, e3, e4, Reps.cutR _ _ w q⟩
    | dfz ks xs => obtain ⟨o, vs, e3, e4, q⟩ := q; exact ⟨o, vs, e3, e4, Reps.cutR _ _ w q⟩
    | obj c fs xs => obtain ⟨C, dx, vs, e3, e4, e5, q⟩ := q; exact ⟨C, dx, vs, e3, e4, e5, Reps.cutR _ _ w q⟩
    | tbl t => obtain ⟨a1, ps, e3, e4, e5⟩ := q; exact ⟨a1, ps, e3, e4, fun pos cv z => by obtain ⟨c, f1, f2, f3⟩ := e5 pos cv z; exact ⟨c, f1, f2, cut_no f3⟩⟩
  · have := ho1 k hk
    show k ≤ (h.bs.take _).length
    rw [List.length_take]
    omega
  · have hk' := ho1 k hk
    have hi' : i < h0.bs.length := by omega
    have e' : (h.bs.take h0.bs.length)[i]? = _ := e
    rw [List.getElem?_take_of_lt hi'] at e'
    exact r.wf k (by rw [hf]; exact List.mem_cons_of_mem _ hk) i b hi e'
  · have hl : i < h0.bs.length := by rw [← r0.len]; exact (List.getElem?_eq_some_iff.mp e).1
    show (μ.ad.take _)[i]? = _
    rw [List.getElem?_take_of_lt hl]
    exact s.pre i a e
end
end VI
end
section
namespace VI
open PySem PySem.Spec PyProof.Rows L2
def finF (h : Bs) : F → R D
  | .rt d h' => (match frzD (frzR h.bs.length h'.bs 4) d with | some d' => .ok d' (outB h h') | none => .no)
  | .nx _ h' => .ok .non (outB h h')
  | .ex x _ h' => if noRs x.vs then .ex x (outB h h') else .no
  | _ => .no
def slots (ns : Nat) (ds : List D) : Ev := ds.map some ++ List.replicate (ns - ds.length) none
def runFn (np ns : Nat) (body : SS) (ds : List D) (h : Bs) : R D := if ds.length = np then finF h (body (slots ns ds) (inB h)) else .no
section
variable {T : Tb} {W : WX} {μ μ' : Mu} {H H' : Hp} {h : Bs} {σ : Sg} {ρ : Ev}
theorem RepE.start {N : List Str} {ds : List D} {vs : List V} (q : Reps T μ H ds vs) : RepE T μ H (slots N.length ds) (L2.start N vs) := by
  refine ⟨by simp [slots, L2.start, q.length], fun i d e => ?_⟩
  unfold slots at e
  unfold L2.start
  by_cases hi : i < ds.length
  · rw [List.getElem?_append_left (by simpa using hi), List.getElem?_map] at e
    cases z : ds[i]? with
    | none => rw [z] at e; cases e
    | some x =>
      rw [z] at e
      simp at e
      subst e
      obtain ⟨v, e1, r⟩ := q.get z
      refine ⟨v, ?_, r⟩
      rw [List.getElem?_append_left (by rw [List.length_map, ← q.length]; exact hi), List.getElem?_map, e1]
      rfl
  · rw [List.getElem?_append_right (by simpa using hi), List.getElem?_replicate] at e
    split at e <;> cases e
theorem RepX.cut {n : Nat} {x : Ex} {cls : Value} {d : Option Addr} (q : RepX T μ H x cls d) (hn : noRs x.vs = true) : RepX T (μ.cut n) H x cls d := by
  obtain ⟨C, e1, e2, q⟩ := q
  refine ⟨C, e1, e2, ?_⟩
  rcases q with q | ⟨dx, vs, e3, e4, e5, e6, q⟩
  · exact .inl q
  · exact .inr ⟨dx, vs, e3, e4, cut_no e5, e6, Reps.cutR _ _ (noRs.bels _ hn) q⟩
theorem fin_ok {Q : VK} {E : XK} {f : F} (r : Rel T μ h H) (o : OutV T (fun c d _ H => E c d H) [] μ H Q (finF h f)) : OutS T (fun c d _ H => E c d H) (μ.enter h.bs.length) H { nx := fun _ H' => Q .non H', rt := Q } f := by
  cases f with
  | rt d h1 =>
    intro μ1 H1 v s r1 rv
    simp only [finF] at o
    cases z : frzD (frzR h.bs.length h1.bs 4) d with
    | none => rw [z] at o; exact o.elim
    | some d' =>
      rw [z] at o
      obtain ⟨r2, s2⟩ := Rel.leave r s r1
      exact o _ H1 v s2 r2 (frzD_ok (fun b d v => frzR_ok r1 4 b d v) d d' v z rv)
  | nx ρ1 h1 =>
    intro μ1 H1 σ1 s r1 e1
    obtain ⟨r2, s2⟩ := Rel.leave r s r1
    exact o _ H1 .non s2 r2 rep_nil
  | ex x ρ1 h1 =>
    intro μ1 H1 σ1 cls d s r1 e1 q
    simp only [finF] at o
    split at o
    · rename_i hn
      obtain ⟨r2, s2⟩ := Rel.leave r s r1
      exact o _ H1 cls d s2 r2 (q.cut hn)
    · exact o.elim
  | bk ρ1 h1 => exact o.elim
  | ct ρ1 h1 => exact o.elim
  | no => exact o
theorem fn_sound {P : Program} {w : World} {mg : Str → Option Value} {base : Heap} {x qual : Str} {params : Arguments} {body : List Stmt} {scope : Scope} {dvs : List V} {kws : List (Str × V)} {f : Addr} {fd : FuncData} {N ps : List Str} {k : Nat} {ss : SS}
    (F : FunD T.K x qual params body scope dvs kws f fd) (S : FnScope N ps scope)
    (hb : ∀ (cdv : Value) (A : Around) (outer : List Env) (s : Shared) (H : Hp) (E : XK), Room k (A.deeper (envOfC qual scope s.heap.objs.size f cdv)) →
      PSs (cxOf (CX P w) P w T.K mg base N qual scope f cdv A outer s H E) body (tS' T (fun c d _ H => E c d H) ss)) :
    FnOk P w T.K mg base (CX P w) (k + 1) f fd ps (spF T (runFn ps.length N.length ss)) := by
  refine F.ok S (fun vs H Q E h => ?_) (fun cdv A outer s H vs Q E hr h => ?_)
  · obtain ⟨μ, hh, ds, r, q, o⟩ := h
    unfold runFn at o
    split at o
    · rename_i hl
      rw [← q.length]; exact hl
    · exact o.elim
  · refine ⟨_, hb cdv A outer s H E hr, ?_⟩
    obtain ⟨μ, hh, ds, r, q, o⟩ := h
    unfold runFn at o
    split at o
    · exact ⟨μ.enter hh.bs.length, _, inB hh, r.enter, RepE.start (Reps.mv (μ := μ) (μ' := μ.enter hh.bs.length) (fun _ n => n) (fun _ _ e => e) _ _ q), fin_ok r o⟩
    · exact o.elim
end
end VI
end
section
namespace VI
open PySem PySem.Spec PyProof.Rows L2
section
variable {X : Cx} {CX : CXT} {k : Nat} {f C : Addr} {fd : FuncData} {ps : List Str} {sp : Sp} {dvs : List V} {ds : List Value} {E : Sg → XK} {x : Str} {p pos : Pos} {e : Expr} {es : List Expr} {t : TA}
def tMakeS (C : Addr) (sp : Sp) (dvs : List V) (E : Sg → XK) (t : TA) : TE := fun σ H Q => t σ H fun vs H1 => ∀ x dx, H1 x = none → H1 dx = none → dx ≠ x →
  sp (.ref x :: (vs ++ dvs)) (upd (upd H1 dx (.own x)) x (.ins C dx [])) (fun v H2 => v = .non ∧ Q (.ref x) H2) (E σ)
theorem run_makeS {pins : List (Addr × Obj)} {σ : Sg} {H : Hp} {s : Shared} {Q : VK} {us : List Value} {vs : List V} (M : Mk X.K C f) (F : FnOk X.prog X.w X.K X.mg X.base CX k f fd ps sp) (hr : Room (k + 1) X.A) (hb : Binds X.K fd ps ds) (hd : Vals dvs ds)
    (hx : PassesAt CX X σ (E σ)) (I : Inv X pins σ H s) (r : Vals vs us)
    (h : ∀ x dx, H x = none → H dx = none → dx ≠ x → sp (.ref x :: (vs ++ dvs)) (upd (upd H dx (.own x)) x (.ins C dx [])) (fun v H2 => v = .non ∧ Q (.ref x) H2) (E σ)) :
    wpAny (model X.prog X.w) X.A (call (.ref C) us) (EP X pins σ Q) X.xe s := by
  have hq := h (s.heap.objs.size + 1) s.heap.objs.size (I.hok.fresh (Nat.le_succ _)) (I.hok.fresh (Nat.le_refl _)) (Nat.ne_of_lt (Nat.lt_succ_self _))
  have I2 := Inv.made (C := C) I
  have r2 : Vals (V.ref (s.heap.objs.size + 1) :: (vs ++ dvs)) (Value.ref (s.heap.objs.size + 1) :: (us ++ ds)) := .cons rfl (r.append hd)
  have hl : (Value.ref (s.heap.objs.size + 1) :: us ++ ds).length = ps.length := by
    have e := r2.length
    rw [F.len _ _ _ _ hq] at e
    exact e.symm
  refine wpAny_call (make_map (f := f) I.kIn M.makes M.init (beq_iff_eq.mp M.fn) (codeAny_mono (F.run _ X.stack _ _ ⟨Value.ref (s.heap.objs.size + 1) :: us, []⟩ (Value.ref (s.heap.objs.size + 1) :: (us ++ ds)) _ _ (E σ) (hr.make C us [])
    (I2.env0.make C us []) (hb _ (Value.ref (s.heap.objs.size + 1) :: us) I2.kIn hl) r2 hq) fun r s' hq' => ?_))
  cases r with
  | error e => exact hx pins _ _ e s' I2 hq'
  | ok fl =>
    cases fl with
    | ret u =>
      obtain ⟨v, H', I3, rv, ev, q3⟩ := I2.after hq'
      subst ev
      exact ⟨rv, ⟨V.ref (s.heap.objs.size + 1), H', I3, rfl, q3⟩⟩
    | next => exact False.elim hq'
    | brk => exact False.elim hq'
    | cont => exact False.elim hq'
theorem pe_makeS (M : Mk X.K C f) (F : FnOk X.prog X.w X.K X.mg X.base CX k f fd ps sp) (hr : Room (k + 1) X.A) (hg : Gl X x) (hm : X.mg x = some (.ref C)) (hb : Binds X.K fd ps ds) (hd : Vals dvs ds) (hx : ∀ σ, PassesAt CX X σ (E σ))
    (ha : PA X (e :: es) t) (hdb : (x == ("__debug__" : Str)) = false) (he : starEach (e :: es) X.env = (false, eval e X.env) :: starEach es X.env) (hpl : (backTo pos (starEach es X.env)).any (·.1) = false) :
    PE X (.Call (.Name x p) (e :: es) [] pos) (tMakeS C sp dvs E t) := by
  refine ⟨fun pins s σ H Q I h => ?_⟩
  refine wpAny_Call_Name_kw (ld_glob I hg hm ?_ hdb)
  refine PySem.W.callWith_K (h₀ := X.base) I.ok.mod.kin M.kp (thn (ha.run pos pins s σ H _ I h) fun us s1 ⟨vs, H1, I1, r, q⟩ => ⟨I1.kIn, ?_⟩) he hpl
  exact run_makeS M F hr hb hd (hx σ) I1 r q
end
def makeD (c : Nat) (fz : Bool) (init : List D → Bs → R D) (ds : List D) (h : Bs) : R D :=
  match init (.ref h.bs.length :: ds) { fbs := h.bs.length :: h.fbs, bs := h.bs ++ [.obj c [] []] } with
  | .ok .non h2 => (match frzR h.bs.length h2.bs 4 h.bs.length with | some d => .ok d (outB h h2) | none => .no)
  | .ex x h2 => if noRs x.vs then .ex x (outB h h2) else .no
  | _ => .no
section
variable {X : Cx} {T : Tb} {W : WX} {μ μ' : Mu} {H H' : Hp} {h : Bs} {σ : Sg} {ρ : Ev}
theorem make_imp {c : Nat} {C : Addr} {fz : Bool} {init : List D → Bs → R D} {sa : SA} (hC : T.cls c = some C) : ∀ σ H Q, tV T W (sCall (makeD c fz init) sa) σ H Q → tMakeS C (spF T init) [] (WE W) (tA' T W sa) σ H Q := fun σ H Q ⟨μ, ρ, h, r, e, o⟩ => by
  refine ⟨μ, ρ, h, r, e, OutA.mono (OutV.bindA o) ?_⟩
  rintro vs H1 ⟨μ1, ds, h1, s1, r1, rv, o1⟩ x dx hx hdx hne
  rw [List.append_nil]
  have r2 : Rel T (μ1.enter h1.bs.length) (inB h1) H1 := r1.enter
  have sd : Stp (μ1.enter h1.bs.length) H1 (μ1.enter h1.bs.length) (upd H1 dx (.own x)) := Stp.laid hdx
  have r3 : Rel T (μ1.enter h1.bs.length) (inB h1) (upd H1 dx (.own x)) := r2.laid hdx
  have hx' : upd H1 dx (.own x) x = none := by rw [upd_ne (Ne.symm hne)]; exact hx
  have sb : Stp (μ1.enter h1.bs.length) (upd H1 dx (.own x)) ((μ1.enter h1.bs.length).push x) (upd (upd H1 dx (.own x)) x (.ins C dx [])) := Stp.box hx'
  have r4 : Rel T ((μ1.enter h1.bs.length).push x) { (inB h1) with bs := (inB h1).bs ++ [.obj c [] []] } (upd (upd H1 dx (.own x)) x (.ins C dx [])) :=
    r3.box hx' rfl ⟨C, dx, [], hC, upd_same, rfl, .nil⟩
  have hxa : ((μ1.enter h1.bs.length).push x).ad[h1.bs.length]? = some x := by
    show (μ1.ad ++ [x])[h1.bs.length]? = some x
    rw [← r1.len]; simp
  have q4 : Reps T ((μ1.enter h1.bs.length).push x) (upd (upd H1 dx (.own x)) x (.ins C dx [])) (.ref h1.bs.length :: ds) (.ref x :: vs) :=
    .cons (by simp only [Rep]; exact ⟨x, hxa, rfl⟩) (Reps.step (sd.trans sb) _ _ (Reps.mv (μ := μ1) (μ' := μ1.enter h1.bs.length) (fun _ n => n) (fun _ _ e => e) _ _ rv))
  refine ⟨_, _, _, r4, q4, ?_⟩
  unfold makeD at o1
  have sAll := sd.trans sb
  cases z : init (.ref h1.bs.length :: ds) { fbs := h1.bs.length :: h1.fbs, bs := h1.bs ++ [.obj c [] []] } with
  | no => rw [z] at o1; exact o1.elim
  | ex y h2 =>
    have z' : init (.ref h1.bs.length :: ds) { (inB h1) with bs := (inB h1).bs ++ [.obj c [] []] } = .ex y h2 := z
    rw [z']
    rw [z] at o1
    simp only at o1
    split at o1
    · rename_i hn
      intro μ5 H5 cls d s5 r5 q5
      obtain ⟨r6, s6⟩ := Rel.leave r1 (sAll.trans s5) r5
      exact o1 _ H5 cls d s6 r6 (q5.cut hn)
    · exact o1.elim
  | ok dv h2 =>
    have z' : init (.ref h1.bs.length :: ds) { (inB h1) with bs := (inB h1).bs ++ [.obj c [] []] } = .ok dv h2 := z
    rw [z']
    rw [z] at o1
    cases dv with
    | non =>
      simp only at o1
      intro μ5 H5 v s5 r5 q5
      simp only [Rep] at q5
      refine ⟨q5, ?_⟩
      cases zf : frzR h1.bs.length h2.bs 4 h1.bs.length with
      | none => rw [zf] at o1; exact o1.elim
      | some d' =>
        rw [zf] at o1
        obtain ⟨r6, s6⟩ := Rel.leave r1 (sAll.trans s5) r5
        exact o1 _ H5 _ s6 r6 (frzR_ok r5 4 _ d' _ zf (by simp only [Rep]; exact ⟨x, s5.pre _ _ hxa, rfl⟩))
    | _ => exact o1.elim
theorem pv_make {k c : Nat} {C f : Addr} {fd : FuncData} {ps : List Str} {fz : Bool} {init : List D → Bs → R D} {x : Str} {p pos : Pos} {e : Expr} {es : List Expr} {sa : SA} (hC : T.cls c = some C) (M : Mk X.K C f)
    (F : FnOk X.prog X.w X.K X.mg X.base (CX X.prog X.w) k f fd ps (spF T init)) (hr : Room (k + 1) X.A) (hg : Gl X x) (hm : X.mg x = some (.ref C)) (hb : Binds X.K fd ps []) (tk : Takes X W)
    (hdb : (x == ("__debug__" : Str)) = false) (hs : noStars (e :: es) = true) (ha : PA X (e :: es) (tA' T W sa)) : PE X (.Call (.Name x p) (e :: es) [] pos) (tV T W (sCall (makeD c fz init) sa)) := by
  simp only [noStars, List.all_cons, Bool.and_eq_true, Bool.not_eq_true'] at hs
  exact PE.imp (pe_makeS M F hr hg hm hb .nil (fun σ => passAt tk σ) ha hdb (star_no hs.1) (back_no (show noStars es = true from hs.2))) (make_imp hC)
end
end VI
end
section
namespace VI
open PySem PySem.Spec PyProof.Rows L2
section
variable {X : Cx} {T : Tb} {W : WX} {μ μ' : Mu} {H H' : Hp} {h : Bs} {σ : Sg} {ρ : Ev}
def blsD : List D → Option (List Bool)
  | [] => some []
  | .bl i :: xs => (match blsD xs with | some ns => some (i :: ns) | none => none)
  | _ :: _ => none
theorem blsD_eq : ∀ {xs : List D} {ns : List Bool}, blsD xs = some ns → xs = ns.map .bl
  | [], ns, e => by simp [blsD] at e; subst e; rfl
  | .bl i :: xs, ns, e => by
    simp only [blsD] at e
    cases q : blsD xs with
    | none => rw [q] at e; cases e
    | some ms => rw [q] at e; cases e; rw [blsD_eq q]; rfl
  | .non :: _, _, e | .int _ :: _, _, e | .str _ :: _, _, e | .tup _ :: _, _, e | .tpl _ :: _, _, e | .lst _ :: _, _, e | .dct _ _ :: _, _, e | .obj _ _ _ :: _, _, e | .exo _ _ _ :: _, _, e | .ref _ :: _, _, e | .scr _ :: _, _, e => by simp [blsD] at e
theorem blsD_map : ∀ ns : List Bool, blsD (ns.map .bl) = some ns
  | [] => rfl
  | n :: ns => by simp [blsD, blsD_map ns]
def anyD (f : List Bool → Bool) (ds : List D) (h : Bs) : R D := match ds with
  | [d] => (match lstOf h d with
    | some xs => (match blsD xs with
      | some bs => .ok (.bl (f bs)) h
      | none => .no)
    | none => .no)
  | _ => .no
theorem anyD_calm {f : List Bool → Bool} {ds : List D} : Calm (anyD f ds h) := by
  intro x h' z; unfold anyD at z
  repeat' split at z
  all_goals cases z
theorem any_pre {f : List Bool → Bool} (hK : X.K = T.K) : ∀ xs H Q, rDn T (anyD f) xs H Q → ∃ (a : Addr) (bs : List Bool), xs = [V.ref a] ∧ SqL X.K H a (bs.map V.bl) ∧ Q (.bl (f bs)) H := fun xs H Q ⟨μ, h, ds, r, rd, o⟩ => by
  unfold anyD at o
  split at o
  · obtain ⟨v, rfl, rv⟩ := rd.is1
    split at o
    · rename_i ys hy
      split at o
      · rename_i bs hb
        obtain ⟨a, vs, rfl, e2, e3⟩ := r.lstOf rv hy
        rw [blsD_eq hb] at e3
        rw [e3.bls] at e2
        exact ⟨a, bs, rfl, by rw [hK]; exact e2, o μ H _ Stp.refl r (rep_bl rfl)⟩
      · exact o.elim
    · exact o.elim
  · exact o.elim
theorem cv_any (hK : X.K = T.K) (hc : X.calm = true) : CallR X (.builtin "any") (rDn T (anyD fun bs => bs.any id)) := CallR.imp (cr_any hc) (any_pre hK)
theorem cv_all (hK : X.K = T.K) (hc : X.calm = true) : CallR X (.builtin "all") (rDn T (anyD fun bs => bs.all id)) := CallR.imp (cr_all hc) (any_pre hK)
def listD (bx : Bool) (ds : List D) (h : Bs) : R D := match ds with
  | [d] => (match seqOf h d with
    | some xs => newL bx xs h
    | none => .no)
  | _ => .no
theorem listD_calm {bx : Bool} {ds : List D} : Calm (listD bx ds h) := by
  unfold listD
  split
  · split
    · exact newL_calm
    · intro x h' z; cases z
  · intro x h' z; cases z
theorem cv_list {bx : Bool} (hK : X.K = T.K) : CallR X (.type "list") (rDn T (listD bx)) := CallR.imp call_list_of fun xs H Q ⟨μ, h, ds, r, rd, o⟩ => by
  unfold listD at o
  split at o
  · obtain ⟨v, rfl, rv⟩ := rd.is1
    split at o
    · rename_i ys hy
      obtain ⟨a, vs, rfl, e2, e3⟩ := r.seqOf rv hy
      exact ⟨a, vs, rfl, by rw [hK]; exact e2.symm, (newL_ok r e3 o).2⟩
    · exact o.elim
  · exact o.elim
def tupleD (ds : List D) (h : Bs) : R D := match ds with
  | [.tup xs] => .ok (.tup xs) h
  | [.tpl xs] => .ok (.tpl xs) h
  | [d] => (match lstOf h d with
    | some xs => newT xs h
    | none => .no)
  | _ => .no
theorem tupleD_calm {ds : List D} : Calm (tupleD ds h) := by
  unfold tupleD
  split
  · intro x h' z; cases z
  · intro x h' z; cases z
  · split
    · exact newT_calm
    · intro x h' z; cases z
  · intro x h' z; cases z
theorem cv_tuple (hK : X.K = T.K) : CallR X (.type "tuple") (rDn T tupleD) := CallR.imp call_tuple_of fun xs H Q ⟨μ, h, ds, r, rd, o⟩ => by
  unfold tupleD at o
  split at o
  · obtain ⟨v, rfl, rv⟩ := rd.is1
    obtain ⟨a, vs, rfl, e2, e3, e4⟩ := rv.tupOf
    exact ⟨a, vs, rfl, .inr ⟨SqT.of e2, o μ H _ Stp.refl r rv⟩⟩
  · obtain ⟨v, rfl, rv⟩ := rd.is1
    obtain ⟨a, ob, vs, rfl, e2, _, e3, e4⟩ := rv.tplOf
    exact ⟨a, vs, rfl, .inr ⟨SqT.fz e2, o μ H _ Stp.refl r rv⟩⟩
  · obtain ⟨v, rfl, rv⟩ := rd.is1
    split at o
    · rename_i ys hy
      obtain ⟨a, vs, rfl, e2, e3⟩ := r.lstOf rv hy
      exact ⟨a, vs, rfl, .inl ⟨by rw [hK]; exact e2, (newT_ok r e3 o).2⟩⟩
    · exact o.elim
  · exact o.elim
def insI (n : Int) : List Int → List Int
  | [] => [n]
  | m :: ms => if n ≤ m then n :: m :: ms else m :: insI n ms
def sortI : List Int → List Int
  | [] => []
  | n :: ns => insI n (sortI ns)
theorem insI_perm (n : Int) : ∀ ms, (insI n ms).Perm (n :: ms)
  | [] => .refl _
  | m :: ms => by
    simp only [insI]
    split
    · exact .refl _
    · exact ((insI_perm n ms).cons m).trans (.swap _ _ _)
theorem sortI_perm : ∀ ns, (sortI ns).Perm ns
  | [] => .refl _
  | n :: ns => (insI_perm n (sortI ns)).trans ((sortI_perm ns).cons n)
theorem insI_sorted (n : Int) : ∀ ms : List Int, ms.Pairwise (· ≤ ·) → (insI n ms).Pairwise (· ≤ ·)
  | [], _ => by simp [insI]
  | m :: ms, h => by
    simp only [insI]
    have h' := List.pairwise_cons.mp h
    split
    · rename_i hnm
      refine List.pairwise_cons.mpr ⟨fun a ha => ?_, h⟩
      rcases List.mem_cons.mp ha with z | z
      · rw [z]; exact hnm
      · exact Int.le_trans hnm (h'.1 a z)
    · rename_i hnm
      refine List.pairwise_cons.mpr ⟨fun a ha => ?_, insI_sorted n ms h'.2⟩
      rcases List.mem_cons.mp ((insI_perm n ms).mem_iff.mp ha) with z | z
      · rw [z]; omega
      · exact h'.1 a z
theorem sortI_sorted : ∀ ns, (sortI ns).Pairwise (· ≤ ·)
  | [] => .nil
  | n :: ns => insI_sorted n _ (sortI_sorted ns)
def sortedD (bx : Bool) (ds : List D) (h : Bs) : R D := match ds with
  | [d] => (match lstOf h d with
    | some xs => (match intsD xs with
      | some ns => newL bx ((sortI ns).map .int) h
      | none => .no)
    | none => .no)
  | _ => .no
theorem sortedD_calm {bx : Bool} {ds : List D} : Calm (sortedD bx ds h) := by
  unfold sortedD
  repeat' split
  · exact newL_calm
  all_goals (intro x h' z; cases z)
theorem cv_sorted {bx : Bool} (hK : X.K = T.K) : CallR X (.builtin "sorted") (rDn T (sortedD bx)) := CallR.imp cr_sortedI fun xs H Q ⟨μ, h, ds, r, rd, o⟩ => by
  unfold sortedD at o
  split at o
  · obtain ⟨v, rfl, rv⟩ := rd.is1
    split at o
    · rename_i ys hy
      split at o
      · rename_i ns hn
        obtain ⟨a, vs, rfl, e2, e3⟩ := r.lstOf rv hy
        rw [intsD_eq hn] at e3
        rw [e3.intsOf] at e2
        refine ⟨a, ns, rfl, by rw [hK]; exact e2, fun ns' p hp hs hnew => ?_⟩
        have e : ns' = sortI ns := PySem.W.ksm_same (hp.trans (sortI_perm ns).symm) hs (sortI_sorted ns)
        subst e
        exact (newL_ok r (Reps.ints _) o).2 p hnew
      · exact o.elim
    · exact o.elim
  · exact o.elim
def rMt (T : Tb) (f : D → List D → Bs → R D) : V → List V → Hp → VK → Prop := fun x xs H Q => ∃ μ h d ds, Rel T μ h H ∧ Rep T μ H d x ∧ Reps T μ H ds xs ∧ OutV T noW [] μ H Q (f d ds h)
theorem MtR.imp {id : String} {r r' : V → List V → Hp → VK → Prop} (h : MtR X id r) (i : ∀ x xs H Q, r' x xs H Q → r x xs H Q) : MtR X id r' := fun pins s σ H x xs v us Q I rx rxs w => h pins s σ H x xs v us Q I rx rxs (i x xs H Q w)
def appD (d : D) (ds : List D) (h : Bs) : R D := match d, ds with
  | .ref b, [v] => (match h.bs[b]? with
    | some (.lst false xs) => if decide (xs.length < sizeLine) && okW h b v then .ok .non (putL b (xs ++ [v]) h) else .no
    | _ => .no)
  | _, _ => .no
theorem appD_calm {d : D} {ds : List D} : Calm (appD d ds h) := by
  intro x h' z; unfold appD at z
  repeat' split at z
  all_goals cases z
theorem mv_append : MtR X "list.append" (rMt T appD) := MtR.imp mt_append fun x xs H Q ⟨μ, h, d, ds, r, rd, rds, o⟩ => by
  unfold appD at o
  split at o
  · rename_i b v
    obtain ⟨w, rfl, rw'⟩ := rds.is1
    split at o
    · rename_i ys hb
      split at o
      · rename_i hc
        simp only [Bool.and_eq_true, decide_eq_true_eq] at hc
        obtain ⟨a, vs, e1, e2, e3, q⟩ := r.boxAt hb rd
        obtain ⟨r', st⟩ := r.putL hb e1 (q.append (.one rw')) (fun k hk hb' hx => bels_append hx (by simp only [bels]; exact ⟨okW_bel r hc.2 k hk hb', trivial⟩))
        exact ⟨a, vs, w, e2, rfl, e3, by rw [← q.length]; exact hc.1, o μ _ .non st r' rep_nil⟩
      · exact o.elim
    · exact o.elim
  · exact o.elim
def okWs (h : Bs) (b : Nat) (ys : List D) : Bool := match h.fbs with
  | [] => true
  | k :: _ => decide (k ≤ b) || noRs ys
def extD (d : D) (ds : List D) (h : Bs) : R D := match d, ds with
  | .ref b, [e] => (match h.bs[b]?, lstS h e with
    | some (.lst false xs), some ys => if decide (xs.length + ys.length ≤ sizeLine) && okWs h b ys then .ok .non (putL b (xs ++ ys) h) else .no
    | _, _ => .no)
  | _, _ => .no
theorem extD_calm {d : D} {ds : List D} : Calm (extD d ds h) := by
  intro x h' z; unfold extD at z
  split at z
  · split at z
    · split at z <;> cases z
    · cases z
  · cases z
theorem okWs_bel (r : Rel T μ h H) {b : Nat} {ys : List D} (e : okWs h b ys = true) : ∀ k ∈ h.fbs, b < k → bels k ys := by
  intro k hk hb
  unfold okWs at e
  have o := r.ord
  cases q : h.fbs with
  | nil => rw [q] at hk; cases hk
  | cons k0 ks =>
    rw [q] at hk e o
    simp only [Bool.or_eq_true, decide_eq_true_eq] at e
    rcases e with e | e
    · exfalso
      rcases List.mem_cons.mp hk with z | z
      · subst z; omega
      · have : k0 ≥ k := (List.pairwise_cons.mp o).1 k z
        omega
    · exact noRs.bels ys e
theorem mv_extend : MtR X "list.extend" (rMt T extD) := MtR.imp mt_extend fun x xs H Q ⟨μ, h, d, ds, r, rd, rds, o⟩ => by
  unfold extD at o
  split at o
  · rename_i b v
    obtain ⟨w, rfl, rw'⟩ := rds.is1
    split at o
    · rename_i ys zs hb hz
      split at o
      · rename_i hc
        simp only [Bool.and_eq_true, decide_eq_true_eq] at hc
        obtain ⟨a, vs, e1, e2, e3, q⟩ := r.boxAt hb rd
        obtain ⟨a2, ws, f1, f2, f3⟩ := r.lstS rw' hz
        obtain ⟨r', st⟩ := r.putL hb e1 (q.append f3) (fun k hk hb' hx => bels_append hx (okWs_bel r hc.2 k hk hb'))
        subst f1
        exact ⟨a, a2, vs, ws, e2, rfl, e3, f2, by rw [← q.length, ← f3.length]; exact hc.1, o μ _ .non st r' rep_nil⟩
      · exact o.elim
    · exact o.elim
  · exact o.elim
def popD (d : D) (ds : List D) (h : Bs) : R D := match d, ds with
  | .ref b, [] => (match h.bs[b]? with
    | some (.lst false xs) => (match xs[xs.length - 1]? with
      | some y => .ok y (putL b xs.dropLast h)
      | none => .no)
    | _ => .no)
  | .ref b, [.int i] => (match h.bs[b]? with
    | some (.lst false xs) => if -(2 ^ 63) ≤ i ∧ i < 2 ^ 63 then (match seqIndex? i xs.length with
      | some k => (match xs[k]? with
        | some y => .ok y (putL b (xs.eraseIdx k) h)
        | none => .no)
      | none => .no) else .no
    | _ => .no)
  | _, _ => .no
theorem Reps.eraseIdx : ∀ {xs : List D} {vs : List V} (i : Nat), Reps T μ H xs vs → Reps T μ H (xs.eraseIdx i) (vs.eraseIdx i)
  | [], vs, i, q => by simp only [Reps] at q; subst q; simp [Reps]
  | x :: xs, vs, 0, q => by
    simp only [Reps] at q
    obtain ⟨v, r, rfl, q1, q2⟩ := q
    exact q2
  | x :: xs, vs, i + 1, q => by
    simp only [Reps] at q
    obtain ⟨v, r, rfl, q1, q2⟩ := q
    exact .cons q1 (Reps.eraseIdx i q2)
theorem Reps.dropLast {xs : List D} {vs : List V} (q : Reps T μ H xs vs) : Reps T μ H xs.dropLast vs.dropLast := by
  rw [List.dropLast_eq_take, List.dropLast_eq_take, ← q.length]
  exact q.take _
end
end VI
end
section
namespace VI
open PySem PySem.Spec PyProof.Rows L2
section
variable {X : Cx} {T : Tb} {W : WX} {μ μ' : Mu} {H H' : Hp} {h : Bs} {σ : Sg} {ρ : Ev}
def sBm (f : D → List D → Bs → R D) (so : SV) (sa : SA) : SV := fun ρ h => (so ρ h).bind fun d h1 => if (lstOf h1 d).isSome then (sa ρ h1).bind fun ds h2 => f d ds h2 else .no
theorem tyL (hK : X.K = T.K) (r : Rel T μ h H) {d : D} {v : V} (q : Rep T μ H d v) (e : (lstOf h d).isSome = true) : tyV X.K "list" v H := by
  obtain ⟨xs, e⟩ := Option.isSome_iff_exists.mp e
  obtain ⟨a, vs, rfl, e2, _⟩ := r.lstOf q e
  exact .inl ⟨rfl, vs, by rw [hK]; exact e2⟩
variable {name : Str} {id : String} {f : D → List D → Bs → R D} {ob e : Expr} {es : List Expr} {apos cpos : Pos} {so : SV} {sa : SA}
theorem pv_bm (cf : ∀ d ds h, Calm (f d ds h)) (hK : X.K = T.K) (pa : PlainAttrs "list") (slot : Slot "list" name id) (hty : typeOf (.builtin id) = pure (.type "method_descriptor")) (hm : MtR X id (rMt T f))
    (hb : noSuper ob = true) (hs : noStars (e :: es) = true) (hn : (e :: es).length < 30) (hl : (apos.endLine == cpos.line) = true) (ho : PE X ob (tV T W so)) (ha : PA X (e :: es) (tA' T W sa)) :
    PE X (.Call (.Attribute ob name apos) (e :: es) [] cpos) (tV T W (sBm f so sa)) := by
  have hs' := hs
  simp only [noStars, List.all_cons, Bool.and_eq_true, Bool.not_eq_true'] at hs'
  refine PE.imp (pe_bm pa slot hty hm ho ha (abase hb) ?_ hl (star_no hs'.1) (back_no (show noStars es = true from hs'.2))) fun σ H Q ⟨μ, ρ, h, r, e, o⟩ => ?_
  · have := form_ok (pos := cpos) (env := X.env) (n := (e :: es).length) hs hn
    unfold methodCallForm at this
    have e0 : backToKw cpos (keywordEach [] X.env) = [] := rfl
    rw [e0] at this ⊢
    simpa using this
  · refine ⟨μ, ρ, h, r, e, OutV.mono (OutV.bind o) ?_⟩
    rintro v H1 ⟨μ1, d, h1, s1, r1, rv, o1⟩
    split at o1
    · rename_i hd
      refine ⟨tyL hK r1 rv hd, μ1, ρ, h1, r1, e.step s1, OutA.mono (OutV.bindA o1) ?_⟩
      rintro vs H2 ⟨μ2, ds, h2, s2, r2, rds, o2⟩
      exact ⟨μ2, h2, d, ds, r2, Rep.step s2 _ _ rv, rds, o2.calm (cf _ _ _)⟩
    · exact o1.elim
def ssAug (i : Nat) (f : D → D → Bs → R D) (s : SV) : SS := fun ρ h => match ρ[i]? with
  | some (some x) => (s ρ h).toF ρ fun y h1 => (f x y h1).toF ρ fun z h2 => .nx (ρ.set i (some z)) h2
  | _ => .no
theorem psv_aug {i : Nat} {x : Str} {op : Operator} {pos pos' : Pos} {g : D → D → Bs → R D} {s : SV} (cf : ∀ d e h, Calm (g d e h)) (ho : OpR X (inplaceOp op) (rD2 T g)) (hN : X.N.Nodup) (hi : X.N[i]? = some x) (hx : Loc X.env.scope x)
    (hf : X.fn x = true ∨ X.env.scope.names.lookup x = some .local) (he : PE X e (tV T W s)) : PS X (.AugAssign (.Name x pos') op e pos) (tS' T W (ssAug i g s)) :=
  PS.imp (ps_aug hN hi hx he (fun pins s σ H x y v u Q I r1 r2 w => ho pins s σ H x y v u Q I r1 r2 w) hf) fun D σ H ⟨μ, ρ, h, r, e, o⟩ => by
    unfold ssAug at o
    cases q : ρ[i]? with
    | none => rw [q] at o; exact o.elim
    | some z =>
      cases z with
      | none => rw [q] at o; exact o.elim
      | some d =>
        rw [q] at o
        simp only at o
        obtain ⟨v, e1, rv⟩ := e.2 i d q
        refine ⟨v, e1, μ, ρ, h, r, e, OutV.mono (OutS.ofV e o) ?_⟩
        rintro w H1 ⟨μ1, d1, h1, s1, r1, e1, rv1, o1⟩
        refine ⟨μ1, h1, d, d1, r1, Rep.step s1 _ _ rv, rv1, ?_⟩
        cases q2 : g d d1 h1 with
        | no => rw [q2] at o1; exact o1
        | ex x h3 => exact absurd q2 (cf d d1 h1 x h3)
        | ok z h3 => rw [q2] at o1; exact fun μ3 H3 v3 s3 r3 rv3 => o1 μ3 H3 _ s3 r3 ((e1.step s3).set rv3)
def intD2 (C : Int → Int → Bool) (g : Int → Int → Int) (d e : D) (h : Bs) : R D := match d, e with
  | .int i, .int j => if C i j then .ok (.int (g i j)) h else .no
  | _, _ => .no
theorem intD2_calm {C : Int → Int → Bool} {g : Int → Int → Int} {d e : D} : Calm (intD2 C g d e h) := by
  intro x h' z; unfold intD2 at z
  repeat' split at z
  all_goals cases z
theorem ov_int2 {C : Int → Int → Bool} {P : Int → Int → Prop} {g : Int → Int → Int} {F : Value → Value → Sem Value} (hC : ∀ i j, C i j = true → P i j) (hop : OpR X F (rI P fun i j => .int (g i j))) : OpR X F (rD2 T (intD2 C g)) :=
  OpR.imp hop fun x y H Q ⟨μ, h, d, e, r, rd, re, o⟩ => by
    unfold intD2 at o
    split at o
    · split at o
      · rename_i hc
        simp only [Rep] at rd re
        exact ⟨_, _, rd, re, hC _ _ hc, o μ H _ Stp.refl r (rep_int rfl)⟩
      · exact o.elim
    · exact o.elim
def getD (d e : D) (h : Bs) : R D := match e with
  | .int i => (match lstOf h d with
    | some xs => (match atI xs i with
      | some x => .ok x h
      | none => .no)
    | none => .no)
  | _ => .no
end
end VI
end
section
namespace VI
open PySem PySem.Spec PyProof.Rows L2
section
variable {X : Cx} {T : Tb} {W : WX} {μ μ' : Mu} {H H' : Hp} {h : Bs} {σ : Sg} {ρ : Ev}
def tyc (T : Tb) (h : Bs) : D → Option Nat
  | .non => some 0
  | .bl _ => some 1
  | .int _ => some 2
  | .str _ => some 3
  | .tup _ => some 4
  | .tpl _ => some 4
  | .lst _ => some 5
  | .scr _ => some 5
  | .obj c _ _ => if T.isc c then some (7 + c) else none
  | .ref b => (match h.bs[b]? with
    | some (.lst _ _) => some 5
    | some (.obj c _ _) => if T.isc c then some (7 + c) else none
    | _ => none)
  | .exo _ _ _ => none
  | .dct _ _ => none
theorem tyc_ok (ok : T.Ok) (r : Rel T μ h H) {d : D} {v : V} {t : Nat} (q : Rep T μ H d v) (e : tyc T h d = some t) : ∃ tv, T.tyV t tv ∧ TyX T.K H v tv := by
  cases d with
  | non => simp only [tyc] at e; cases e; simp only [Rep] at q; subst q; exact ⟨_, rfl, .base .non⟩
  | bl b => simp only [tyc] at e; cases e; simp only [Rep] at q; subst q; exact ⟨_, rfl, .base (.bl b)⟩
  | int b => simp only [tyc] at e; cases e; simp only [Rep] at q; subst q; exact ⟨_, rfl, .base (.int b)⟩
  | str b => simp only [tyc] at e; cases e; simp only [Rep] at q; subst q; exact ⟨_, rfl, .base (.str b)⟩
  | tup xs =>
    simp only [tyc] at e; cases e
    obtain ⟨a, vs, rfl, e2, _⟩ := q.tupOf
    exact ⟨_, rfl, .base (.tup e2)⟩
  | tpl xs =>
    simp only [tyc] at e; cases e
    obtain ⟨a, ob, vs, rfl, e2, _⟩ := q.tplOf
    exact ⟨_, rfl, .fTuple e2⟩
  | lst xs =>
    simp only [tyc] at e; cases e
    simp only [Rep] at q
    obtain ⟨a, vs, rfl, e2, _⟩ := q
    exact ⟨_, rfl, .base (.lst e2)⟩
  | scr ns =>
    simp only [tyc] at e; cases e
    simp only [Rep] at q
    obtain ⟨a, rfl, e2⟩ := q
    refine ⟨_, rfl, ?_⟩
    rcases e2 with ⟨z | ⟨o, z⟩, _⟩ | ⟨o, its, n, z1, z2, _⟩
    · exact .base (.lst z)
    · exact .base (.frz z)
    · exact .kList z1 z2
  | dct ks vs => simp [tyc] at e
  | exo c fs vs => simp [tyc] at e
  | obj c fs xs =>
    simp only [tyc] at e
    split at e
    · rename_i hc
      cases e
      simp only [Rep] at q
      obtain ⟨a, C, dx, vs, rfl, e2, e3, _⟩ := q
      refine ⟨.ref C, ?_, .base (ok.ins c C e2 hc H a dx _ e3)⟩
      unfold Tb.tyV
      rw [if_neg (by omega)]
      exact ⟨C, by rw [show 7 + c - 7 = c by omega]; exact e2, rfl⟩
    · cases e
  | ref b =>
    simp only [tyc] at e
    simp only [Rep] at q
    obtain ⟨a, e1, rfl⟩ := q
    split at e
    · rename_i hb
      cases e
      obtain ⟨vs, e3, _⟩ := r.at_ _ _ a hb e1
      exact ⟨_, rfl, .base (.lst e3)⟩
    · rename_i c fs xs hb
      split at e
      · rename_i hc
        cases e
        obtain ⟨C, dx, vs, e2, e3, _⟩ := r.at_ _ _ a hb e1
        refine ⟨.ref C, ?_, .base (ok.ins c C e2 hc H a dx _ e3)⟩
        unfold Tb.tyV
        rw [if_neg (by omega)]
        exact ⟨C, by rw [show 7 + c - 7 = c by omega]; exact e2, rfl⟩
      · cases e
    · cases e
def isiD (T : Tb) (u : Nat) (d : D) (h : Bs) : R D := match tyc T h d with
  | some t => (match T.kit t u with
    | some b => .ok (.bl b) h
    | none => .no)
  | none => .no
def ClsN (X : Cx) (T : Tb) (x : Str) (u : Nat) : Prop := ∃ (v : V) (uv : Value), T.tyV u uv ∧ ClsV v uv ∧ ∀ pos, PE X (.Name x pos) (tC v)
theorem pv_isi {e : Expr} {x : Str} {u : Nat} {p q pos : Pos} {s : SV} (ok : T.Ok) (hK : X.K = T.K) (hg : Gl X "isinstance") (hm : X.mg "isinstance" = none) (hv : bootBuiltins "isinstance" = some (.builtin "isinstance"))
    (hs : PySem.W.isStarred e = false) (hx : ClsN X T x u) (he : PE X e (tV T W s)) : PE X (.Call (.Name "isinstance" p) [e, .Name x q] [] pos) (tV T W (sUn (isiD T u) s)) := by
  obtain ⟨v, uv, h1, h2, h3⟩ := hx
  refine PE.imp (pe_callB call_isi hg hm hv (pa_cons he (pa_cons (h3 q) pa_nil rfl) (star_no hs)) (by decide) (by decide) (star_no hs) rfl) fun σ H Q ⟨μ, ρ, h, r, e, o⟩ => ?_
  refine ⟨μ, ρ, h, r, e, OutV.mono (OutV.bind o) ?_⟩
  rintro w H1 ⟨μ1, d, h1', s1, r1, rv, o1⟩
  unfold isiD at o1
  split at o1
  · rename_i t ht
    split at o1
    · rename_i b hb
      obtain ⟨tv, k1, k2⟩ := tyc_ok ok r1 rv ht
      exact ⟨w, v, tv, uv, b, rfl, h2, by rw [hK]; exact k2, by rw [hK]; exact ok.kit t u b tv uv hb k1 h1, o1 μ1 H1 _ Stp.refl r1 (rep_bl rfl)⟩
    · exact o1.elim
  · exact o1.elim
def isiD2 (T : Tb) (u u2 : Nat) (d : D) (h : Bs) : R D := match tyc T h d with
  | some t => (match T.kit t u with
    | some true => .ok (.bl true) h
    | some false => (match T.kit t u2 with
      | some b => .ok (.bl b) h
      | none => .no)
    | none => .no)
  | none => .no
theorem pv_isi2 {e : Expr} {x y : Str} {u u2 k : Nat} {p q q2 q3 pos : Pos} {s : SV} (ok : T.Ok) (hK : X.K = T.K) (hg : Gl X "isinstance") (hm : X.mg "isinstance" = none) (hv : bootBuiltins "isinstance" = some (.builtin "isinstance"))
    (hs : PySem.W.isStarred e = false) (hx : ClsN X T x u) (hy : ClsN X T y u2) (he : PE X e (tV T W s)) : PE X (.Call (.Name "isinstance" p) [e, .Tuple [.Name x q, .Name y q2] k q3] [] pos) (tV T W (sUn (isiD2 T u u2) s)) := by
  obtain ⟨v, uv, h1, h2, h3⟩ := hx
  obtain ⟨v2, uv2, g1, g2, g3⟩ := hy
  refine PE.imp (pe_callB call_isiT hg hm hv (pa_cons he (pa_cons (pe_tup (pa_cons (h3 q) (pa_cons (g3 q2) pa_nil rfl) rfl)) pa_nil rfl) (star_no hs)) (by decide) (by decide) (star_no hs) rfl) fun σ H Q ⟨μ, ρ, h, r, e, o⟩ => ?_
  refine ⟨μ, ρ, h, r, e, OutV.mono (OutV.bind o) ?_⟩
  rintro w H1 ⟨μ1, d, h1', s1, r1, rv, o1⟩
  refine ⟨by show 2 ≤ sizeLine; decide, fun tp htp => ?_⟩
  unfold isiD2 at o1
  split at o1
  · rename_i t ht
    have st : Stp μ1 H1 μ1 (upd H1 tp (.tup [v, v2])) := Stp.laid htp
    have r2 := r1.laid (o := .tup [v, v2]) htp
    obtain ⟨tv, k1, k2⟩ := tyc_ok ok r2 (Rep.step st _ _ rv) ht
    split at o1
    · rename_i hb
      exact ⟨w, tp, [v, v2], tv, [uv, uv2], true, rfl, upd_same, .cons h2 (.cons g2 .nil), by rw [hK]; exact k2, kitAny_cons (by rw [hK]; exact ok.kit t u true tv uv hb k1 h1) (fun z => by cases z) (fun _ => rfl), o1 μ1 _ _ st r2 (rep_bl rfl)⟩
    · rename_i hb
      split at o1
      · rename_i b hb2
        refine ⟨w, tp, [v, v2], tv, [uv, uv2], b, rfl, upd_same, .cons h2 (.cons g2 .nil), by rw [hK]; exact k2, kitAny_cons (by rw [hK]; exact ok.kit t u false tv uv hb k1 h1) (fun _ => ?_) (fun z => by cases z), o1 μ1 _ _ st r2 (rep_bl rfl)⟩
        cases b with
        | true => exact kitAny_cons (by rw [hK]; exact ok.kit t u2 true tv uv2 hb2 k1 g1) (fun z => by cases z) (fun _ => rfl)
        | false => exact kitAny_cons (by rw [hK]; exact ok.kit t u2 false tv uv2 hb2 k1 g1) (fun _ => kitAny_nil) (fun z => by cases z)
      · exact o1.elim
    · exact o1.elim
  · exact o1.elim
end
end VI
end
section
namespace VI
open PySem PySem.Spec PyProof.Rows L2
section
variable {X : Cx} {T : Tb} {W : WX} {μ μ' : Mu} {H H' : Hp} {h : Bs} {σ : Sg} {ρ : Ev}
def sChn (f g : D → D → Bs → R D) (sa sb sc : SV) : SV := fun ρ h => (sa ρ h).bind fun x h1 => (sb ρ h1).bind fun y h2 => (f x y h2).bind fun z h3 => match z with
  | .bl true => (sc ρ h3).bind fun w h4 => g y w h4
  | .bl false => .ok (.bl false) h3
  | _ => .no
variable {a b c : Expr} {sa sb sc : SV} {pos : Pos}
theorem chn_imp {f g : D → D → Bs → R D} (cf : ∀ d e h, Calm (f d e h)) (cg : ∀ d e h, Calm (g d e h)) : ∀ σ H Q, tV T W (sChn f g sa sb sc) σ H Q → tChain (rD2 T f) (rD2 T g) (tV T W sa) (tV T W sb) (tV T W sc) σ H Q := fun σ H Q ⟨μ, ρ, h, r, e, o⟩ => by
  refine ⟨μ, ρ, h, r, e, OutV.mono (OutV.bind o) ?_⟩
  rintro v H1 ⟨μ1, d, h1, s1, r1, rv, o1⟩
  refine ⟨μ1, ρ, h1, r1, e.step s1, OutV.mono (OutV.bind o1) ?_⟩
  rintro u H2 ⟨μ2, d2, h2, s2, r2, ru, o2⟩
  refine ⟨μ2, h2, d, d2, r2, Rep.step s2 _ _ rv, ru, ?_⟩
  cases q : f d d2 h2 with
  | no => rw [q] at o2; exact o2
  | ex x h3 => exact absurd q (cf _ _ _ x h3)
  | ok z h3 =>
    rw [q] at o2
    intro μ3 H3 v3 s3 r3 rv3
    have o3 := OutV.step o2 s3
    cases z with
    | bl k =>
      simp only [Rep] at rv3
      refine ⟨k, rv3, ?_⟩
      cases k with
      | false => exact o3 μ3 H3 _ Stp.refl r3 (rep_bl rfl)
      | true =>
        have o3' : OutV T W σ μ3 H3 Q ((sc ρ h3).bind fun w h4 => g d2 w h4) := o3
        refine ⟨μ3, ρ, h3, r3, ((e.step s1).step s2).step s3, OutV.mono (OutV.bind o3') ?_⟩
        rintro w H4 ⟨μ4, d4, h4, s4, r4, rw', o4⟩
        exact ⟨μ4, h4, d2, d4, r4, Rep.step s4 _ _ (Rep.step s3 _ _ ru), rw', o4.calm (cg _ _ _)⟩
    | _ => exact o3.elim
theorem pv_chn {op op' : CmpOp} {f g : D → D → Bs → R D} (cf : ∀ d e h, Calm (f d e h)) (cg : ∀ d e h, Calm (g d e h)) (ho : OpR X (compareOp op) (rD2 T f)) (ho' : OpR X (compareOp op') (rD2 T g)) (hm : lastMarks [op, op'] [b, c] = false)
    (ha : PE X a (tV T W sa)) (hb : PE X b (tV T W sb)) (hc : PE X c (tV T W sc)) : PE X (.Compare a [op, op'] [b, c] pos) (tV T W (sChn f g sa sb sc)) := PE.imp (pe_chain ho ho' ha hb hc hm) (chn_imp cf cg)
theorem pvt_chn {op op' : CmpOp} {f g : D → D → Bs → R D} (cf : ∀ d e h, Calm (f d e h)) (cg : ∀ d e h, Calm (g d e h)) (ho : OpR X (compareOp op) (rD2 T f)) (ho' : OpR X (compareOp op') (rD2 T g)) (hm : lastMarks [op, op'] [b, c] = false)
    (ha : PE X a (tV T W sa)) (hb : PE X b (tV T W sb)) (hc : PE X c (tV T W sc)) : PT X (.Compare a [op, op'] [b, c] pos) (tB' T W (sTru (sChn f g sa sb sc))) :=
  PT.imp (pt_chain ho ho' ha hb hc hm) fun σ H Q w => chn_imp cf cg σ H _ (tru_imp σ H Q w)
theorem wk_pair {J : It} {n : Nat} {G : Hp → Prop} {xs ys : Nat → Option V} {items : List D} {μ1 : Mu} (wk : Walk J n G (YPair xs ys)) (hl : items.length = n) (hs : Stays μ1 H G)
    (hi : ∀ (i : Nat) (v w : V), i < n → xs i = some v → ys i = some w → ∃ d e, items[i]? = some (.tup [d, e]) ∧ Rep T μ1 H d v ∧ Rep T μ1 H e w) : Wk T J items μ1 H := by
  refine ⟨fun E i μ' H' hE hi' s => wk.goes i H' (by rw [← hl]; exact hi') (hs E μ' H' hE s), fun E μ' H' hE s => by rw [hl]; exact wk.stops H' (hs E μ' H' hE s), fun E i μ' H' h x H'' hE hi' s r y => ?_⟩
  obtain ⟨t, v, w, e1, e2, e3, e4, e5⟩ := wk.yields i H' x H'' (by rw [← hl]; exact hi') (hs E μ' H' hE s) y
  subst e1 e3
  obtain ⟨d, e, f1, f2, f3⟩ := hi i v w (by rw [← hl]; exact hi') e4 e5
  have st : Stp μ' H' μ' (upd H' t (.tup [v, w])) := Stp.laid e2
  refine ⟨_, f1, st, r.laid e2, ?_⟩
  simp only [Rep]
  exact ⟨t, [v, w], rfl, upd_same, r.not e2, .cons (Rep.step st _ _ (Rep.stepx s hE _ _ f2)) (.one (Rep.step st _ _ (Rep.stepx s hE _ _ f3)))⟩
def enumL : Nat → List D → List D
  | _, [] => []
  | i, x :: xs => .tup [.int i, x] :: enumL (i + 1) xs
theorem enumL_length : ∀ (i : Nat) (xs : List D), (enumL i xs).length = xs.length
  | _, [] => rfl
  | i, x :: xs => by simp [enumL, enumL_length (i + 1) xs]
theorem enumL_get : ∀ (i : Nat) (xs : List D) (j : Nat) (x : D), xs[j]? = some x → (enumL i xs)[j]? = some (.tup [.int ((i + j : Nat) : Int), x])
  | i, y :: xs, 0, x, e => by simp at e; subst e; simp [enumL]
  | i, y :: xs, j + 1, x, e => by
    simp only [enumL]
    have := enumL_get (i + 1) xs j x (by simpa using e)
    rw [List.getElem?_cons_succ, this]
    congr 4
    omega
  | _, [], _, _, e => by simp at e
def itEnum (ds : List D) (h : Bs) : R Iu := match ds with
  | [d] => if isTupD d then .no else (match itSeq d h with
    | .ok u h' => .ok (enumL 0 u.1, u.2) h'
    | _ => .no)
  | _ => .no
theorem piv_enum {e : Expr} {p pos tpos : Pos} {elts : List Expr} {kk : Nat} {sa : SA} (hK : X.K = T.K) (hg : Gl X "enumerate") (hm : X.mg "enumerate" = none) (hs : PySem.W.isStarred e = false) (ha : PA X [e] (tA' T W sa)) :
    PI X (.Tuple elts kk tpos) (.Call (.Name "enumerate" p) [e] [] pos) (tI' T W (siArg itEnum sa)) :=
  PI.imp (pi_enum hg hm ha (by rw [star_no hs]; rfl)) fun σ H Q ⟨μ, ρ, h, r, e, o⟩ => by
    refine ⟨μ, ρ, h, r, e, OutA.mono (OutI.bindA o) ?_⟩
    rintro v H1 ⟨μ1, ds, h1, s1, r1, rv, o1⟩
    unfold itEnum at o1
    split at o1
    · rename_i d
      obtain ⟨w, rfl, rw'⟩ := rv.is1
      split at o1
      · exact o1.elim
      · rename_i ht
        split at o1
        · rename_i u h' q
          obtain ⟨xs, l⟩ := u
          obtain ⟨rfl, nl, a, vs, e1, e4, e5⟩ := seq_stays r1 rw' q
          rcases e5 with ⟨_, e5, e6⟩ | ⟨z, _⟩
          · subst e1
            refine ⟨a, vs, rfl, by rw [hK]; exact e5, ?_⟩
            rw [hK]
            refine o1 μ1 H1 _ Stp.refl r1 nl (wk_pair (walk_enum (K := T.K) (a := a) (xs := vs)) (by rw [enumL_length, e4.length]) e6 fun i v w hi z1 z2 => ?_)
            cases z1
            have hx : xs[i]? = some (xs[i]'(by rw [e4.length]; exact hi)) := List.getElem?_eq_getElem _
            obtain ⟨w', f1, f2⟩ := e4.get hx
            rw [z2] at f1; cases f1
            refine ⟨_, _, by rw [enumL_get 0 xs i _ hx], rep_int (by simp), Rep.ad lockMu_ad lockMu_pr _ _ f2⟩
          · rw [z] at ht; exact absurd rfl ht
        · exact o1.elim
    · exact o1.elim
def zipL : List D → List D → List D
  | x :: xs, y :: ys => .tup [x, y] :: zipL xs ys
  | _, _ => []
theorem zipL_length : ∀ (xs ys : List D), (zipL xs ys).length = min xs.length ys.length
  | [], _ => by simp [zipL]
  | _ :: _, [] => by simp [zipL]
  | x :: xs, y :: ys => by simp [zipL, zipL_length xs ys]
theorem zipL_get : ∀ (xs ys : List D) (j : Nat) (x y : D), xs[j]? = some x → ys[j]? = some y → (zipL xs ys)[j]? = some (.tup [x, y])
  | x' :: xs, y' :: ys, 0, x, y, e, f => by simp at e f; subst e f; simp [zipL]
  | x' :: xs, y' :: ys, j + 1, x, y, e, f => by
    simp only [zipL]
    rw [List.getElem?_cons_succ]
    exact zipL_get xs ys j x y (by simpa using e) (by simpa using f)
  | [], _, _, _, _, e, _ => by simp at e
  | _ :: _, [], _, _, _, _, f => by simp at f
def itZip (ds : List D) (h : Bs) : R Iu := match ds with
  | [d, e] => if isTupD d == isTupD e then (match itSeq d h, itSeq e h with
    | .ok (xs, none) _, .ok (ys, none) _ => .ok (zipL xs ys, none) h
    | _, _ => .no) else .no
  | _ => .no
theorem walk_zipT' {K : PySem.W.Frag} {a b : Addr} {xs ys : List V} {n : Nat} (hn : n = min xs.length ys.length) : Walk (RZ.ItzT K a b) n (fun H => SqT K H a xs ∧ SqT K H b ys) (YPair (fun i => xs[i]?) (fun i => ys[i]?)) := by
  subst hn
  refine ⟨fun i _ hi q => ?_, fun _ q => ⟨xs, ys, q.1, q.2, by omega⟩, fun i H v H' _ q y => ?_⟩
  · have h1 : i < xs.length := by omega
    have h2 : i < ys.length := by omega
    exact ⟨xs, ys, xs[i], ys[i], q.1, q.2, by simp [h1], by simp [h2]⟩
  · obtain ⟨t, x, z, h1, h2, h3, h4, h5⟩ := y
    exact ⟨t, x, z, h1, h2, h3, h4 xs q.1, h5 ys q.2⟩
theorem zip_items {xs ys : List D} {vs ws : List V} {μ1 : Mu} (q1 : Reps T μ1 H xs vs) (q2 : Reps T μ1 H ys ws) : ∀ (i : Nat) (v w : V), i < min vs.length ws.length → vs[i]? = some v → ws[i]? = some w →
    ∃ d e, (zipL xs ys)[i]? = some (.tup [d, e]) ∧ Rep T μ1 H d v ∧ Rep T μ1 H e w := fun i v w hi z1 z2 => by
  have h1 : i < xs.length := by rw [q1.length]; omega
  have h2 : i < ys.length := by rw [q2.length]; omega
  have hx : xs[i]? = some xs[i] := List.getElem?_eq_getElem h1
  have hy : ys[i]? = some ys[i] := List.getElem?_eq_getElem h2
  obtain ⟨v', f1, f2⟩ := q1.get hx
  obtain ⟨w', g1, g2⟩ := q2.get hy
  rw [z1] at f1; cases f1
  rw [z2] at g1; cases g1
  exact ⟨_, _, zipL_get xs ys i _ _ hx hy, f2, g2⟩
theorem piv_zip {e e2 : Expr} {p pos tpos : Pos} {elts : List Expr} {kk : Nat} {sa : SA} (hK : X.K = T.K) (hg : Gl X "zip") (hm : X.mg "zip" = none) (hs : PySem.W.isStarred e = false) (hs2 : PySem.W.isStarred e2 = false) (ha : PA X [e, e2] (tA' T W sa)) :
    PI X (.Tuple elts kk tpos) (.Call (.Name "zip" p) [e, e2] [] pos) (tI' T W (siArg itZip sa)) :=
  PI.imp (RZ.pi_zipA hg hm ha (star_no hs) (back_no (by simp [noStars, hs2]))) fun σ H Q ⟨μ, ρ, h, r, e, o⟩ => by
    refine ⟨μ, ρ, h, r, e, OutA.mono (OutI.bindA o) ?_⟩
    rintro v H1 ⟨μ1, ds, h1, s1, r1, rv, o1⟩
    unfold itZip at o1
    split at o1
    · rename_i d d2
      obtain ⟨w, w2, rfl, rw', rw2⟩ := rv.is2
      split at o1
      · rename_i ht
        split at o1
        · rename_i xs hx' ys hy' q q2
          obtain ⟨rfl, _, a, vs, e1, e4, e5⟩ := seq_stays r1 rw' q
          obtain ⟨rfl, _, b, ws, f1, f4, f5⟩ := seq_stays r1 rw2 q2
          subst e1 f1
          have ht' : isTupD d = isTupD d2 := by simpa using ht
          refine ⟨a, b, vs, ws, rfl, ?_⟩
          rcases e5 with ⟨t1, e5, e6⟩ | ⟨t1, e5, e6⟩
          · rcases f5 with ⟨t2, f5, f6⟩ | ⟨t2, f5, f6⟩
            · refine .inl ⟨by rw [hK]; exact e5, by rw [hK]; exact f5, ?_⟩
              rw [hK]
              exact o1.nolk r1 (wk_pair (walk_zip (K := T.K) (a := a) (b := b) rfl) (by rw [zipL_length, e4.length, f4.length]) (fun E μ' H' hE s => ⟨e6 E μ' H' hE s, f6 E μ' H' hE s⟩) (zip_items e4 f4))
            · rw [t1, t2] at ht'; cases ht'
          · rcases f5 with ⟨t2, f5, f6⟩ | ⟨t2, f5, f6⟩
            · rw [t1, t2] at ht'; cases ht'
            · refine .inr ⟨by rw [hK]; exact e5, by rw [hK]; exact f5, ?_⟩
              rw [hK]
              exact o1.nolk r1 (wk_pair (walk_zipT' (K := T.K) (a := a) (b := b) rfl) (by rw [zipL_length, e4.length, f4.length]) (fun E μ' H' hE s => ⟨e6 E μ' H' hE s, f6 E μ' H' hE s⟩) (zip_items e4 f4))
        · exact o1.elim
      · exact o1.elim
    · exact o1.elim
end
end VI
end
section
namespace VI
open PySem PySem.Spec PyProof.Rows L2
structure Cfg where
  T : Tb
  P : Program
  w : World
  mg : Str → Option Value
  base : Heap
structure Tx where
  fr : List Str
  co : List (Str × Int)
  /-- classes, attributes -/
  cl : List Str
  att : List Str
  /-- exception classes; those that are made with a text alone -/
  ex : List (Str × Bool) := []
structure Cfg.Ok (Z : Cfg) (t : Tx) : Prop where
  ok : Z.T.Ok
  fr : ∀ x, t.fr.contains x = true → Z.mg x = none
  co : ∀ x i, t.co.lookup x = some i → ∃ k, Z.mg x = some (.int i k)
  cl : ∀ i x, t.cl[i]? = some x → ∃ C, Z.T.cls i = some C ∧ Z.mg x = some (.ref C) ∧ PySem.W.keepIn Z.T.K (.ref C) = true
  att : ∀ i x, t.att[i]? = some x → Z.T.att i = x ∧ i < Z.T.n
  ex : ∀ (i : Nat) (x : Str) (b : Bool), t.ex[i]? = some (x, b) → ∃ C, Z.T.cls (1000 + i) = some C ∧ Z.mg x = some (.ref C) ∧ PySem.W.keepIn Z.T.K (.ref C) = true ∧ (b = true → PySem.W.excIn Z.T.K C PySem.HandSPX.veTail "ValueError.__new__" = true)
def fnC (raw : Option Scope) (x : Str) : Bool := match raw with
  | none => true
  | some s => s.names.lookup x == some .cell
structure XO (Z : Cfg) (t : Tx) (k : Nat) (N₀ : List Str) (sc₀ : Scope) (raw : Option Scope) (X : Cx) (W : WX) : Prop where
  z : Z.Ok t
  prog : X.prog = Z.P
  w : X.w = Z.w
  K : X.K = Z.T.K
  mg : X.mg = Z.mg
  base : X.base = Z.base
  N : X.N = N₀
  nd : N₀.Nodup
  sc : X.env.scope = sc₀
  kd : sc₀.kind = .function
  fn : ∀ x, fnC raw x = true → X.fn x = true
  calm : X.calm = true
  room : Room k X.A
  takes : Takes X W
  pass : PassesOwn (model X.prog X.w) X.A X.env X.xe
  top : raw = none → X.stack = X.env :: X.outer ∧ X.env.frame = some X.env.locals ∧ X.ex = []
def FnG (Z : Cfg) (x : Str) (k : Nat) (cf : List D → Bs → R D) : Prop := ∃ f fd ps, FnOk Z.P Z.w Z.T.K Z.mg Z.base (CX Z.P Z.w) k f fd ps (spF Z.T cf) ∧ Z.mg x = some (.ref f) ∧ PySem.W.keepIn Z.T.K (.ref f) = true ∧ Binds Z.T.K fd ps []
def visC (N : List Str) (sc : Scope) (i : Nat) (x : Str) : Bool := decide (N[i]? = some x) && (match sc.names.lookup x with | some .local => true | some .cell => true | some .free => true | _ => false) && !(x == ("__debug__" : Str)) && !(x == ("__classdict__" : Str))
def locC (N : List Str) (sc : Scope) (raw : Option Scope) (i : Nat) (x : Str) : Bool := decide (N[i]? = some x) && (match sc.names.lookup x with | some .local => true | some .cell => fnC raw x | _ => false)
def glC (sc : Scope) (x : Str) : Bool := (match sc.names.lookup x with | some .globalImplicit => true | _ => false) && !(x == ("__debug__" : Str)) && !(x == ("__name__" : Str))
section
variable {Z : Cfg} {t : Tx} {k : Nat} {N : List Str} {sc : Scope} {raw : Option Scope} {X : Cx} {W : WX} {pos p : Pos} {a b c : Expr} {sa sb s3 : SV} {x : Str}
theorem XO.gl (h : XO Z t k N sc raw X W) (g : glC sc x = true) : Gl X x ∧ (x == ("__debug__" : Str)) = false ∧ x ≠ "__name__" := by
  unfold glC at g
  simp only [Bool.and_eq_true, Bool.not_eq_true', beq_eq_false_iff_ne] at g
  obtain ⟨⟨g1, g2⟩, g3⟩ := g
  refine ⟨?_, by simpa using g2, g3⟩
  unfold Gl Env.kindOf
  rw [h.sc]
  split at g1
  · assumption
  · cases g1
theorem XO.vis (h : XO Z t k N sc raw X W) {i : Nat} (g : visC N sc i x = true) : X.N[i]? = some x ∧ Vis X.env.scope x ∧ (x == ("__debug__" : Str)) = false ∧ (x == ("__classdict__" : Str)) = false := by
  unfold visC at g
  simp only [Bool.and_eq_true, Bool.not_eq_true', decide_eq_true_eq] at g
  obtain ⟨⟨⟨g1, g2⟩, g3⟩, g4⟩ := g
  refine ⟨by rw [h.N]; exact g1, ?_, g3, g4⟩
  unfold Vis
  rw [h.sc]
  split at g2
  · exact .inl (by assumption)
  · exact .inr (.inl (by assumption))
  · exact .inr (.inr (by assumption))
  · cases g2
theorem XO.loc (h : XO Z t k N sc raw X W) {i : Nat} (g : locC N sc raw i x = true) : X.N[i]? = some x ∧ Loc X.env.scope x ∧ (X.fn x = true ∨ X.env.scope.names.lookup x = some .local) := by
  unfold locC at g
  simp only [Bool.and_eq_true, decide_eq_true_eq] at g
  obtain ⟨g1, g2⟩ := g
  rw [h.N]
  unfold L2.Loc
  rw [h.sc]
  split at g2
  · rename_i e
    exact ⟨g1, .inl e, .inr e⟩
  · rename_i e
    exact ⟨g1, .inr e, .inl (h.fn x g2)⟩
  · cases g2
theorem XO.fr (h : XO Z t k N sc raw X W) (g : t.fr.contains x = true) : X.mg x = none := by rw [h.mg]; exact h.z.fr x g
theorem XO.units (h : XO Z t k N sc raw X W) : X.A.units + 65 < cLine := by have := h.room.un; omega
theorem XO.nd' (h : XO Z t k N sc raw X W) : X.N.Nodup := by rw [h.N]; exact h.nd
theorem XO.blk (h : XO Z t k N sc raw X W) {scope : Scope} (hk : scope.kind = .function) (s : Shared) (H : Hp) (C : Addr) (cl : List (Str × Addr)) (fp : List Addr) : XO Z t k N (relS scope sc) (some scope) (X.blk s H scope (compEnvC scope cl C X.env) fp) noW where
  z := h.z
  prog := h.prog
  w := h.w
  K := h.K
  mg := h.mg
  base := h.base
  N := h.N
  nd := h.nd
  sc := by rw [← h.sc]; rfl
  kd := hk
  fn := fun x e => e
  calm := h.calm
  room := h.room
  takes := fun u s' ⟨a, B, sI, pins, σ, H, cls, d, e, I, nb, up, sky, na, os, ag, w⟩ => w.elim
  pass := PassesOwn.never
  top := fun z => nomatch z
theorem v_var (h : XO Z t k N sc raw X W) {i : Nat} (g : visC N sc i x = true) : PE X (.Name x pos) (tV Z.T W (sVar i)) := by
  obtain ⟨a, b, c, d⟩ := h.vis g
  exact pv_var a b c d
theorem v_co (h : XO Z t k N sc raw X W) {i : Int} (g : glC sc x = true) (e : t.co.lookup x = some i) : PE X (.Name x pos) (tV Z.T W (sK (.int i))) := by
  obtain ⟨a, b, c⟩ := h.gl g
  obtain ⟨j, hj⟩ := h.z.co x i e
  exact pv_glob a (by rw [h.mg]; exact hj) b
theorem v_call (h : XO Z t k N sc raw X W) {j : Nat} {cf : List D → Bs → R D} {e : Expr} {es : List Expr} {s : SA} (F : FnG Z x j cf) (hj : Nat.ble j k = true) (g : glC sc x = true) (hs : noStars (e :: es) = true) (ha : PA X (e :: es) (tA' Z.T W s)) :
    PE X (.Call (.Name x p) (e :: es) [] pos) (tV Z.T W (sCall cf s)) := by
  obtain ⟨a, b, c⟩ := h.gl g
  obtain ⟨f, fd, ps, F1, F2, F3, F4⟩ := F
  exact pv_call (k := j) (f := f) (fd := fd) (ps := ps) (by rw [h.prog, h.w, h.K, h.mg, h.base]; exact F1) (h.room.mono (Nat.le_of_ble_eq_true hj)) a (by rw [h.mg]; exact F2) (by rw [h.K]; exact F3) (by rw [h.K]; exact F4) h.takes b hs ha
structure BF (x : Str) (id : String) (f : List D → Bs → R D) : Prop where
  cf : ∀ ds h, Calm (f ds h)
  boot : bootBuiltins x = some (.builtin id)
  run : ∀ {Z : Cfg} {t : Tx} {k : Nat} {N : List Str} {sc : Scope} {raw : Option Scope} {X : Cx} {W : WX}, XO Z t k N sc raw X W → CallR X (.builtin id) (rDn Z.T f)
structure BT (x : Str) (id : String) (f : List D → Bs → R D) : Prop where
  cf : ∀ ds h, Calm (f ds h)
  boot : bootBuiltins x = some (.type id)
  run : ∀ {Z : Cfg} {t : Tx} {k : Nat} {N : List Str} {sc : Scope} {raw : Option Scope} {X : Cx} {W : WX}, XO Z t k N sc raw X W → CallR X (.type id) (rDn Z.T f)
theorem v_bf {id : String} {f : List D → Bs → R D} (B : BF x id f) (h : XO Z t k N sc raw X W) {e : Expr} {es : List Expr} {s : SA} (g : (glC sc x && t.fr.contains x && noStars (e :: es)) = true) (ha : PA X (e :: es) (tA' Z.T W s)) :
    PE X (.Call (.Name x p) (e :: es) [] pos) (tV Z.T W (sCall f s)) := by
  simp only [Bool.and_eq_true] at g
  obtain ⟨⟨g1, g2⟩, g3⟩ := g
  obtain ⟨a, b, c⟩ := h.gl g1
  exact pv_callB B.cf (B.run h) a (h.fr g2) B.boot c b g3 ha
theorem v_bt {id : String} {f : List D → Bs → R D} (B : BT x id f) (h : XO Z t k N sc raw X W) {e : Expr} {es : List Expr} {s : SA} (g : (glC sc x && t.fr.contains x && noStars (e :: es)) = true) (ha : PA X (e :: es) (tA' Z.T W s)) :
    PE X (.Call (.Name x p) (e :: es) [] pos) (tV Z.T W (sCall f s)) := by
  simp only [Bool.and_eq_true] at g
  obtain ⟨⟨g1, g2⟩, g3⟩ := g
  obtain ⟨a, b, c⟩ := h.gl g1
  exact pv_callTy B.cf (B.run h) a (h.fr g2) B.boot c b g3 ha
theorem B_len : BF "len" "len" lenD := ⟨fun _ _ => lenD_calm, by decide +kernel, fun h => cv_len h.K⟩
theorem B_int : BT "int" "int" intD := ⟨fun _ _ => intD_calm, by decide +kernel, fun h => cv_int⟩
abbrev minD := mmD (fun i j => if j < i then j else i) minFold
abbrev maxD := mmD (fun i j => if j > i then j else i) maxFold
theorem B_min : BF "min" "min" minD := ⟨fun _ _ => mmD_calm, by decide +kernel, fun h => cv_min h.K h.calm (by have := h.units; omega)⟩
abbrev anyD' := anyD fun bs => bs.any id
abbrev allD' := anyD fun bs => bs.all id
theorem B_any : BF "any" "any" anyD' := ⟨fun _ _ => anyD_calm, by decide +kernel, fun h => cv_any h.K h.calm⟩
theorem B_all : BF "all" "all" allD' := ⟨fun _ _ => anyD_calm, by decide +kernel, fun h => cv_all h.K h.calm⟩
theorem B_list {bx : Bool} : BT "list" "list" (listD bx) := ⟨fun _ _ => listD_calm, by decide +kernel, fun h => cv_list h.K⟩
theorem B_tuple : BT "tuple" "tuple" tupleD := ⟨fun _ _ => tupleD_calm, by decide +kernel, fun h => cv_tuple h.K⟩
theorem B_sorted {bx : Bool} : BF "sorted" "sorted" (sortedD bx) := ⟨fun _ _ => sortedD_calm, by decide +kernel, fun h => cv_sorted h.K⟩
theorem v_add {bx : Bool} (h : XO Z t k N sc raw X W) (ha : PE X a (tV Z.T W sa)) (hb : PE X b (tV Z.T W sb)) : PE X (.BinOp a .Add b pos) (tV Z.T W (sOp (addD bx) sa sb)) := pv_op (fun _ _ _ => addD_calm) (ov_add h.K) ha hb
theorem v_mul {bx : Bool} (h : XO Z t k N sc raw X W) (ha : PE X a (tV Z.T W sa)) (hb : PE X b (tV Z.T W sb)) : PE X (.BinOp a .Mult b pos) (tV Z.T W (sOp (mulD bx) sa sb)) := pv_op (fun _ _ _ => mulD_calm) (ov_mul h.K) ha hb
theorem v_sub (h : XO Z t k N sc raw X W) (ha : PE X a (tV Z.T W sa)) (hb : PE X b (tV Z.T W sb)) : PE X (.BinOp a .Sub b pos) (tV Z.T W (sOp subD sa sb)) := pv_op (fun _ _ _ => subD_calm) ov_sub ha hb
theorem v_fdiv (h : XO Z t k N sc raw X W) (ha : PE X a (tV Z.T W sa)) (hb : PE X b (tV Z.T W sb)) : PE X (.BinOp a .FloorDiv b pos) (tV Z.T W (sOp fdivD sa sb)) := pv_op (fun _ _ _ => fdivD_calm) ov_fdiv ha hb
theorem v_mod (h : XO Z t k N sc raw X W) (ha : PE X a (tV Z.T W sa)) (hb : PE X b (tV Z.T W sb)) : PE X (.BinOp a .Mod b pos) (tV Z.T W (sOp modD sa sb)) := pv_op (fun _ _ _ => modD_calm) ov_mod ha hb
theorem v_ix (h : XO Z t k N sc raw X W) (hs : noSlice b = true) (ha : PE X a (tV Z.T W sa)) (hb : PE X b (tV Z.T W sb)) : PE X (.Subscript a b pos) (tV Z.T W (sOp ixD sa sb)) := pv_ix h.K hs ha hb
theorem v_sl {bx : Bool} {e : Expr} {lo hi : Option Expr} {p2 pos : Pos} {s : SV} {l u : SO} (h : XO Z t k N sc raw X W) (he : PE X e (tV Z.T W s)) (hl : PO X lo (tO' Z.T W l)) (hu : PO X hi (tO' Z.T W u)) : PE X (.Subscript e (.Slice lo hi none p2) pos) (tV Z.T W (sSl bx s l u)) := pv_sl h.K he hl hu
structure CF (op : CmpOp) (f : D → D → Bs → R D) : Prop where
  cf : ∀ d e h, Calm (f d e h)
  run : ∀ {Z : Cfg} {t : Tx} {k : Nat} {N : List Str} {sc : Scope} {raw : Option Scope} {X : Cx} {W : WX}, XO Z t k N sc raw X W → OpR X (compareOp op) (rD2 Z.T f)
theorem C_eq : CF .Eq (eqD false) := ⟨fun _ _ _ => eqD_calm, fun h => ov_eq h.K (by have := h.units; omega)⟩
theorem C_ne : CF .NotEq (eqD true) := ⟨fun _ _ _ => eqD_calm, fun h => ov_ne h.K (by have := h.units; omega)⟩
theorem C_in : CF .In (inD false) := ⟨fun _ _ _ => inD_calm, fun h => ov_in h.K h.units⟩
theorem C_notIn : CF .NotIn (inD true) := ⟨fun _ _ _ => inD_calm, fun h => ov_notIn h.K h.units⟩
theorem v_cmp {op : CmpOp} {f : D → D → Bs → R D} (C : CF op f) (h : XO Z t k N sc raw X W) (hb' : behindInMarks op b = false) (ha : PE X a (tV Z.T W sa)) (hb : PE X b (tV Z.T W sb)) : PE X (.Compare a [op] [b] pos) (tV Z.T W (sOp f sa sb)) := pv_cmp (pc_v C.cf (C.run h) ha hb) hb'
theorem t_cmp {op : CmpOp} {f : D → D → Bs → R D} (C : CF op f) (h : XO Z t k N sc raw X W) (hb' : behindInMarks op b = false) (ha : PE X a (tV Z.T W sa)) (hb : PE X b (tV Z.T W sb)) : PT X (.Compare a [op] [b] pos) (tB' Z.T W (sTru (sOp f sa sb))) := pvt_cmp (pc_v C.cf (C.run h) ha hb) hb'
theorem v_chn {op op' : CmpOp} {f g : D → D → Bs → R D} (C : CF op f) (C' : CF op' g) (h : XO Z t k N sc raw X W) (hm : lastMarks [op, op'] [b, c] = false) (ha : PE X a (tV Z.T W sa)) (hb : PE X b (tV Z.T W sb)) (hc : PE X c (tV Z.T W s3)) : PE X (.Compare a [op, op'] [b, c] pos) (tV Z.T W (sChn f g sa sb s3)) :=
  pv_chn C.cf C'.cf (C.run h) (C'.run h) hm ha hb hc
theorem t_chn {op op' : CmpOp} {f g : D → D → Bs → R D} (C : CF op f) (C' : CF op' g) (h : XO Z t k N sc raw X W) (hm : lastMarks [op, op'] [b, c] = false) (ha : PE X a (tV Z.T W sa)) (hb : PE X b (tV Z.T W sb)) (hc : PE X c (tV Z.T W s3)) : PT X (.Compare a [op, op'] [b, c] pos) (tB' Z.T W (sTru (sChn f g sa sb s3))) :=
  pvt_chn C.cf C'.cf (C.run h) (C'.run h) hm ha hb hc
theorem clsN_ty (h : XO Z t k N sc raw X W) {u : Nat} {id : String} (hu : u < 7) (e : tyS u = id) (hb : bootBuiltins x = some (.type id)) (g : (glC sc x && t.fr.contains x) = true) : ClsN X Z.T x u := by
  simp only [Bool.and_eq_true] at g
  obtain ⟨a, b, c⟩ := h.gl g.1
  refine ⟨.ty id, .type id, by unfold Tb.tyV; rw [if_pos hu, e], ?_, fun pos => pe_bltn a (h.fr g.2) hb ?_ c b⟩
  · exact .ty id
  · rfl
end
end VI
end
section
namespace VI
open PySem PySem.Spec PyProof.Rows L2
def swC (ts vs : List Expr) (sc : Scope) : Option (Option (List Str)) :=
  if !(ts.length == 2 || ts.length == 3) || vs.length != ts.length || (match sc.kind with | .function => false | _ => true) then some none else
  if vs.any (fun | .Starred .. => true | _ => false) then some none else
  let line := (ts.head?.map (·.pos.line)).getD 0
  let names := ts.filterMap fun
    | .Name id pos => if sc.names.lookup id == some .local && pos.line == line then some id else none
    | _ => none
  if names.length != ts.length || names.eraseDups.length != names.length then some none else
  if vs.all (foldedForSure 8) then some none else
  if vs.all (constantsAlone 8) then none else
  some (some names)
def tupOf : Expr → Option (List Expr)
  | .Tuple ts _ _ => some ts
  | _ => none
section
variable {Z : Cfg} {t : Tx} {k : Nat} {N : List Str} {sc : Scope} {raw : Option Scope} {X : Cx} {W : WX} {pos p : Pos} {a b c : Expr} {sa sb s3 : SV} {x : Str}
theorem sw_of {ts vs : List Expr} {k1 k2 : Nat} {p1 p2 : Pos} {env : Env} {r : Option (List Str)} (hs : env.scope = sc) (hk : sc.kind = .function) (h : swC ts vs sc = some r) : swappedStores [.Tuple ts k1 p1] (.Tuple vs k2 p2) env = pure r := by
  have hb : env.blockKind = .function := by unfold Env.blockKind; rw [hs, hk]; rfl
  unfold swC at h
  unfold swappedStores
  simp only [hb, hk, Env.kindOf, hs] at h ⊢
  have hff : (ScopeKind.function != ScopeKind.function) = false := rfl
  rw [hff]
  split at h
  · rename_i c; refine (if_pos c).trans ?_; cases h; rfl
  rename_i c; refine (if_neg c).trans ?_; clear c
  split at h
  · rename_i c; refine (if_pos c).trans ?_; cases h; rfl
  rename_i c; refine (if_neg c).trans ?_; clear c
  split at h
  · rename_i c; refine (if_pos c).trans ?_; cases h; rfl
  rename_i c; refine (if_neg c).trans ?_; clear c
  split at h
  · rename_i c; refine (if_pos c).trans ?_; cases h; rfl
  rename_i c; refine (if_neg c).trans ?_; clear c
  split at h
  · cases h
  rename_i c; refine (if_neg c).trans ?_; clear c
  cases h
  rfl
theorem s_set {i : Nat} {py : Pos} (h : XO Z t k N sc raw X W) (g : locC N sc raw i x = true) (hc : isComp a = false) (ha : PE X a (tV Z.T W sa)) : PS X (.Assign [.Name x py] a pos) (tS' Z.T W (ssAsg sa (sgName i))) := by
  obtain ⟨g1, g2, g3⟩ := h.loc g
  exact psv_set h.nd' g1 g2 g3 hc ha
theorem g_name {i : Nat} {own : List Nat} (h : XO Z t k N sc raw X W) (g : locC N sc raw i x = true) (ho : own.contains i = true) : PG X (.Name x pos) (tG' Z.T own (sgName i)) := by
  obtain ⟨g1, g2, g3⟩ := h.loc g
  exact pgv_name h.nd' g1 g2 g3 (by simpa using ho)
theorem g_tup {own : List Nat} {es : List Expr} {j : Nat} {s : SGs} (h : XO Z t k N sc raw X W) (hs : noStarTs es = true) (hg : PGs X es (tGs' Z.T own s)) : PG X (.Tuple es j pos) (tG' Z.T own (sgTup es.length s)) := pgv_tup h.calm hs hg
theorem s_asgT {own : List Nat} {ts vs : List Expr} {k1 k2 : Nat} {p1 p2 : Pos} {g : SG} (h : XO Z t k N sc raw X W) (hw : swC ts vs sc = some none) (ha : PE X (.Tuple vs k2 p2) (tV Z.T W sa)) (hg : PG X (.Tuple ts k1 p1) (tG' Z.T own g)) : PS X (.Assign [.Tuple ts k1 p1] (.Tuple vs k2 p2) pos) (tS' Z.T W (ssAsg sa g)) :=
  psv_asg rfl (sw_of h.sc h.kd hw) rfl ha hg
def noSet : Expr → Bool
  | .Set .. => false
  | _ => true
theorem fsi {e : Expr} {env : Env} (h : noSet e = true) (x : Value) : foldedSetIterable e env x = pure x := by
  cases e <;> first | rfl | cases h
theorem s_for {own : List Nat} {tg iter : Expr} {body : List Stmt} {it : SI} {g : SG} {s : SS} (h : XO Z t k N sc raw X W) (hs : noSet iter = true) (hi : PI X tg iter (tI' Z.T W it)) (hg : PG X tg (tG' Z.T own g)) (hb : PSs X body (tS' Z.T W s)) : PS X (.For tg iter body [] pos) (tS' Z.T W (ssFor it g s)) :=
  psv_for h.pass h.calm hi hg hb (fsi hs)
theorem i_seq {tg e : Expr} {s : SV} (h : XO Z t k N sc raw X W) (he : PE X e (tV Z.T W s)) : PI X tg e (tI' Z.T W (siSeq s)) := piv_seq h.K he
theorem i_rng1 {tg : Expr} {s : SA} (h : XO Z t k N sc raw X W) (g : (glC sc "range" && t.fr.contains "range" && noStars [a]) = true) (ha : PA X [a] (tA' Z.T W s)) : PI X tg (.Call (.Name "range" p) [a] [] pos) (tI' Z.T W (siArg itRng1 s)) := by
  simp only [Bool.and_eq_true, noStars, List.all_cons, List.all_nil, Bool.not_eq_true', Bool.and_true] at g
  exact piv_range1 (h.gl g.1.1).1 (h.fr g.1.2) g.2 ha
theorem i_rng2 {tg : Expr} {s : SA} (h : XO Z t k N sc raw X W) (g : (glC sc "range" && t.fr.contains "range" && noStars [a, b]) = true) (ha : PA X [a, b] (tA' Z.T W s)) : PI X tg (.Call (.Name "range" p) [a, b] [] pos) (tI' Z.T W (siArg itRng2 s)) := by
  simp only [Bool.and_eq_true, noStars, List.all_cons, List.all_nil, Bool.not_eq_true', Bool.and_true] at g
  exact piv_range2 (h.gl g.1.1).1 (h.fr g.1.2) g.2.1 g.2.2 ha
theorem v_lc {bx : Bool} {own : List (Str × Nat)} {tg iter elt : Expr} {ifs : List Expr} {scope : Scope} {it : SI} {g : SG} {tt : SB} {el : SV} (h : XO Z t k N sc raw X W) (g1 : (blkC N sc scope own && noSet iter) = true) (hi : PI X tg iter (tI' Z.T W it))
    (hb : ∀ X' : Cx, XO Z t k N (relS scope sc) (some scope) X' noW → PG X' tg (tG' Z.T (own.map (·.2)) g) ∧ PTs X' ifs (tB' Z.T noW tt) ∧ PE X' elt (tV Z.T noW el)) :
    PE X (.ListComp elt [⟨tg, iter, ifs, 0⟩] scope pos) (tV Z.T W (sLc bx (own.map (·.2)) it g tt el)) := by
  simp only [Bool.and_eq_true] at g1
  have ok : BlkOk X.N X.env.scope scope own := by rw [h.N, h.sc]; exact blkOk_by g1.1
  have q := fun s H C cl fp => hb _ (h.blk ok.kind s H C cl fp)
  exact pv_lc h.calm h.nd' hi ok (fun s H C cl fp => (q s H C cl fp).1) (fun s H C cl fp => (q s H C cl fp).2.1) (fun s H C cl fp => (q s H C cl fp).2.2) (fsi g1.2)
def swl (scope : Scope) (y : Str) (py pos : Pos) : Bool := (py.line == pos.line) && !(scope.names.any fun (n, k) => n == y && (k == .local || k == .cell))
theorem s_setLc {bx : Bool} {i : Nat} {y : Str} {py spos : Pos} {own : List (Str × Nat)} {tg iter elt : Expr} {ifs : List Expr} {scope : Scope} {it : SI} {g : SG} {tt : SB} {el : SV} (h : XO Z t k N sc raw X W)
    (g0 : (decide (N[i]? = some y) && decide (sc.names.lookup y = some .local) && swl scope y py pos) = true) (g1 : (blkC N sc scope own && noSet iter) = true) (hi : PI X tg iter (tI' Z.T W it))
    (hb : ∀ X' : Cx, XO Z t k N (relS scope sc) (some scope) X' noW → PG X' tg (tG' Z.T (own.map (·.2)) g) ∧ PTs X' ifs (tB' Z.T noW tt) ∧ PE X' elt (tV Z.T noW el)) :
    PS X (.Assign [.Name y py] (.ListComp elt [⟨tg, iter, ifs, 0⟩] scope pos) spos) (tS' Z.T W (ssAsg (sLc bx (own.map (·.2)) it g tt el) (sgName i))) := by
  simp only [Bool.and_eq_true, decide_eq_true_eq, swl, Bool.not_eq_true'] at g1 g0
  have ok : BlkOk X.N X.env.scope scope own := by rw [h.N, h.sc]; exact blkOk_by g1.1
  have q := fun s H C cl fp => hb _ (h.blk ok.kind s H C cl fp)
  exact psv_setLc h.calm h.nd' (by rw [h.N]; exact g0.1.1) (by rw [h.sc]; exact g0.1.2) (sw_true (by rw [h.sc]; exact h.kd) (by rw [h.sc]; exact g0.1.2) g0.2.1 g0.2.2) hi ok (fun s H C cl fp => (q s H C cl fp).1) (fun s H C cl fp => (q s H C cl fp).2.1) (fun s H C cl fp => (q s H C cl fp).2.2) (fsi g1.2)
theorem s_setLcN {i : Nat} {y : Str} {py spos : Pos} {gs : List Comprehension} {elt : Expr} {scope : Scope} {s : SV} (h : XO Z t k N sc raw X W) (g : locC N sc raw i y = true) (hl : (decide (sc.names.lookup y ≠ some .local) || !swl scope y py pos) = true)
    (ha : PE X (.ListComp elt gs scope pos) (tV Z.T W s)) : PS X (.Assign [.Name y py] (.ListComp elt gs scope pos) spos) (tS' Z.T W (ssAsg s (sgName i))) := by
  obtain ⟨g1, g2, g3⟩ := h.loc g
  refine PS.imp (ps_set h.nd' g1 g2 ha ?_ g3) asgN_imp
  unfold swapsWith
  have hb : X.env.blockKind = .function := by unfold Env.blockKind; rw [h.sc, h.kd]; rfl
  simp only [hb, Env.kindOf, h.sc, Expr.pos]
  have e : (ScopeKind.function == ScopeKind.function && List.lookup y sc.names == some NameKind.local && py.line == pos.line && !(scope.names.any fun (n, k) => n == y && (k == .local || k == .cell))) = false := by
    simp only [Bool.or_eq_true, decide_eq_true_eq, Bool.not_eq_true', swl] at hl
    rcases hl with hl | hl
    · have e2 : (List.lookup y sc.names == some NameKind.local) = false := by
        cases z : (List.lookup y sc.names == some NameKind.local) with
        | false => rfl
        | true => exact absurd (LawfulBEq.eq_of_beq z) hl
      rw [e2]; simp
    · rw [Bool.and_assoc, hl]; simp
  exact congrArg pure e
structure LM (name : Str) (id : String) (f : D → List D → Bs → R D) : Prop where
  cf : ∀ d ds h, Calm (f d ds h)
  slot : Slot "list" name id
  ty : typeOf (.builtin id) = pure (.type "method_descriptor")
  run : ∀ {X : Cx} {T : Tb}, MtR X id (rMt T f)
theorem v_bm {name : Str} {id : String} {f : D → List D → Bs → R D} {e : Expr} {es : List Expr} {apos cpos : Pos} {so : SV} {s : SA} (M : LM name id f) (h : XO Z t k N sc raw X W) (g : (noSuper a && noStars (e :: es) && Nat.blt (e :: es).length 30 && (apos.endLine == cpos.line)) = true) (ho : PE X a (tV Z.T W so)) (ha : PA X (e :: es) (tA' Z.T W s)) :
    PE X (.Call (.Attribute a name apos) (e :: es) [] cpos) (tV Z.T W (sBm f so s)) := by
  simp only [Bool.and_eq_true] at g
  exact pv_bm M.cf h.K PySem.F.plainAttrs_list M.slot M.ty M.run g.1.1.1 g.1.1.2 (by have e := g.1.2; simp [Nat.blt] at e; simp; omega) g.2 ho ha
theorem M_append : LM "append" "list.append" appD := ⟨fun _ _ _ => appD_calm, PySem.F.slot_list_append, PySem.F.type_list_append, mv_append⟩
theorem M_extend : LM "extend" "list.extend" extD := ⟨fun _ _ _ => extD_calm, PySem.F.slot_list_extend, PySem.F.type_list_extend, mv_extend⟩
theorem v_isi {e : Expr} {u : Nat} {q : Pos} {s : SV} (h : XO Z t k N sc raw X W) (g : (glC sc "isinstance" && t.fr.contains "isinstance" && noStars [e]) = true) (hx : ClsN X Z.T x u) (he : PE X e (tV Z.T W s)) : PE X (.Call (.Name "isinstance" p) [e, .Name x q] [] pos) (tV Z.T W (sUn (isiD Z.T u) s)) := by
  simp only [Bool.and_eq_true, noStars, List.all_cons, List.all_nil, Bool.not_eq_true', Bool.and_true] at g
  exact pv_isi h.z.ok h.K (h.gl g.1.1).1 (h.fr g.1.2) (by decide +kernel) g.2 hx he
theorem v_isi2 {e : Expr} {y : Str} {u u2 kk : Nat} {q q2 q3 : Pos} {s : SV} (h : XO Z t k N sc raw X W) (g : (glC sc "isinstance" && t.fr.contains "isinstance" && noStars [e]) = true) (hx : ClsN X Z.T x u) (hy : ClsN X Z.T y u2) (he : PE X e (tV Z.T W s)) :
    PE X (.Call (.Name "isinstance" p) [e, .Tuple [.Name x q, .Name y q2] kk q3] [] pos) (tV Z.T W (sUn (isiD2 Z.T u u2) s)) := by
  simp only [Bool.and_eq_true, noStars, List.all_cons, List.all_nil, Bool.not_eq_true', Bool.and_true] at g
  exact pv_isi2 h.z.ok h.K (h.gl g.1.1).1 (h.fr g.1.2) (by decide +kernel) g.2 hx hy he
theorem N_int (h : XO Z t k N sc raw X W) (g : (glC sc "int" && t.fr.contains "int") = true) : ClsN X Z.T "int" 2 := clsN_ty h (by decide) rfl (by decide +kernel) g
theorem N_bool (h : XO Z t k N sc raw X W) (g : (glC sc "bool" && t.fr.contains "bool") = true) : ClsN X Z.T "bool" 1 := clsN_ty h (by decide) rfl (by decide +kernel) g
theorem N_tuple (h : XO Z t k N sc raw X W) (g : (glC sc "tuple" && t.fr.contains "tuple") = true) : ClsN X Z.T "tuple" 4 := clsN_ty h (by decide) rfl (by decide +kernel) g
theorem N_list (h : XO Z t k N sc raw X W) (g : (glC sc "list" && t.fr.contains "list") = true) : ClsN X Z.T "list" 5 := clsN_ty h (by decide) rfl (by decide +kernel) g
def DefAt (Z : Cfg) (x : Str) (st : Stmt) : Prop := ∃ f fd, FunD Z.T.K x x (defArgs st) (defBody st) (defScope st) [] [] f fd ∧ Z.mg x = some (.ref f)
theorem fn_of {x : Str} {st : Stmt} {N ps : List Str} {s : SS} (z : Z.Ok t) (Df : DefAt Z x st) (S : FnScope N ps (defScope st))
    (hb : ∀ (kV doc pm : Value) (an : Option Addr) (cdv ct : Value) (us : List Value), us.length = ps.length → bindArgs (PySem.W.fnOf x x (defArgs st) (defBody st) (defScope st) .none kV doc pm an cdv ct) ⟨us, []⟩ = pure (ps.zip us))
    (B : ∀ (X : Cx) (W : WX), XO Z t k N (defScope st) none X W → PSs X (defBody st) (tS' Z.T W s)) : FnG Z x (k + 1) (runFn ps.length N.length s) := by
  obtain ⟨f, fd, F, hm⟩ := Df
  refine ⟨f, fd, ps, fn_sound F S fun cdv A outer s H E hr => B _ _ ⟨z, rfl, rfl, rfl, rfl, rfl, rfl, S.nd, rfl, S.kind, fun _ _ => rfl, rfl, hr, takes_of rfl rfl rfl rfl, passes_of rfl, fun _ => ⟨rfl, rfl, rfl⟩⟩, hm, F.kp, F.bindsN hb⟩
theorem FnG.mono {x : Str} {j k : Nat} {cf : List D → Bs → R D} (F : FnG Z x j cf) : FnG Z x j cf := F
end
end VI
end
section
namespace VI
open PySem PySem.Spec PyProof.Rows L2
def dedI : List Int → List Int
  | [] => []
  | n :: ns => if n ∈ ns then dedI ns else n :: dedI ns
theorem dedI_mem (k : Int) : ∀ ns, k ∈ dedI ns ↔ k ∈ ns
  | [] => by simp [dedI]
  | n :: ns => by
    simp only [dedI]
    split
    · rename_i h
      rw [dedI_mem k ns]
      simp only [List.mem_cons]
      constructor
      · exact .inr
      · rintro (rfl | h2)
        · exact h
        · exact h2
    · simp only [List.mem_cons, dedI_mem k ns]
theorem dedI_nodup : ∀ ns, (dedI ns).Nodup
  | [] => .nil
  | n :: ns => by
    simp only [dedI]
    split
    · exact dedI_nodup ns
    · rename_i h
      exact List.nodup_cons.mpr ⟨fun e => h ((dedI_mem n ns).mp e), dedI_nodup ns⟩
theorem ded_len {ns l : List Int} (hn : l.Nodup) (hm : ∀ k, k ∈ l ↔ k ∈ ns) : l.length = (dedI ns).length :=
  ((List.perm_ext_iff_of_nodup hn (dedI_nodup ns)).mpr fun a => (hm a).trans (dedI_mem a ns).symm).length_eq
theorem fm_nodup (val : Nat → Int) : ∀ i, (firstMet val i).Nodup
  | 0 => by rw [firstMet_zero]; exact .nil
  | i + 1 => by
    rw [firstMet_succ]
    unfold step_dedup
    split
    · exact fm_nodup val i
    · rename_i h
      refine List.nodup_append.mpr ⟨fm_nodup val i, by simp, ?_⟩
      intro a ha b hb e
      simp only [List.mem_singleton] at hb
      subst hb e
      apply h
      simpa using ha
theorem getD_range (ns : List Int) : (List.range ns.length).map (fun i => ns.getD i 0) = ns := by
  apply List.ext_getElem
  · simp
  · intro i h1 h2
    simp [List.getD, List.getElem?_eq_getElem h2]
theorem fm_len (ns : List Int) : (firstMet (fun i => ns.getD i 0) ns.length).length = (dedI ns).length := by
  refine ded_len (fm_nodup _ _) fun k => ?_
  have e := firstMet_any (fun i => ns.getD i 0) ns.length k
  rw [getD_range] at e
  constructor
  · intro h
    have : ns.any (· == k) = true := by rw [← e]; exact List.any_eq_true.mpr ⟨k, h, by simp⟩
    simpa using this
  · intro h
    have : (firstMet (fun i => ns.getD i 0) ns.length).any (· == k) = true := by rw [e]; exact List.any_eq_true.mpr ⟨k, h, by simp⟩
    simpa using this
def lenSetD (d : D) (h : Bs) : R D := match seqOf h d with
  | some xs => (match intsD xs with
    | some ns => if ns.length ≤ 1000 then .ok (.int (dedI ns).length) h else .no
    | none => .no)
  | none => .no
section
variable {Z : Cfg} {t : Tx} {k : Nat} {N : List Str} {sc : Scope} {raw : Option Scope} {X : Cx} {W : WX} {pos p q p2 : Pos} {a b c : Expr} {sa sb s3 : SV} {x : Str}
theorem na_one {env : Env} (hs : noStars [a] = true) : starEach [a] env = (false, eval a env) :: starEach [] env := star_no (by simpa [noStars] using hs)
theorem dedI_le : ∀ ns : List Int, (dedI ns).length ≤ ns.length
  | [] => Nat.le_refl _
  | n :: ns => by
    have := dedI_le ns
    simp only [dedI]
    split <;> simp <;> omega
def tLs (K : PySem.W.Frag) (ta : TE) : TE := fun σ H Q => ta σ H fun x H1 => ∃ (l : Addr) (ns : List Int), x = .ref l ∧ (SqT K H1 l (ns.map V.int) ∨ SqL K H1 l (ns.map V.int)) ∧ ns.length ≤ 1000 ∧ Q (.int ((dedI ns).length : Nat)) H1
theorem pe_ls {ta : TE} (hg : Gl X "len") (hm : X.mg "len" = none) (hg2 : Gl X "set") (hm2 : X.mg "set" = none) (ha : PE X a ta) (hc : X.calm = true)
    (na : starEach [a] X.env = (false, eval a X.env) :: starEach [] X.env) : PE X (.Call (.Name "len" p) [.Call (.Name "set" p2) [a] [] q] [] pos) (tLs X.K ta) := by
  refine ⟨fun pins s σ H Q I h => ?_⟩
  refine Call_ (ld_blt I hg hm boot_len ?_)
  refine PyProof.Rows.callWith_builtin1 (PyProof.Rows.args_cons ?_ rfl) rfl rfl
  refine Call_ (ld_blt I hg2 hm2 PyProof.Rows.boot_set ?_)
  refine PyProof.Rows.callWith_type1 (PyProof.Rows.args_cons (thn (ha.run pins s σ H _ I h) fun v s1 ⟨x, H1, I1, r1, q1⟩ => PyProof.Rows.args_nil ?_) na) na rfl
  obtain ⟨l, ns, rfl, hq, hl, q1⟩ := q1
  cases r1
  rcases hq with hq | hq
  · obtain ⟨its, rv, pt, hz⟩ := I1.tuple hq
    have hi : IntsAre its.toArray.toList ns := by simpa using RZ.intsAre_vals rv
    refine call_set_tupI ns (I1.ok.hd hc) (show s1.heap.IsTuple l its.toArray from pt) hi (by unfold scanBound; omega) fun h' tk c R1 hcn k => ?_
    refine PyProof.Rows.args_nil ?_
    obtain ⟨o, es, ep, t, ho, hex, hdt, g, nd, hm2, hb, hf, hn, hr, hl2⟩ := R1
    have I2 : Inv X pins σ H1 { s1 with heap := h', toks := tk } := I1.kept k
    have e : es.size = (dedI ns).length := by
      rw [← ded_len nd fun k => by rw [← hm2 k]; simp, List.length_map, Array.length_toList]
    exact call_len_set ho hex hdt hf (by have := dedI_le ns; omega) ⟨.int (dedI ns).length, H1, I2.tok _, ⟨_, by rw [e]⟩, q1⟩
  · obtain ⟨its, r, pl, hz⟩ := I1.list hq
    have hlen : its.toArray.size = ns.length := by rw [List.size_toArray, ← r.length, List.length_map]
    refine call_set_list (I1.ok.hd hc) pl.isList (by simpa using RZ.intsAre_vals r) (by rw [hlen]; unfold scanBound; omega) fun h' tk hS hk => ?_
    refine PyProof.Rows.args_nil ?_
    rw [hlen, fm_len] at hS
    obtain ⟨o, es, ep, t, ho, hex, hd, _, _, _, hf, hn⟩ := hS
    have I2 : Inv X pins σ H1 { s1 with heap := h', toks := tk } := I1.kept fun b o e => hk b o (Heap.lt_size e) e
    exact call_len_set ho hex hd hf (by have := dedI_le ns; rw [hn]; omega) ⟨.int (dedI ns).length, H1, I2.tok _, ⟨_, by rw [hn]⟩, q1⟩
theorem v_ls (h : XO Z t k N sc raw X W) (g : (glC sc "len" && t.fr.contains "len" && glC sc "set" && t.fr.contains "set" && noStars [a]) = true) (ha : PE X a (tV Z.T W sa)) : PE X (.Call (.Name "len" p) [.Call (.Name "set" p2) [a] [] q] [] pos) (tV Z.T W (sUn lenSetD sa)) := by
  simp only [Bool.and_eq_true] at g
  refine PE.imp (pe_ls (h.gl g.1.1.1.1).1 (h.fr g.1.1.1.2) (h.gl g.1.1.2).1 (h.fr g.1.2) ha h.calm (na_one g.2)) fun σ H Q ⟨μ, ρ, hh, r, e, o⟩ => ⟨μ, ρ, hh, r, e, OutV.mono (OutV.bind o) ?_⟩
  rintro v H1 ⟨μ1, d, h1, s1, r1, rv, o1⟩
  unfold lenSetD at o1
  split at o1
  · split at o1
    · split at o1
      · rename_i xs hx _ ns hn hl
        obtain ⟨a, rfl, hq⟩ := r1.ints rv hx hn
        exact ⟨a, ns, rfl, by rw [h.K]; exact hq, hl, o1 μ1 H1 _ Stp.refl r1 (rep_int rfl)⟩
      · exact o1.elim
    · exact o1.elim
  · exact o1.elim
def rgL (bx : Bool) (d : D) (h : Bs) : R D := match d with
  | .int n => if -(2 ^ 62) ≤ n ∧ n < 2 ^ 62 ∧ n.toNat ≤ 2 ^ 24 then newL bx (rngItems 0 n.toNat) h else .no
  | _ => .no
end
end VI
end
section
namespace VI
open PySem PySem.Spec PyProof.Rows L2
theorem kit0_ok (K : PySem.W.Frag) : ∀ t < 7, ∀ u < 7, PySem.W.kitOne K (.type (tyS t)) (.type (tyS u)) = some (t == u || (t == 1 && u == 2)) := by
  intro t ht u hu
  have h1 : t = 0 ∨ t = 1 ∨ t = 2 ∨ t = 3 ∨ t = 4 ∨ t = 5 ∨ t = 6 := by omega
  have h2 : u = 0 ∨ u = 1 ∨ u = 2 ∨ u = 3 ∨ u = 4 ∨ u = 5 ∨ u = 6 := by omega
  rcases h1 with rfl | rfl | rfl | rfl | rfl | rfl | rfl <;> rcases h2 with rfl | rfl | rfl | rfl | rfl | rfl | rfl <;> first | rfl | kernel_rfl
theorem walk_w {l : PySem.W.OpenLaw} {n k : Nat} {q : Program} {loose : List Str} {XP : (Str → Option Value) → Heap → Prop} {YP : World → Heap → Prop} {d : DefRec} {x : Str}
    (hn : l.most = some n) (hn2 : n ≤ sizeLine) (hdf : d.params.defaults = []) (hr : Room k callerA)
    (F : ∀ (w : World) (mg : Str → Option Value) (fa : Addr) (h : Heap), YP w h → h.Ns mainGlobals mg → mg d.name = some (.ref fa) →
      ∃ (K : PySem.W.Frag) (fd : FuncData) (sp : Sp), K.In h ∧ (∀ (s : Shared) (u : Value), BindsTo s fd ⟨[u], []⟩ [(x, u)]) ∧
        (∀ (H : Hp) (a : Addr) (ns : List Int), ns.length ≤ n → SqL K H a (ns.map V.int) → sp [.ref a] H (fun v _ => v = .bl true) fun _ _ _ => False) ∧
        ∀ base : Heap, K.In base → base.Ns mainGlobals mg → FnOk l.prog w K mg base (CX l.prog w) k fa fd [x] sp) :
    PySem.W.WalkO q loose XP YP l.row.toRowW d [] (fun f vs => PySem.call f vs) := by
  refine Att.attach_call hn hdf fun w s₀ s₁ mg mb fa o pm cd doc a vs ns G Y ho hd hcd hmg hobj hints hlen hg => ?_
  obtain ⟨K, fd, sp, KX, hb, hsp, hF⟩ := F w mg fa _ Y G.T.g hmg
  exact law_call KX G.T.g G.T.b G.T.builtins G.T.nolimit hg hobj hints (Nat.le_trans hlen hn2) hr hF hb (fun H hO hS => hsp H a ns hlen hS) fun H e s' ⟨_, _, _, _, _, _, _, _, _, _, _, _, z⟩ => z
abbrev bs0 : Bs := ⟨[], []⟩
theorem start_ok {T : Tb} {H : Hp} {a : Addr} {ns : List Int} {cf : List D → Bs → R D} {h' : Bs} (hS : SqL T.K H a (ns.map V.int)) (e : cf [.scr ns] bs0 = .ok (.bl true) h') : spF T cf [.ref a] H (fun v _ => v = .bl true) fun _ _ _ => False := by
  refine ⟨⟨[], [], [], []⟩, bs0, [.scr ns], ⟨rfl, fun _ h => by simp at h, fun _ h => by simp at h, fun _ _ _ h => by simp at h, rfl, .nil, fun _ _ _ h => by simp at h, fun _ h => by simp at h, .nil, fun _ h => by simp at h⟩, .one ?_, ?_⟩
  · simp only [Rep]
    refine ⟨a, rfl, ?_⟩
    rcases hS with h | h
    · exact .inl ⟨h, by simp [Mu.no]⟩
    · exact .inr h
  · rw [e]
    intro μ' H' v _ _ q
    simpa only [Rep] using q
end VI
end
section
namespace VI
open PySem PySem.Spec PyProof.Rows L2
mutual
def noD : D → Bool
  | .tup xs => noDs xs
  | .tpl xs => noDs xs
  | .lst xs => noDs xs
  | .dct _ _ => false
  | .obj _ _ vs => noDs vs
  | .exo _ _ vs => noDs vs
  | .ref _ => false
  | _ => true
def noDs : List D → Bool
  | [] => true
  | x :: xs => noD x && noDs xs
end
section
variable {α β : Type} {T : Tb} {h h' : Bs} {ρ : Ev}
@[simp] theorem bind_ok {a : α} {f : α → Bs → R β} : (R.ok a h).bind f = f a h := rfl
@[simp] theorem bind_ex {x : Ex} {f : α → Bs → R β} : (R.ex x h : R α).bind f = .ex x h := rfl
@[simp] theorem toF_ok {a : α} {k : α → Bs → F} : (R.ok a h).toF ρ k = k a h := rfl
@[simp] theorem toF_ex {x : Ex} {k : α → Bs → F} : (R.ex x h : R α).toF ρ k = .ex x ρ h := rfl
@[simp] theorem toF'_ok : (R.ok ρ h).toF' = .nx ρ h := rfl
@[simp] theorem Fbind_nx {g : Ev → Bs → F} : (F.nx ρ h).bind g = g ρ h := rfl
@[simp] theorem Fbind_rt {d : D} {g : Ev → Bs → F} : (F.rt d h).bind g = .rt d h := rfl
@[simp] theorem lockO_none : lockO none h = h := rfl
@[simp] theorem unlO_none : unlO none h = h := rfl
@[simp] theorem unlR_ok {l : Option Nat} {a : α} : unlR l (.ok a h) = .ok a (unlO l h) := rfl
@[simp] theorem unlF_nx {l : Option Nat} : unlF l (.nx ρ h) = .nx ρ (unlO l h) := rfl
@[simp] theorem unlF_rt {l : Option Nat} {d : D} : unlF l (.rt d h) = .rt d (unlO l h) := rfl
@[simp] theorem inB_bs : (inB h).bs = h.bs := rfl
@[simp] theorem inB_fbs : (inB h).fbs = h.bs.length :: h.fbs := rfl
@[simp] theorem outB_inB : outB h (inB h) = h := by
  unfold outB inB
  simp
mutual
theorem frzD_id (g : Nat → Option D) : ∀ d : D, noD d = true → frzD g d = some d
  | .non, _ => rfl
  | .bl _, _ => rfl
  | .int _, _ => rfl
  | .str _, _ => rfl
  | .scr _, _ => rfl
  | .tup xs, e => by simp only [noD] at e; simp only [frzD, frzDs_id g xs e]
  | .lst xs, e => by simp only [noD] at e; simp only [frzD, frzDs_id g xs e]
  | .tpl xs, e => by simp only [noD] at e; simp only [frzD, frzDs_id g xs e]
  | .obj c fs xs, e => by simp only [noD] at e; simp only [frzD, frzDs_id g xs e]
  | .exo c fs xs, e => by simp only [noD] at e; simp only [frzD, frzDs_id g xs e]
  | .ref _, e => by simp [noD] at e
  | .dct _ _, e => by simp [noD] at e
theorem frzDs_id (g : Nat → Option D) : ∀ d : List D, noDs d = true → frzDs g d = some d
  | [], _ => rfl
  | x :: xs, e => by simp only [noDs, Bool.and_eq_true] at e; simp only [frzDs, frzD_id g x e.1, frzDs_id g xs e.2]
end
theorem noDs_ints : ∀ ns : List Int, noDs (ns.map .int) = true
  | [] => rfl
  | n :: ns => by simp [noDs, noD, noDs_ints ns]
theorem noDs_all : ∀ {xs : List D}, noDs xs = true ↔ ∀ x ∈ xs, noD x = true
  | [] => by simp [noDs]
  | x :: xs => by simp [noDs, noDs_all (xs := xs)]
theorem run_rt {np ns : Nat} {s : SS} {ds : List D} {d : D} (hl : ds.length = np) (hs : s (slots ns ds) (inB h) = .rt d (inB h)) (hd : noD d = true) : runFn np ns s ds h = .ok d h := by
  unfold runFn
  rw [if_pos hl, hs]
  simp only [finF, frzD_id _ d hd, outB_inB]
theorem newL_f {xs : List D} (e : xs.length ≤ sizeLine) : newL false xs h = .ok (.lst xs) h := by unfold newL; rw [if_pos e]; rfl
theorem newL_t {xs : List D} (e : xs.length ≤ sizeLine) : newL true xs h = .ok (.ref h.bs.length) { h with bs := h.bs ++ [.lst false xs] } := by unfold newL; rw [if_pos e]; rfl
theorem newT_f {xs : List D} (e : xs.length ≤ sizeLine) : newT xs h = .ok (.tup xs) h := by unfold newT; rw [if_pos e]
end
namespace Std
def number : SS := (ssCons (ssAsg (sIte (sOp (eqD true) (sVar 0) (sLst false saNil)) (sSl false (sVar 0) soNone (soSome (sK (.int 63)))) (sLst false (saCons (sK (.int 5)) saNil))) (sgName 2))
  (ssCons (ssAsg (sOp (addD false) (sOp ixD (sVar 2) (sOp modD (sCall intD (saCons (sVar 1) saNil)) (sCall lenD (saCons (sVar 2) saNil)))) (sOp (mulD false) (sK (.int 13)) (sOp fdivD (sVar 1) (sCall lenD (saCons (sVar 2) saNil))))) (sgName 3))
  (ssCons (ssAsg (sTup (saCons (sOp modD (sCall intD (saCons (sVar 3) saNil)) (sK (.int 1000003))) (saCons (sOp modD (sCall intD (saCons (sOp fdivD (sVar 3) (sK (.int 1000003))) saNil)) (sK (.int 999983))) saNil))) (sgTup 2 (sgCons (sgName 4) (sgCons (sgName 5) sgNil))))
  (ssCons (ssAsg (sOp modD (sCall intD (saCons (sCall sumD (saCons (sVar 2) saNil)) saNil)) (sK (.int 65521))) (sgName 6))
  (ssCons (ssAsg (sOp modD (sCall intD (saCons (sOp (addD false) (sOp (addD false) (sOp (mulD false) (sOp (addD false) (sVar 4) (sOp (mulD false) (sK (.int 977)) (sVar 1))) (sK (.int 48271))) (sOp (mulD false) (sK (.int 31)) (sVar 5))) (sVar 6)) saNil)) (sK (.int 2147483647))) (sgName 7))
  (ssCons (ssRet (sOp (addD false) (sOp (mulD false) (sOp modD (sCall intD (saCons (sOp (mulD false) (sVar 7) (sOp (addD false) (sOp (addD false) (sVar 7) (sOp (mulD false) (sK (.int 31)) (sVar 1))) (sK (.int 7)))) saNil)) (sK (.int 2147483629))) (sK (.int 65537))) (sVar 5)))
  ssNil))))))
def fNumber : List D → Bs → R D := runFn 2 8 number
theorem mulI {i j : Int} {h : Bs} (e : i.natAbs.log2 + j.natAbs.log2 < 1000000) : mulD false (.int i) (.int j) h = .ok (.int (i * j)) h := by simp only [mulD, if_pos e]
theorem modI {i j : Int} {h : Bs} (e : 0 < j) : modD (.int i) (.int j) h = .ok (.int (i % j)) h := by simp only [modD, if_pos e]
theorem fdivI {i j : Int} {h : Bs} (e : 0 < j ∧ j.natAbs.log2 < 9000) : fdivD (.int i) (.int j) h = .ok (.int (i / j)) h := by simp only [fdivD, if_pos e]
theorem log2_lt {i : Int} {k : Nat} (h1 : -(2 ^ k) < i) (h2 : i < 2 ^ k) : i.natAbs.log2 ≤ k := by
  by_cases h : i.natAbs = 0
  · rw [h]; simp
  · have e : i.natAbs < 2 ^ k := by
      have : (i.natAbs : Int) < ((2 ^ k : Nat) : Int) := by push_cast; omega
      exact_mod_cast this
    exact Nat.le_of_lt ((Nat.log2_lt h).mpr e)
def cells (ns : List Int) : List Int := if ns = [] then [5] else ns
theorem cells_len {ns : List Int} (h : ns.length ≤ 63) : 0 < (cells ns).length ∧ (cells ns).length ≤ 63 := by
  unfold cells
  split
  · simp
  · rename_i e
    exact ⟨List.length_pos_iff.mpr e, h⟩
theorem atI_nat {α : Type} {xs : List α} {i : Int} (h1 : 0 ≤ i) (h2 : i < xs.length) : L2.atI xs i = some (xs[i.toNat]'(by omega)) := by
  unfold L2.atI L2.ixN
  rw [if_pos h1, if_pos h2]
  exact List.getElem?_eq_getElem _
theorem atI_mod {α : Type} (xs : List α) (h : 0 < xs.length) (i : Int) : ∃ x, L2.atI xs (i % (xs.length : Int)) = some x ∧ x ∈ xs := by
  have h1 : 0 ≤ i % (xs.length : Int) := Int.emod_nonneg _ (by omega)
  have h2 : i % (xs.length : Int) < xs.length := Int.emod_lt_of_pos _ (by omega)
  exact ⟨_, atI_nat h1 h2, List.getElem_mem _⟩
theorem cut_hi {xs : List D} {n : Nat} : cutD xs none (some (n : Int)) = xs.take n := by
  unfold cutD
  rw [HT.sIx_none, HT.sIx_nat]
  simp
theorem number_ok {ns : List Int} (hl : ns.length ≤ 63) {i : Int} (h0 : 0 ≤ i) (h1 : i < 2 ^ 64) (h : Bs) : ∃ z, fNumber [.scr ns, .int i] h = .ok (.int z) h := by
  have hc : ∀ h : Bs, (sIte (sOp (eqD true) (sVar 0) (sLst false saNil)) (sSl false (sVar 0) soNone (soSome (sK (.int 63)))) (sLst false (saCons (sK (.int 5)) saNil))) (slots 8 [.scr ns, .int i]) h = .ok (if ns = [] then .lst [.int 5] else .lst (ns.map .int)) h := by
    intro h
    cases ns with
    | nil => rfl
    | cons n ms =>
      have e1 : (sOp (eqD true) (sVar 0) (sLst false saNil)) (slots 8 [.scr (n :: ms), .int i]) h = .ok (.bl true) h := rfl
      simp only [sIte, sTru, e1, bind_ok, truth]
      have e2 : cutD ((n :: ms).map D.int) none (some 63) = (n :: ms).map D.int := by
        have := cut_hi (xs := (n :: ms).map D.int) (n := 63)
        rw [show ((63 : Nat) : Int) = 63 from rfl] at this
        rw [this, List.take_of_length_le (by simpa using hl)]
      show newL false (cutD ((n :: ms).map D.int) none (some 63)) h = _
      rw [e2, newL_f (by simp at hl ⊢; unfold sizeLine; omega)]
      rfl
  have hd : (if ns = [] then D.lst [.int 5] else .lst (ns.map .int)) = .lst ((cells ns).map .int) := by unfold cells; split <;> simp_all
  obtain ⟨q1, q2⟩ := cells_len hl
  obtain ⟨cs, hcs⟩ : ∃ cs, cs = cells ns := ⟨_, rfl⟩
  rw [hd, ← hcs] at hc
  rw [← hcs] at q1 q2
  obtain ⟨c, hix⟩ : ∃ c, L2.atI (cs.map D.int) (i % (cs.length : Int)) = some (.int c) := by
    obtain ⟨x, e, m⟩ := atI_mod (cs.map D.int) (by simpa using q1) i
    obtain ⟨c, _, rfl⟩ := List.mem_map.mp m
    exact ⟨c, by simpa using e⟩
  have hsl : slots 8 [.scr ns, .int i] = [some (.scr ns), some (.int i), none, none, none, none, none, none] := rfl
  have hlog : ∀ a : Int, 0 ≤ a → a < 2 ^ 100 → a.natAbs.log2 ≤ 100 := fun a h1 h2 => log2_lt (by omega) h2
  have g1 : 0 ≤ i / (cs.length : Int) ∧ i / (cs.length : Int) ≤ i := ⟨Int.ediv_nonneg h0 (by omega), Int.ediv_le_self _ h0⟩
  have hlc : ((cs.length : Int)).natAbs.log2 < 9000 := Nat.lt_of_le_of_lt (hlog _ (by omega) (by omega)) (by decide)
  obtain ⟨cell, hcell⟩ : ∃ cell, cell = c + 13 * (i / (cs.length : Int)) := ⟨_, rfl⟩
  obtain ⟨low, hlow⟩ : ∃ z, z = cell % 1000003 := ⟨_, rfl⟩
  obtain ⟨high, hhigh⟩ : ∃ z, z = cell / 1000003 % 999983 := ⟨_, rfl⟩
  obtain ⟨tot, htot⟩ : ∃ z, z = cs.sum % 65521 := ⟨_, rfl⟩
  have b1 : 0 ≤ low ∧ low < 1000003 := by subst hlow; exact ⟨Int.emod_nonneg _ (by decide), Int.emod_lt_of_pos _ (by decide)⟩
  have b2 : 0 ≤ high ∧ high < 999983 := by subst hhigh; exact ⟨Int.emod_nonneg _ (by decide), Int.emod_lt_of_pos _ (by decide)⟩
  have b3 : 0 ≤ tot ∧ tot < 65521 := by subst htot; exact ⟨Int.emod_nonneg _ (by decide), Int.emod_lt_of_pos _ (by decide)⟩
  obtain ⟨bl, hbl⟩ : ∃ z, z = ((low + 977 * i) * 48271 + 31 * high + tot) % 2147483647 := ⟨_, rfl⟩
  have b4 : 0 ≤ bl ∧ bl < 2147483647 := by subst hbl; exact ⟨Int.emod_nonneg _ (by decide), Int.emod_lt_of_pos _ (by decide)⟩
  have m1 : ∀ h, mulD false (.int 13) (.int (i / (cs.length : Int))) h = .ok (.int (13 * (i / (cs.length : Int)))) h := fun h => mulI (by have := hlog (i / cs.length) g1.1 (by omega); have := hlog 13 (by decide) (by decide); omega)
  have m2 : ∀ h, mulD false (.int 977) (.int i) h = .ok (.int (977 * i)) h := fun h => mulI (by have := hlog i h0 (by omega); have := hlog 977 (by decide) (by decide); omega)
  have m3 : ∀ h, mulD false (.int (low + 977 * i)) (.int 48271) h = .ok (.int ((low + 977 * i) * 48271)) h := fun h => mulI (by have := hlog (low + 977 * i) (by omega) (by omega); have := hlog 48271 (by decide) (by decide); omega)
  have m4 : ∀ h, mulD false (.int 31) (.int high) h = .ok (.int (31 * high)) h := fun h => mulI (by have := hlog high (by omega) (by omega); have := hlog 31 (by decide) (by decide); omega)
  have m5 : ∀ h, mulD false (.int 31) (.int i) h = .ok (.int (31 * i)) h := fun h => mulI (by have := hlog i h0 (by omega); have := hlog 31 (by decide) (by decide); omega)
  have m6 : ∀ h, mulD false (.int bl) (.int (bl + 31 * i + 7)) h = .ok (.int (bl * (bl + 31 * i + 7))) h := fun h => mulI (by have := hlog bl (by omega) (by omega); have := hlog (bl + 31 * i + 7) (by omega) (by omega); omega)
  have m7 : ∀ h, mulD false (.int (bl * (bl + 31 * i + 7) % 2147483629)) (.int 65537) h = .ok (.int (bl * (bl + 31 * i + 7) % 2147483629 * 65537)) h := fun h => mulI (by
    have e1 : 0 ≤ bl * (bl + 31 * i + 7) % 2147483629 := Int.emod_nonneg _ (by decide)
    have e2 : bl * (bl + 31 * i + 7) % 2147483629 < 2147483629 := Int.emod_lt_of_pos _ (by decide)
    have := hlog _ e1 (by omega); have := hlog 65537 (by decide) (by decide); omega)
  refine ⟨bl * (bl + 31 * i + 7) % 2147483629 * 65537 + high, ?_⟩
  refine run_rt (d := .int _) rfl ?_ rfl
  rw [hsl] at hc ⊢
  unfold number
  simp only [ssCons, ssAsg, hc, toF_ok, Fbind_nx, sgName, toF'_ok, List.set_cons_succ, List.set_cons_zero, sOp, sVar, List.getElem?_cons_succ, List.getElem?_cons_zero, bind_ok, sCall, saCons, saNil, sK, intD, lenD, seqOf, lstOf, List.length_map, modI (j := (cs.length : Int)) (by omega), ixD, hix,
    fdivI (j := (cs.length : Int)) ⟨by omega, hlc⟩, m1, addD]
  rw [← hcell]
  simp only [sTup, sOp, sVar, List.getElem?_cons_succ, List.getElem?_cons_zero, bind_ok, sCall, saCons, saNil, sK, intD, modI (j := 1000003) (by decide), fdivI (j := 1000003) (by decide), modI (j := 999983) (by decide)]
  rw [← hlow, ← hhigh, newT_f (by show 2 ≤ sizeLine; decide)]
  have hsum : intsD (cs.map .int) = some cs := intsD_map cs
  simp only [toF_ok, sgTup, List.length_cons, List.length_nil, if_true, sgCons, sgName, sgNil, bind_ok, toF'_ok, Fbind_nx, List.set_cons_succ, List.set_cons_zero, sOp, sVar, List.getElem?_cons_succ, List.getElem?_cons_zero, sCall, saCons, saNil, sK, sumD, seqOf, lstOf, hsum, intD, modI (j := 65521) (by decide), ssAsg, ssCons]
  rw [← htot]
  simp only [toF_ok, sgName, toF'_ok, Fbind_nx, bind_ok, List.set_cons_succ, List.set_cons_zero, List.getElem?_cons_succ, List.getElem?_cons_zero, m2, m3, m4, addD, intD, modI (j := 2147483647) (by decide)]
  rw [← hbl]
  simp only [ssCons, ssNil, ssAsg, toF_ok, sgName, toF'_ok, Fbind_nx, bind_ok, List.set_cons_succ, List.set_cons_zero, List.getElem?_cons_succ, List.getElem?_cons_zero, ssRet, sOp, sVar, sCall, saCons, saNil, sK, m5, m6, addD, intD, modI (j := 2147483629) (by decide), m7, Fbind_rt]
def take : SS := (ssCons (ssAsg (sOp (addD false) (sOp ixD (sVar 0) (sK (.int 1))) (sK (.int 1))) (sgSub (sVar 0) (sK (.int 1))))
  (ssCons (ssRet (sOp modD (sCall intD (saCons (sCall fNumber (saCons (sOp ixD (sVar 0) (sK (.int 0))) (saCons (sCall intD (saCons (sOp ixD (sVar 0) (sK (.int 1))) saNil)) saNil))) saNil)) (sVar 1)))
  ssNil))
def fTake : List D → Bs → R D := runFn 2 2 take
def drB (b : Nat) (ns : List Int) (c : Int) (h : Bs) : Bs := { h with bs := h.bs.set b (.lst false [.scr ns, .int c]) }
def DrAt (b : Nat) (ns : List Int) (c : Int) (h : Bs) : Prop := h.bs[b]? = some (.lst false [.scr ns, .int c])
theorem DrAt.lt {b : Nat} {ns : List Int} {c : Int} {h : Bs} (d : DrAt b ns c h) : b < h.bs.length := by
  by_cases e : b < h.bs.length
  · exact e
  · unfold DrAt at d; rw [List.getElem?_eq_none (by omega)] at d; cases d
theorem DrAt.to {b : Nat} {ns : List Int} {c c' : Int} {h : Bs} (d : DrAt b ns c h) : DrAt b ns c' (drB b ns c' h) := by
  unfold DrAt drB
  exact List.getElem?_set_self d.lt
theorem drB_drB {b : Nat} {ns : List Int} {c c' : Int} {h : Bs} : drB b ns c' (drB b ns c h) = drB b ns c' h := by
  unfold drB; simp
theorem drB_in {b : Nat} {ns : List Int} {c : Int} {h : Bs} : drB b ns c (inB h) = inB (drB b ns c h) := by unfold drB inB; simp
theorem out_dr {b : Nat} {ns : List Int} {c : Int} {h : Bs} : outB h (inB (drB b ns c h)) = drB b ns c h := by
  unfold outB inB drB
  simp
  rw [List.take_of_length_le (by simp)]
theorem take_ok {ns : List Int} (hl : ns.length ≤ 63) {b : Nat} {c m : Int} {h : Bs} (d : DrAt b ns c h) (h0 : 0 ≤ c) (h1 : c < 2 ^ 63) (hm : 0 < m) : ∃ r, 0 ≤ r ∧ r < m ∧ fTake [.ref b, .int m] h = .ok (.int r) (drB b ns (c + 1) h) := by
  obtain ⟨z, hz⟩ := number_ok hl (i := c + 1) (by omega) (by omega) (inB (drB b ns (c + 1) h))
  refine ⟨z % m, Int.emod_nonneg _ (by omega), Int.emod_lt_of_pos _ hm, ?_⟩
  have d' : (inB h).bs[b]? = some (.lst false [.scr ns, .int c]) := d
  have d2 : (inB (drB b ns (c + 1) h)).bs[b]? = some (.lst false [.scr ns, .int (c + 1)]) := d.to
  have hsl : slots 2 [.ref b, .int m] = [some (.ref b), some (.int m)] := rfl
  have e1 : setD (.ref b) (.int 1) (.int (c + 1)) (inB h) = .ok .non (inB (drB b ns (c + 1) h)) := by
    have e2 : okW (inB h) b (.int (c + 1)) = true := by simp [okW, noR]
    have e3 : ixN [D.scr ns, .int c].length 1 = some 1 := rfl
    simp only [setD, d', e3, e2, if_true]
    rw [← drB_in]
    rfl
  unfold fTake runFn
  rw [if_pos (by rfl), hsl]
  have a0 : L2.atI [D.scr ns, .int c] 1 = some (.int c) := rfl
  have a1 : L2.atI [D.scr ns, .int (c + 1)] 0 = some (.scr ns) := rfl
  have a2 : L2.atI [D.scr ns, .int (c + 1)] 1 = some (.int (c + 1)) := rfl
  unfold take
  simp only [ssCons, ssAsg, sOp, sVar, sK, List.getElem?_cons_succ, List.getElem?_cons_zero, bind_ok, ixD, seqOf, lstOf, d', a0, addD, toF_ok, sgSub, e1, toF'_ok, Fbind_nx, ssRet, sCall, saCons, saNil, d2, a1, a2, intD, hz, modI hm, Fbind_rt, finF, frzD, out_dr]
end Std
end VI
end
section
namespace VI
open PySem PySem.Spec PyProof.Rows L2
namespace Std
def orderB : SS := (ssCons (ssExpr (sBm appD (sVar 3) (saCons (sBm popD (sVar 2) (saCons (sCall fTake (saCons (sVar 0) (saCons (sCall lenD (saCons (sVar 2) saNil)) saNil))) saNil)) saNil)))
  ssNil)
def order : SS := (ssCons (ssAsg (sTup (saCons (sUn (rgL true) (sVar 1)) (saCons (sLst true saNil) saNil))) (sgTup 2 (sgCons (sgName 2) (sgCons (sgName 3) sgNil))))
  (ssCons (ssFor (siArg itRng1 (saCons (sVar 1) saNil)) (sgName 4)
  orderB)
  (ssCons (ssRet (sVar 3))
  ssNil)))
def fOrder : List D → Bs → R D := runFn 2 5 order
def stO (b : Nat) (ns : List Int) (c : Int) (h : Bs) (left done : List Int) : Bs := ⟨h.bs.length :: h.fbs, (h.bs.set b (.lst false [.scr ns, .int c])) ++ [.lst false (left.map .int), .lst false (done.map .int)]⟩
section
variable {b : Nat} {ns : List Int} {c : Int} {h : Bs} {left done : List Int}
theorem newL_t' {xs : List D} (e : xs.length ≤ sizeLine) : newL true xs h = .ok (.ref h.bs.length) ⟨h.fbs, h.bs ++ [.lst false xs]⟩ := newL_t e
theorem erase_map : ∀ (l : List Int) (i : Nat), (l.map D.int).eraseIdx i = (l.eraseIdx i).map .int
  | [], i => by simp
  | x :: xs, 0 => by simp
  | x :: xs, i + 1 => by simp only [List.map_cons, List.eraseIdx_cons_succ, erase_map xs i]
theorem stO_l : (stO b ns c h left done).bs[h.bs.length]? = some (.lst false (left.map .int)) := by
  unfold stO
  rw [List.getElem?_append_right (by simp)]
  simp
theorem stO_d : (stO b ns c h left done).bs[h.bs.length + 1]? = some (.lst false (done.map .int)) := by
  unfold stO
  rw [List.getElem?_append_right (by simp)]
  simp
theorem stO_dr (hb : b < h.bs.length) : DrAt b ns c (stO b ns c h left done) := by
  unfold DrAt stO
  rw [List.getElem?_append_left (by simpa using hb)]
  exact List.getElem?_set_self hb
theorem stO_take (hb : b < h.bs.length) {c' : Int} : drB b ns c' (stO b ns c h left done) = stO b ns c' h left done := by
  unfold drB stO
  simp only [List.set_append_left _ _ (show b < (h.bs.set b _).length by simpa using hb)]
  simp
theorem stO_putl {xs : List Int} : putL h.bs.length (xs.map .int) (stO b ns c h left done) = stO b ns c h xs done := by
  unfold putL stO
  simp
theorem stO_putd {xs : List Int} : putL (h.bs.length + 1) (xs.map .int) (stO b ns c h left done) = stO b ns c h left xs := by
  unfold putL stO
  rw [List.set_append_right _ _ (by simp)]
  simp
theorem seqIx {i : Int} {n : Nat} (h0 : 0 ≤ i) (h1 : i < n) : seqIndex? i n = some i.toNat := (ixN_seq (show ixN n i = some i.toNat by unfold ixN; rw [if_pos h0, if_pos h1])).1
theorem pop_ok {i : Int} (h0 : 0 ≤ i) (h1 : i < left.length) (h2 : left.length < 2 ^ 62) : popD (.ref h.bs.length) [.int i] (stO b ns c h left done) = .ok (.int (left[i.toNat]'(by omega))) (stO b ns c h (left.eraseIdx i.toNat) done) := by
  have e1 := stO_l (b := b) (ns := ns) (c := c) (h := h) (left := left) (done := done)
  have e2 : -(2 ^ 63) ≤ i ∧ i < 2 ^ 63 := by constructor <;> omega
  have e3 : (left.map D.int)[i.toNat]? = some (.int (left[i.toNat]'(by omega))) := by
    rw [List.getElem?_map, List.getElem?_eq_getElem (by omega)]; rfl
  simp only [popD, e1, e2, and_self, if_true, List.length_map, seqIx h0 h1, e3]
  have e4 : (left.map D.int).eraseIdx i.toNat = (left.eraseIdx i.toNat).map .int := erase_map _ _
  rw [e4, stO_putl]
theorem app_ok {x : Int} (h2 : done.length < 2 ^ 24) : appD (.ref (h.bs.length + 1)) [.int x] (stO b ns c h left done) = .ok .non (stO b ns c h left (done ++ [x])) := by
  have e1 := stO_d (b := b) (ns := ns) (c := c) (h := h) (left := left) (done := done)
  have e2 : okW (stO b ns c h left done) (h.bs.length + 1) (.int x) = true := by simp [okW, stO, noR]
  have e3 : decide ((done.map D.int).length < sizeLine) = true := by simp; unfold sizeLine; omega
  simp only [appD, e1, e2, e3, Bool.and_self, if_true]
  have e4 : done.map D.int ++ [.int x] = (done ++ [x]).map .int := by simp
  rw [e4, stO_putd]
theorem erase_perm : ∀ (l : List Int) (i : Nat) (hi : i < l.length), l.Perm (l[i] :: l.eraseIdx i)
  | x :: xs, 0, _ => .refl _
  | x :: xs, i + 1, hi => by
    simp only [List.getElem_cons_succ, List.eraseIdx_cons_succ]
    exact ((erase_perm xs i (by simpa using hi)).cons x).trans (.swap _ _ _)
theorem orderB_ok (hl : ns.length ≤ 63) (hb : b < h.bs.length) (h0 : 0 ≤ c) (h1 : c < 2 ^ 63) (hn : 0 < left.length) (h2 : left.length < 2 ^ 24) (h3 : done.length < 2 ^ 24) {m x : Option D} :
    ∃ y left', left.Perm (y :: left') ∧ orderB [some (.ref b), m, some (.ref h.bs.length), some (.ref (h.bs.length + 1)), x] (stO b ns c h left done) = .nx [some (.ref b), m, some (.ref h.bs.length), some (.ref (h.bs.length + 1)), x] (stO b ns (c + 1) h left' (done ++ [y])) := by
  obtain ⟨r, r0, r1, e⟩ := take_ok hl (m := (left.length : Int)) (stO_dr (left := left) (done := done) hb (c := c) (ns := ns)) h0 h1 (by omega)
  rw [stO_take hb] at e
  refine ⟨_, _, erase_perm left r.toNat (by omega), ?_⟩
  have l1 : (lstOf (stO b ns c h left done) (.ref (h.bs.length + 1))).isSome = true := by simp [lstOf, stO_d]
  have l2 : (lstOf (stO b ns c h left done) (.ref h.bs.length)).isSome = true := by simp [lstOf, stO_l]
  have l3 : lenD [.ref h.bs.length] (stO b ns c h left done) = .ok (.int left.length) (stO b ns c h left done) := by simp [lenD, seqOf, lstOf, stO_l]
  unfold orderB
  simp only [ssCons, ssExpr, sBm, sVar, List.getElem?_cons_succ, List.getElem?_cons_zero, bind_ok, l1, l2, if_true, saCons, saNil, sCall, l3, e, pop_ok r0 r1 (by omega), app_ok h3, toF_ok, Fbind_nx, ssNil]
theorem orderL_ok (hl : ns.length ≤ 63) (hb : b < h.bs.length) {m : Option D} : ∀ (items : List D) (c : Int) (left done : List Int) (x : Option D), items.length = left.length → 0 ≤ c → c + left.length < 2 ^ 63 → left.length + done.length < 2 ^ 24 →
    ∃ p x', p.Perm left ∧ loopS (sgName 4) orderB items [some (.ref b), m, some (.ref h.bs.length), some (.ref (h.bs.length + 1)), x] (stO b ns c h left done) = .nx [some (.ref b), m, some (.ref h.bs.length), some (.ref (h.bs.length + 1)), x'] (stO b ns (c + left.length) h [] (done ++ p))
  | [], c, left, done, x, e, h0, h1, h2 => by
    have : left = [] := List.length_eq_zero_iff.mp e.symm
    subst this
    exact ⟨[], x, .refl _, by simp [loopS]⟩
  | d :: ds, c, left, done, x, e, h0, h1, h2 => by
    simp only [List.length_cons] at e
    obtain ⟨y, left', hp, e1⟩ := orderB_ok (left := left) (done := done) (c := c) (m := m) (x := some d) hl hb h0 (by omega) (by omega) (by omega) (by omega)
    have hlen := hp.length_eq
    simp only [List.length_cons] at hlen
    obtain ⟨p, x', hp2, e2⟩ := orderL_ok hl hb (m := m) ds (c + 1) left' (done ++ [y]) (some d) (by omega) (by omega) (by omega) (by simp; omega)
    refine ⟨y :: p, x', (hp2.cons y).trans hp.symm, ?_⟩
    simp only [loopS, sgName, List.set_cons_succ, List.set_cons_zero, e1, e2]
    have e3 : c + 1 + (left'.length : Int) = c + left.length := by omega
    rw [e3]
    simp
theorem order_ok (hl : ns.length ≤ 63) (d : DrAt b ns c h) (h0 : 0 ≤ c) {n : Nat} (h1 : c + n < 2 ^ 63) (h2 : n < 2 ^ 24) : ∃ p : List Int, p.Perm ((List.range n).map fun (i : Nat) => (i : Int)) ∧ fOrder [.ref b, .int n] h = .ok (.lst (p.map .int)) (drB b ns (c + n) h) := by
  have hr : rngItems 0 n = ((List.range n).map fun (i : Nat) => (i : Int)).map .int := by unfold rngItems; rw [List.map_map]; congr 1; funext i; simp
  obtain ⟨left, hleft⟩ : ∃ l : List Int, l = (List.range n).map fun (i : Nat) => (i : Int) := ⟨_, rfl⟩
  rw [← hleft] at hr
  have hll : left.length = n := by rw [hleft]; simp
  obtain ⟨p, x', hp, e⟩ := orderL_ok hl d.lt (m := some (.int n)) (rngItems 0 n) c left [] none (by rw [hr]; simp) h0 (by omega) (by simp; omega)
  refine ⟨p, by rw [← hleft]; exact hp, ?_⟩
  have hsl : slots 5 [.ref b, .int n] = [some (.ref b), some (.int n), none, none, none] := rfl
  have hh : (⟨h.bs.length :: h.fbs, (h.bs ++ [.lst false (left.map .int)]) ++ [.lst false []]⟩ : Bs) = stO b ns c h left [] := by
    unfold stO
    have : h.bs.set b (.lst false [.scr ns, .int c]) = h.bs := by
      apply List.ext_getElem?
      intro i
      by_cases hi : b = i
      · subst hi; rw [List.getElem?_set_self d.lt]; exact d.symm
      · rw [List.getElem?_set_ne hi]
    rw [this]
    simp
  have ht : ((n : Int)).toNat = n := by omega
  have r1 : rgL true (.int n) (inB h) = .ok (.ref h.bs.length) ⟨h.bs.length :: h.fbs, h.bs ++ [.lst false (left.map .int)]⟩ := by
    have q : -(2 ^ 62) ≤ (n : Int) ∧ (n : Int) < 2 ^ 62 ∧ ((n : Int)).toNat ≤ 2 ^ 24 := by refine ⟨by omega, by omega, by omega⟩
    unfold rgL
    show (if -(2 ^ 62) ≤ (n : Int) ∧ (n : Int) < 2 ^ 62 ∧ ((n : Int)).toNat ≤ 2 ^ 24 then newL true (rngItems 0 ((n : Int)).toNat) (inB h) else .no) = _
    rw [if_pos q, ht, hr, newL_t' (by simp only [List.length_map, hll]; unfold sizeLine; omega)]
    simp only [inB_bs, inB_fbs]
  have r2 : newL true [] (⟨h.bs.length :: h.fbs, h.bs ++ [.lst false (left.map .int)]⟩ : Bs) = .ok (.ref (h.bs.length + 1)) (stO b ns c h left []) := by
    rw [newL_t' (Nat.zero_le _), ← hh]
    simp only [List.length_append, List.length_cons, List.length_nil]
  have r3 : itRng1 [.int n] (stO b ns c h left []) = .ok (rngItems 0 n, none) (stO b ns c h left []) := by
    have q : -(2 ^ 62) ≤ (n : Int) ∧ (n : Int) < 2 ^ 62 := by constructor <;> omega
    unfold itRng1
    show (if -(2 ^ 62) ≤ (n : Int) ∧ (n : Int) < 2 ^ 62 then R.ok (rngItems 0 ((n : Int)).toNat, none) (stO b ns c h left []) else .no) = _
    rw [if_pos q, ht]
  unfold fOrder runFn
  rw [if_pos (by rfl), hsl]
  unfold order
  have t1 : (sTup (saCons (sUn (rgL true) (sVar 1)) (saCons (sLst true saNil) saNil))) [some (.ref b), some (.int n), none, none, none] (inB h) = .ok (.tup [.ref h.bs.length, .ref (h.bs.length + 1)]) (stO b ns c h left []) := by
    simp -implicitDefEqProofs only [sTup, saCons, saNil, sUn, sLst, sVar, List.getElem?_cons_succ, List.getElem?_cons_zero, bind_ok, r1, r2]
    exact newT_f (by show 2 ≤ sizeLine; decide)
  have t2 : (sgTup 2 (sgCons (sgName 2) (sgCons (sgName 3) sgNil))) (.tup [.ref h.bs.length, .ref (h.bs.length + 1)]) [some (.ref b), some (.int n), none, none, none] (stO b ns c h left []) = .ok [some (.ref b), some (.int n), some (.ref h.bs.length), some (.ref (h.bs.length + 1)), none] (stO b ns c h left []) := rfl
  have t3 : (ssFor (siArg itRng1 (saCons (sVar 1) saNil)) (sgName 4) orderB) [some (.ref b), some (.int n), some (.ref h.bs.length), some (.ref (h.bs.length + 1)), none] (stO b ns c h left []) = .nx [some (.ref b), some (.int n), some (.ref h.bs.length), some (.ref (h.bs.length + 1)), x'] (stO b ns (c + ↑left.length) h [] ([] ++ p)) := by
    simp -implicitDefEqProofs only [ssFor, siArg, saCons, saNil, sVar, List.getElem?_cons_succ, List.getElem?_cons_zero, bind_ok, r3, toF_ok, lockO_none, e, unlF_nx, unlO_none]
  simp -implicitDefEqProofs only [ssCons, ssAsg, t1, t2, t3, toF_ok, toF'_ok, Fbind_nx, ssRet, sVar, List.getElem?_cons_succ, List.getElem?_cons_zero, Fbind_rt]
  have f1 : frzD (frzR h.bs.length (stO b ns (c + ↑left.length) h [] ([] ++ p)).bs 4) (.ref (h.bs.length + 1)) = some (.lst (p.map .int)) := by
    simp -implicitDefEqProofs only [frzD, frzR]
    rw [if_neg (by omega), stO_d]
    simp -implicitDefEqProofs only [List.nil_append]
    rw [frzDs_id _ _ (noDs_ints p)]
  have f2 : outB h (stO b ns (c + ↑left.length) h [] ([] ++ p)) = drB b ns (c + n) h := by
    unfold outB stO drB
    rw [hll]
    simp
  simp -implicitDefEqProofs only [finF, f1, f2]
end
end Std
end VI
end
section
namespace VI
open PySem PySem.Spec PyProof.Rows L2
abbrev tI (l : List Int) : D := .tup (l.map .int)
abbrev lI (l : List Int) : D := .lst (l.map .int)
theorem mapO_all {α β : Type} {f : α → Option β} {g : α → β} : ∀ (xs : List α), (∀ x ∈ xs, f x = some (g x)) → mapO f xs = some (xs.map g)
  | [], _ => rfl
  | x :: xs, e => by
    have e1 := e x List.mem_cons_self
    have e2 := mapO_all xs fun y hy => e y (List.mem_cons_of_mem _ hy)
    simp only [mapO, e1, e2, List.map_cons]
section
variable {h : Bs} {n : Nat}
theorem py_int {i : Int} : py (n + 1) h (.int i) = some (.int i) := rfl
theorem py_ints (l : List Int) : mapO (py (n + 1) h) (l.map .int) = some (l.map .int) := by
  have e := mapO_all (f := py (n + 1) h) (g := fun d => match d with | .int i => PyData.int i | _ => .none) (l.map D.int) (fun x hx => by
    obtain ⟨i, _, rfl⟩ := List.mem_map.mp hx
    rfl)
  rw [e, List.map_map]
  rfl
theorem py_tI (l : List Int) : py (n + 2) h (tI l) = some (.tuple (l.map .int)) := by
  show (mapO (py (n + 1) h) (l.map .int)).map PyData.tuple = _
  rw [py_ints]; rfl
theorem py_lI (l : List Int) : py (n + 2) h (lI l) = some (.list (l.map .int)) := by
  show (mapO (py (n + 1) h) (l.map .int)).map PyData.list = _
  rw [py_ints]; rfl
theorem eqv_int (a b : Int) : PyData.eqv (.int a) (.int b) = decide (a = b) := by
  simp only [PyData.eqv]
  cases e : (a == b) with
  | true => simp at e; simp [e]
  | false => simp at e; simp [e]
theorem eqvAll_ints : ∀ (l m : List Int), PyData.eqvAll (l.map .int) (m.map .int) = decide (l = m)
  | [], [] => by simp [PyData.eqvAll]
  | [], _ :: _ => by simp [PyData.eqvAll]
  | _ :: _, [] => by simp [PyData.eqvAll]
  | x :: xs, y :: ys => by
    simp only [List.map_cons, PyData.eqvAll, eqv_int, eqvAll_ints xs ys]
    by_cases h1 : x = y <;> by_cases h2 : xs = ys <;> simp [h1, h2]
theorem eq_two {d e : D} {p : PyData} {neg : Bool} (e1 : py pyN h d = some p) (e2 : py pyN h e = some p) (c : p.canLay0 = true) : eqD neg d e h = .ok (.bl (!neg)) h := by
  have q : PyData.eqv p p = true := PySem.SeqAt.eqv_refl p c
  simp only [eqD, e1, e2, q]
  cases neg <;> rfl
theorem eq_ints {a b : Int} {neg : Bool} : eqD neg (.int a) (.int b) h = .ok (.bl (if neg then !decide (a = b) else decide (a = b))) h := by
  simp only [eqD, py, eqv_int]
theorem eq_tI {l m : List Int} {neg : Bool} : eqD neg (tI l) (tI m) h = .ok (.bl (if neg then !decide (l = m) else decide (l = m))) h := by
  simp only [eqD, py_tI, PyData.eqv, eqvAll_ints]
theorem any_int (x : Int) : ∀ l : List Int, ((l.map PyData.int).any fun z => PyData.eqv z (.int x)) = decide (x ∈ l)
  | [] => by simp
  | y :: ys => by
    simp only [List.map_cons, List.any_cons, eqv_int, any_int x ys]
    by_cases h1 : y = x <;> by_cases h2 : x ∈ ys <;> simp [h1, h2, eq_comm]
    · intro e; exact absurd e.symm h1
theorem in_tI {x : Int} {l : List Int} {neg : Bool} : inD neg (.int x) (tI l) h = .ok (.bl (if neg then !decide (x ∈ l) else decide (x ∈ l))) h := by
  simp only [inD, py_int, py_tI, any_int]
theorem in_lI {x : Int} {l : List Int} {neg : Bool} : inD neg (.int x) (lI l) h = .ok (.bl (if neg then !decide (x ∈ l) else decide (x ∈ l))) h := by
  simp only [inD, py_int, py_lI, any_int]
theorem sorted_lI {l : List Int} (e : l.length ≤ sizeLine) : sortedD false [lI l] h = .ok (lI (sortI l)) h := by
  simp only [sortedD, lstOf, intsD_map]
  rw [newL_f (by rw [List.length_map, (sortI_perm l).length_eq]; exact e)]
theorem tuple_lst {xs : List D} (e : xs.length ≤ sizeLine) : tupleD [.lst xs] h = .ok (.tup xs) h := by
  simp only [tupleD, lstOf]
  exact newT_f e
theorem all_bls {bs : List Bool} : allD' [.lst (bs.map .bl)] h = .ok (.bl (bs.all id)) h := by
  simp only [anyD, lstOf, blsD_map]
theorem cut_nat {xs : List D} {k : Int} (hk : 0 ≤ k) : cutD xs none (some k) = xs.take k.toNat := by
  have := Std.cut_hi (xs := xs) (n := k.toNat)
  rw [show ((k.toNat : Nat) : Int) = k by omega] at this
  exact this
theorem cut_from {xs : List D} (n : Nat) : cutD xs (some (n : Int)) none = xs.drop n := by
  unfold cutD
  rw [HT.sIx_nat, HT.sIx_none]
  by_cases e : n ≤ xs.length
  · rw [Nat.min_eq_left e, List.take_of_length_le (by simp)]
  · rw [Nat.min_eq_right (by omega), List.drop_length, List.drop_eq_nil_of_le (by omega)]
    simp
theorem noD_tI {l : List Int} : noD (tI l) = true := by simp only [noD, noDs_ints]
theorem noD_lI {l : List Int} : noD (lI l) = true := by simp only [noD, noDs_ints]
end
theorem lc_emb {α : Type} {g : SG} {tt : SB} {el : SV} {ρ : Ev} {h : Bs} (E : α → D) (p : α → Bool) (F : α → D) : ∀ (l : List α), (∀ a ∈ l, ∃ ρ1, g (E a) ρ h = .ok ρ1 h ∧ tt ρ1 h = .ok (p a) h ∧ (p a = true → el ρ1 h = .ok (F a) h)) → lcS g tt el ρ (l.map E) h = .ok ((l.filter p).map F) h
  | [], _ => rfl
  | d :: ds, H => by
    obtain ⟨ρ1, e1, e2, e3⟩ := H d List.mem_cons_self
    have ih := lc_emb E p F ds fun x hx => H x (List.mem_cons_of_mem _ hx)
    simp -implicitDefEqProofs only [List.map_cons, lcS, e1, e2]
    cases q : p d with
    | true => simp -implicitDefEqProofs only [e3 q, ih]; simp [q]
    | false => simp -implicitDefEqProofs only [ih]; simp [q]
theorem lc_emb1 {α : Type} {g : SG} {el : SV} {ρ : Ev} {h : Bs} (E : α → D) (F : α → D) (l : List α) (H : ∀ a ∈ l, ∃ ρ1, g (E a) ρ h = .ok ρ1 h ∧ el ρ1 h = .ok (F a) h) : lcS g (fun _ h => .ok true h) el ρ (l.map E) h = .ok (l.map F) h := by
  have e := lc_emb (tt := fun _ h => .ok true h) E (fun _ => true) F l fun a ha => by
    obtain ⟨ρ1, e1, e2⟩ := H a ha
    exact ⟨ρ1, e1, rfl, fun _ => e2⟩
  rw [e, List.filter_eq_self.mpr fun _ _ => rfl]
theorem lc_ok {own : List Nat} {it : SI} {g : SG} {tt : SB} {el : SV} {ρ : Ev} {h : Bs} {xs ys : List D} (e1 : it ρ h = .ok (xs, none) h) (e2 : lcS g tt el (wipeE ρ own) xs h = .ok ys h) (hl : ys.length ≤ sizeLine) : sLc false own it g tt el ρ h = .ok (.lst ys) h := by
  simp -implicitDefEqProofs only [sLc, e1, bind_ok, lockO_none, e2, unlR_ok, unlO_none, newL_f hl]
theorem loop_step {g : SG} {body : SS} {d : D} {ds : List D} {ρ ρ1 ρ2 : Ev} {h h1 h2 : Bs} (e1 : g d ρ h = .ok ρ1 h1) (e2 : body ρ1 h1 = .nx ρ2 h2) : loopS g body (d :: ds) ρ h = loopS g body ds ρ2 h2 := by
  simp -implicitDefEqProofs only [loopS, e1, e2]
theorem cons_nx {s t : SS} {ρ ρ1 : Ev} {h h1 : Bs} (e : s ρ h = .nx ρ1 h1) : ssCons s t ρ h = t ρ1 h1 := by
  simp -implicitDefEqProofs only [ssCons, e, Fbind_nx]
theorem asg_ok {s : SV} {g : SG} {ρ ρ1 : Ev} {h h1 h2 : Bs} {d : D} (e : s ρ h = .ok d h1) (e2 : g d ρ h1 = .ok ρ1 h2) : ssAsg s g ρ h = .nx ρ1 h2 := by
  simp -implicitDefEqProofs only [ssAsg, e, toF_ok, e2, toF'_ok]
theorem expr_ok {s : SV} {ρ : Ev} {h h1 : Bs} {d : D} (e : s ρ h = .ok d h1) : ssExpr s ρ h = .nx ρ h1 := by
  simp -implicitDefEqProofs only [ssExpr, e, toF_ok]
theorem if_f {s : SV} {t u : SS} {ρ : Ev} {h h1 : Bs} (e : s ρ h = .ok (.bl false) h1) : ssIf s t u ρ h = u ρ h1 := by
  simp -implicitDefEqProofs only [ssIf, sTru, e, bind_ok, truth, toF_ok, Bool.false_eq_true, if_false]
theorem if_t {s : SV} {t u : SS} {ρ : Ev} {h h1 : Bs} (e : s ρ h = .ok (.bl true) h1) : ssIf s t u ρ h = t ρ h1 := by
  simp -implicitDefEqProofs only [ssIf, sTru, e, bind_ok, truth, toF_ok, if_true]
theorem op_ok {f : D → D → Bs → R D} {sa sb : SV} {ρ : Ev} {h h1 h2 : Bs} {x y : D} {r : R D} (e1 : sa ρ h = .ok x h1) (e2 : sb ρ h1 = .ok y h2) (e3 : f x y h2 = r) : sOp f sa sb ρ h = r := by
  simp -implicitDefEqProofs only [sOp, e1, e2, bind_ok, e3]
theorem un_ok {f : D → Bs → R D} {sa : SV} {ρ : Ev} {h h1 : Bs} {x : D} {r : R D} (e1 : sa ρ h = .ok x h1) (e3 : f x h1 = r) : sUn f sa ρ h = r := by
  simp -implicitDefEqProofs only [sUn, e1, bind_ok, e3]
theorem call_ok {f : List D → Bs → R D} {sa : SA} {ρ : Ev} {h h1 : Bs} {xs : List D} {r : R D} (e1 : sa ρ h = .ok xs h1) (e3 : f xs h1 = r) : sCall f sa ρ h = r := by
  simp -implicitDefEqProofs only [sCall, e1, bind_ok, e3]
theorem cons_ok {sa : SV} {sr : SA} {ρ : Ev} {h h1 h2 : Bs} {x : D} {xs : List D} (e1 : sa ρ h = .ok x h1) (e2 : sr ρ h1 = .ok xs h2) : saCons sa sr ρ h = .ok (x :: xs) h2 := by
  simp -implicitDefEqProofs only [saCons, e1, e2, bind_ok]
theorem var_ok {ρ : Ev} {h : Bs} {i : Nat} {d : D} (e : ρ[i]? = some (some d)) : sVar i ρ h = .ok d h := by
  simp -implicitDefEqProofs only [sVar, e]
theorem tup_ok {sa : SA} {ρ : Ev} {h h1 : Bs} {xs : List D} (e1 : sa ρ h = .ok xs h1) (hl : xs.length ≤ sizeLine) : sTup sa ρ h = .ok (.tup xs) h1 := by
  simp -implicitDefEqProofs only [sTup, e1, bind_ok, newT_f hl]
theorem bm_ok {f : D → List D → Bs → R D} {so : SV} {sa : SA} {ρ : Ev} {h h1 h2 : Bs} {o : D} {xs : List D} {r : R D} (e1 : so ρ h = .ok o h1) (e2 : (lstOf h1 o).isSome = true) (e3 : sa ρ h1 = .ok xs h2) (e4 : f o xs h2 = r) : sBm f so sa ρ h = r := by
  simp -implicitDefEqProofs only [sBm, e1, bind_ok, e2, if_true, e3, e4]
theorem ret_ok {s : SV} {t : SS} {ρ : Ev} {h h1 : Bs} {d : D} (e : s ρ h = .ok d h1) : ssCons (ssRet s) t ρ h = .rt d h1 := by
  simp -implicitDefEqProofs only [ssCons, ssRet, e, toF_ok, Fbind_rt]
theorem for_ok {it : SI} {g : SG} {b : SS} {ρ ρ1 : Ev} {h h1 h2 : Bs} {xs : List D} (e1 : it ρ h = .ok (xs, none) h1) (e2 : loopS g b xs ρ h1 = .nx ρ1 h2) : ssFor it g b ρ h = .nx ρ1 h2 := by
  simp -implicitDefEqProofs only [ssFor, e1, toF_ok, lockO_none, e2, unlF_nx, unlO_none]
theorem seq_ok {s : SV} {ρ : Ev} {h h1 : Bs} {d : D} {r : R Iu} (e : s ρ h = .ok d h1) (e2 : itSeq d h1 = r) : siSeq s ρ h = r := by
  simp -implicitDefEqProofs only [siSeq, e, bind_ok, e2]
theorem arg_ok {f : List D → Bs → R Iu} {sa : SA} {ρ : Ev} {h h1 : Bs} {xs : List D} {r : R Iu} (e : sa ρ h = .ok xs h1) (e2 : f xs h1 = r) : siArg f sa ρ h = r := by
  simp -implicitDefEqProofs only [siArg, e, bind_ok, e2]
theorem two_le {a b : D} : [a, b].length ≤ sizeLine := by show 2 ≤ sizeLine; decide
structure SetN (n : Nat) (l : List Int) : Prop where
  up : l.Pairwise (· < ·)
  lo : ∀ x ∈ l, 0 ≤ x ∧ x < n
theorem sorted_lt {l : List Int} (h1 : l.Pairwise (· ≤ ·)) (h2 : l.Nodup) : l.Pairwise (· < ·) := by
  induction l with
  | nil => exact .nil
  | cons x xs ih =>
    rw [List.pairwise_cons] at h1 ⊢
    rw [List.nodup_cons] at h2
    exact ⟨fun y hy => by have := h1.1 y hy; have : x ≠ y := fun e => h2.1 (e ▸ hy); omega, ih h1.2 h2.2⟩
def OrdN (n : Nat) (p : List Int) : Prop := p.Perm ((List.range n).map fun (i : Nat) => (i : Int))
theorem OrdN.len {n : Nat} {p : List Int} (h : OrdN n p) : p.length = n := by have := h.length_eq; simpa using this
theorem rng_nodup (n : Nat) : ((List.range n).map fun (i : Nat) => (i : Int)).Nodup := by
  rw [List.nodup_iff_pairwise_ne, List.pairwise_map]
  exact List.nodup_iff_pairwise_ne.mp List.nodup_range |>.imp fun {a b} e q => e (by omega)
theorem OrdN.nodup {n : Nat} {p : List Int} (h : OrdN n p) : p.Nodup := h.symm.nodup (rng_nodup n)
theorem OrdN.mem {n : Nat} {p : List Int} (h : OrdN n p) {x : Int} : x ∈ p ↔ 0 ≤ x ∧ x < n := by
  rw [h.mem_iff, List.mem_map]
  constructor
  · rintro ⟨a, ha, rfl⟩
    have := List.mem_range.mp ha
    omega
  · intro e
    exact ⟨x.toNat, List.mem_range.mpr (by omega), by omega⟩
namespace Std
section
variable {b : Nat} {ns : List Int} {c : Int} {h : Bs}
def set : SS := (ssCons (ssAsg (sSl false (sCall fOrder (saCons (sVar 0) (saCons (sVar 1) saNil))) soNone (soSome (sOp (addD false) (sVar 2) (sCall fTake (saCons (sVar 0) (saCons (sOp (addD false) (sOp subD (sVar 1) (sVar 2)) (sK (.int 1))) saNil)))))) (sgName 3))
  (ssCons (ssRet (sCall tupleD (saCons (sCall (sortedD false) (saCons (sVar 3) saNil)) saNil)))
  ssNil))
def fSet : List D → Bs → R D := runFn 3 4 set
theorem run_dr {np nn : Nat} {s : SS} {ds : List D} {d : D} {c' : Int} (hl : ds.length = np) (hs : s (slots nn ds) (inB h) = .rt d (inB (drB b ns c' h))) (hd : noD d = true) : runFn np nn s ds h = .ok d (drB b ns c' h) := by
  unfold runFn
  rw [if_pos hl, hs]
  simp only [finF, frzD_id _ d hd, out_dr]
theorem dr_inB (d : DrAt b ns c h) : DrAt b ns c (inB h) := d
theorem set_ok (hl : ns.length ≤ 63) (d : DrAt b ns c h) (h0 : 0 ≤ c) {n m : Nat} (hm : m ≤ n) (h1 : c + n + 1 < 2 ^ 63) (h2 : n < 2 ^ 24) : ∃ l : List Int, SetN n l ∧ m ≤ l.length ∧ fSet [.ref b, .int n, .int m] h = .ok (tI l) (drB b ns (c + n + 1) h) := by
  obtain ⟨p, hp, e1⟩ := order_ok hl (dr_inB d) h0 (n := n) (by omega) h2
  have hp' : OrdN n p := hp
  obtain ⟨r, r0, r1, e2⟩ := take_ok hl (m := (n : Int) - m + 1) ((dr_inB d).to (c' := c + n)) (by omega) (by omega) (by omega)
  rw [drB_drB] at e2
  rw [drB_in] at e1 e2
  rw [drB_in] at e2
  have hk : 0 ≤ (m : Int) + r := by omega
  have hlen : (p.take ((m : Int) + r).toNat).length ≤ sizeLine := by have := hp'.len; rw [List.length_take]; unfold sizeLine; omega
  have hpm := sortI_perm (p.take ((m : Int) + r).toNat)
  refine ⟨sortI (p.take ((m : Int) + r).toNat), ⟨sorted_lt (sortI_sorted _) (hpm.symm.nodup (hp'.nodup.sublist (List.take_sublist _ _))), fun x hx => hp'.mem.mp (List.mem_of_mem_take (hpm.mem_iff.mp hx))⟩, ?_, ?_⟩
  · rw [hpm.length_eq, List.length_take, hp'.len]; omega
  · refine run_dr rfl ?_ noD_tI
    have hsl : slots 4 [.ref b, .int n, .int m] = [some (.ref b), some (.int n), some (.int m), none] := rfl
    rw [hsl]
    have e3 : ∀ h, slD false (lI p) none (some ((m : Int) + r)) h = .ok (lI (p.take ((m : Int) + r).toNat)) h := fun h => by
      simp only [slD, lstOf, cut_nat hk, ← List.map_take]
      exact newL_f (by rw [List.length_map]; exact hlen)
    unfold set
    simp -implicitDefEqProofs only [ssCons, ssAsg, sSl, sCall, saCons, saNil, sVar, List.getElem?_cons_succ, List.getElem?_cons_zero, bind_ok, e1, soNone, soSome, sOp, subD, sK, addD, e2, e3, toF_ok, sgName, List.set_cons_succ, List.set_cons_zero, toF'_ok, Fbind_nx, ssRet, sorted_lI hlen,
      tuple_lst (show ((sortI (p.take ((m : Int) + r).toNat)).map D.int).length ≤ sizeLine by rw [List.length_map, hpm.length_eq]; exact hlen), Fbind_rt]
end
end Std
end VI
end
section
namespace VI
open PySem PySem.Spec PyProof.Rows L2
section
variable {Z : Cfg} {t : Tx} {k : Nat} {N : List Str} {sc : Scope} {raw : Option Scope} {X : Cx} {W : WX} {pos p : Pos} {a b e : Expr} {sa sb s : SV} {x : Str}
structure IF (op : Operator) (f : D → D → Bs → R D) : Prop where
  cf : ∀ d e h, Calm (f d e h)
  run : ∀ {X : Cx} {T : Tb}, OpR X (inplaceOp op) (rD2 T f)
def mulC (i j : Int) : Bool := decide ((-(2 ^ 64) < i ∧ i < 2 ^ 64) ∨ (-(2 ^ 64) < j ∧ j < 2 ^ 64))
abbrev imulD := intD2 mulC (· * ·)
theorem I_mul : IF .Mult imulD := ⟨fun _ _ _ => intD2_calm, ov_int2 (P := CMul) (fun i j e => by unfold mulC at e; unfold CMul; simpa using e) iop_mul⟩
theorem s_aug {i : Nat} {op : Operator} {f : D → D → Bs → R D} {pos' : Pos} (I : IF op f) (h : XO Z t k N sc raw X W) (g : locC N sc raw i x = true) (he : PE X e (tV Z.T W s)) : PS X (.AugAssign (.Name x pos') op e pos) (tS' Z.T W (ssAug i f s)) := by
  obtain ⟨g1, g2, g3⟩ := h.loc g
  exact psv_aug I.cf I.run h.nd' g1 g2 g3 he
end
end VI
end
section
namespace VI
open PySem PySem.Spec PyProof.Rows L2
section
variable {X : Cx} {T : Tb} {W : WX} {μ μ' : Mu} {H H' : Hp} {h : Bs} {σ : Sg} {ρ : Ev}
variable {name : Str} {id idT : String} {f g : D → List D → Bs → R D} {ob e : Expr} {es : List Expr} {apos cpos : Pos} {so : SV} {sa : SA}
end
end VI
end
section
namespace VI
open PySem PySem.Spec PyProof.Rows L2
set_option maxHeartbeats 1000000 in
theorem new_enumB {v : Value} {o : Obj} {G : Heap → Prop} (B : Begins v o G) :
    Meets (Builtin.«enumerate.__new__» ⟨[.type "enumerate", v], []⟩) (fun _ R s => G s.heap ∧
      R (.ok (.ret (.ref (s.heap.push o).objs.size))) { s with heap := (s.heap.push o).push { cls := .type "enumerate", data := .fields #[.none, .bool false, .ref s.heap.objs.size, rawInt 0, .none, .none] } }) :=
  .of_wp fun prog w A R s h => by
    obtain ⟨hp, g, d, tk, os⟩ := s
    obtain ⟨g1, h⟩ := h
    have sub := sub_enumerate
    have it : ∀ {A' : Around} {E : Value → Shared → Prop} {Q : Value → Shared → Prop}, Q (.ref hp.objs.size) ⟨hp.push o, g, d, tk, os⟩ → wpAny (model prog w) A' (pyIter v) Q E ⟨hp, g, d, tk, os⟩ :=
      fun q => B.iter prog w _ _ ⟨hp, g, d, tk, os⟩ _ g1 q
    wp_walk using it
    refine wpAny_stack_any fun _ => wpAny_pure ?_
    split
    · rename_i c _ _ _ _ _
      cases (c == Value.type "enumerate") <;> (wp_walk using it; exact ⟨_, rfl, h⟩)
    · wp_walk using it
      exact ⟨_, rfl, h⟩
theorem call_enumB {prog : Program} {w : World} {A : Around} {E : Value → Shared → Prop} {s : Shared} {v : Value} {o : Obj} {G : Heap → Prop} {Q : Value → Shared → Prop} (B : Begins v o G) (g : G s.heap)
    (h : ∀ h', IsEnum h' (s.heap.objs.size + 1) s.heap.objs.size 0 .none → h'.get? s.heap.objs.size = some o → (∀ b u, s.heap.get? b = some u → h'.get? b = some u) → Q (.ref (s.heap.objs.size + 1)) { s with heap := h' }) :
    wpAny (model prog w) A (call (.type "enumerate") [v]) Q E s := by
  refine callType_new F.called_enumerate (by decide) (F.typeCall_enumerate_1 _) (F.newCall_enumerate_1 _) (fun ob => F.args_object_init_2 ob _) F.entry_enumerate_new (new_enumB B) ⟨g, ?_⟩
  have hz : (s.heap.push o).objs.size = s.heap.objs.size + 1 := Heap.size_push ..
  show _ ∧ _
  rw [hz]
  have he : IsEnum ((s.heap.push o).push { cls := .type "enumerate", data := .fields #[.none, .bool false, .ref s.heap.objs.size, rawInt 0, .none, .none] }) (s.heap.objs.size + 1) s.heap.objs.size 0 .none := by
    have z := Heap.get?_push_size (s.heap.push o) (o := { cls := .type "enumerate", data := .fields #[.none, .bool false, .ref s.heap.objs.size, rawInt 0, .none, .none] }) rfl
    rw [hz] at z
    exact z
  exact ⟨⟨_, he, rfl⟩, h _ he (Heap.get?_push_of_some _ (Heap.get?_push_size _ B.free)) fun b u z => Heap.get?_push_of_some _ (Heap.get?_push_of_some _ z)⟩
theorem enumT_end {prog : Program} {w : World} {A : Around} {E : Value → Shared → Prop} {s : Shared} {e it t : Addr} {i : Nat} {its : Array Value} {old : Value} {Q : Option Value → Shared → Prop} (hh : A.handled = none) (he : IsEnum s.heap e it i old) (hit : s.heap.IsTupleIter it t i) (ht : s.heap.IsTuple t its) (hx : its[i]? = none)
    (q : ∀ h', Heap.ExtBut it s.heap h' → Q none { s with heap := h' }) : wpAny (model prog w) A (pyNext (.ref e)) Q E s := by
  have ty : s.TypeIs (.ref e) "enumerate" := ⟨_, he, rfl⟩
  unfold pyNext
  refine wpAny_bind (wpAny_attempt (wpAny_callSpecial?_slot (name := Str.ofString "__next__") ty F.slot_enumerate_next (wpAny_call_entry F.slot_enumerate_next ty F.entry_enumerate_next (wpAny_bind (m := field (.ref e) 2) (wpAny_field he rfl (x := .ref it) rfl (wpAny_bind (wpAny_nextOf_tuple_end hh hit ht hx fun h' x ex ⟨o, ho, hc⟩ => ?_)))) (F.args_enumerate_next_1 _))))
  exact wpAny_bind (wpAny_isInstance (T := "StopIteration") (b := true) ⟨o, ho, hc⟩ isSubtype_stop (wpAny_pure (q _ ex)))
def ItE (K : PySem.W.Frag) (a : Addr) : It :=
  ⟨fun i H => ∃ (xs : List V) (x : V), SqT K H a xs ∧ xs[i]? = some x, fun i H v H' => ∃ t x, v = .ref t ∧ H t = none ∧ H' = upd H t (.tup [.int (i : Nat), x]) ∧ ∀ xs, SqT K H a xs → xs[i]? = some x, fun i H => ∃ xs : List V, SqT K H a xs ∧ xs.length ≤ i⟩
theorem turn_enumT {P : Program} {w : World} {K : PySem.W.Frag} {elts : List Expr} {kk : Nat} {tpos : Pos} (a e it : Addr) :
    Turn P w K (.Tuple elts kk tpos) (ItE K a) [e, it] e (fun i h => (∃ old, IsEnum h e it ((i : Nat) : Int) old) ∧ h.IsTupleIter it a i ∧ e ≠ it ∧ a ≠ it ∧ a ≠ e) where
  mem := List.mem_cons_self
  obj := fun i h ⟨⟨old, he⟩, ⟨o, ho, hc, hd⟩, _⟩ b hb => by
    rcases List.mem_cons.mp hb with z | z
    · rw [z]; exact ⟨_, he, fun v q => nomatch q⟩
    · rw [List.mem_singleton.mp z]; exact ⟨o, ho, fun v q => by rw [hd] at q; cases q⟩
  keep := fun i h h' ⟨⟨old, he⟩, hi, hne⟩ k => ⟨⟨old, k e (by simp) _ he⟩, hi.at fun o q => k it (by simp) o q, hne⟩
  item := by
    intro X hP hw hK hc i pins s σ H E I hf ⟨⟨old, he⟩, hit, hne, ha1, ha2⟩ ⟨xs, x, hq, hx⟩
    subst hP hw hK
    obtain ⟨us, rv, p, hz⟩ := I.tuple hq
    obtain ⟨u, hu, ru⟩ := rv.get hx
    have hel : e < s.heap.objs.size := Heap.lt_size he
    have hil : it < s.heap.objs.size := by obtain ⟨_, q, _⟩ := hit; exact Heap.lt_size q
    have hi : i < us.toArray.size := by
      have := (List.getElem?_eq_some_iff.mp hu).1
      simpa using this
    have Dr := Draws.tuple (prog := X.prog) (w := X.w) (A := X.A.in1) (I.ok.hd hc) it a ha1 us.toArray
    refine wpAny_pyNext_enum_itemD Dr he ⟨hit, p⟩ hi hne (by simp [hne, Ne.symm ha2]) fun y h' tk hy ho hst hT hsz hk => ?_
    have ey : y = u := by
      rw [show us.toArray[i]? = us[i]? by simp, hu] at hy
      exact (Option.some.inj hy).symm
    subst ey
    refine ⟨_, rfl, wpAny_letOwnedTupleGo_enum (s := { s with heap := h', toks := tk + 1 }) ho fun h'' he' sb => ?_⟩
    have hT2 : h''.get? s.heap.objs.size = some { cls := .type "tuple", data := .seq #[.int i tk, y] } := (sb.2 _ (Nat.ne_of_gt hel)).trans hT
    have nw : ObjOk X.prog X.w (upd H s.heap.objs.size (.tup [.int (i : Nat), x])) h'' s.heap.objs.size (.tup [.int (i : Nat), x]) :=
      ⟨by show 2 ≤ sizeLine; decide, [.int i tk, y], .cons ⟨_, rfl⟩ (.cons ru .nil), ⟨_, hT2, rfl, _, rfl⟩⟩
    have I1 : Inv X pins σ (upd H s.heap.objs.size (.tup [.int (i : Nat), x])) { s with heap := h'', toks := tk + 1 } :=
      I.turnedNew (ch := [e, it]) (fun b o2 hb q => (sb.2 b (fun z => hb (by simp [z]))).trans (hk b o2 (fun z => hb (by simp [z])) (fun z => hb (by simp [z])) q)) hf (Nat.le_refl _) nw
    refine ⟨.ref s.heap.objs.size, _, I1, rfl, ⟨_, x, rfl, I.hok.fresh (Nat.le_refl _), rfl, fun ys hy => by rw [I.tuple_inj hy hq]; exact hx⟩, ⟨⟨y, ?_⟩, hst.1.at fun o q => (sb.2 it (Ne.symm hne)).trans q, hne, ha1, ha2⟩, fun b hb => ?_⟩
    · rw [show ((i + 1 : Nat) : Int) = (i : Int) + 1 by omega]; exact he'
    · have hb' : b < s.heap.objs.size := by
        rcases List.mem_cons.mp hb with z | z
        · rw [z]; exact hel
        · rw [List.mem_singleton.mp z]; exact hil
      rw [upd_ne (Nat.ne_of_lt hb')]
      exact (hf b hb).1
  done := by
    intro X hP hw hK hc i pins s σ H E I hf ⟨⟨old, he⟩, hit, hne, ha1, ha2⟩ ⟨xs, hq, hx⟩
    subst hP hw hK
    obtain ⟨us, rv, p, hz⟩ := I.tuple hq
    obtain ⟨f0, f1, f2, f3, f4, f5⟩ := hf it (by simp)
    have hl := rv.length
    exact enumT_end (I.ok.hd hc) he hit p (by simp; omega) fun h' eb => ⟨rfl, I.turned (t' := s.toks) (fun b o hb q => eb b o hb q) f0 f1 f3 f4 f5⟩
  self := fun A i s Q E ⟨⟨_, he⟩, _⟩ h => wpAny_pyIter_enum he h
def iEnumT (K : PySem.W.Frag) (ta : TA) : TI := fun σ H R => ta σ H fun vs H1 => ∃ a xs, vs = [.ref a] ∧ SqT K H1 a xs ∧ R (ItE K a) H1
theorem pi_enumT {X : Cx} {e : Expr} {ta : TA} {p pos tpos : Pos} {elts : List Expr} {kk : Nat} (hg : Gl X "enumerate") (hm : X.mg "enumerate" = none) (ha : PA X [e] ta) (hs : starEach [e] X.env = [(false, eval e X.env)]) :
    PI X (.Tuple elts kk tpos) (.Call (.Name "enumerate" p) [e] [] pos) (iEnumT X.K ta) := by
  refine ⟨fun pins s σ H R I h => Call_ (ld_blt I hg hm boot_enumerate (PyProof.Rows.callWith_type1 (thn (ha.run pos pins s σ H _ I h) fun us s1 ⟨vs, H1, I1, r1, a, xs, ex, hq, q⟩ => ?_) hs rfl))⟩
  subst ex
  cases r1 with
  | cons r rr =>
    cases rr
    cases r
    obtain ⟨ws, rv, pt, hz⟩ := I1.tuple hq
    have hal : a < s1.heap.objs.size := by obtain ⟨_, z, _⟩ := pt; exact Heap.lt_size z
    refine call_enumB (begins_tuple a ws.toArray) pt fun h' he hit hk => wpAny_pyIter_enum he ?_
    have I2 : Inv X pins σ H1 { s1 with heap := h' } := I1.kept (t' := s1.toks) hk
    refine ⟨s1.heap.objs.size + 1, [s1.heap.objs.size + 1, s1.heap.objs.size], _, _, H1, rfl, I2, turn_enumT a (s1.heap.objs.size + 1) s1.heap.objs.size, ⟨⟨.none, he⟩, ⟨_, hit, rfl, rfl⟩, Nat.succ_ne_self _, Nat.ne_of_lt hal, Nat.ne_of_lt (Nat.lt_succ_of_lt hal)⟩, fun b hb => ?_, q⟩
    have hle : s1.heap.objs.size ≤ b := by
      rcases List.mem_cons.mp hb with z | z
      · rw [z]; exact Nat.le_succ _
      · rw [List.mem_singleton.mp z]; exact Nat.le_refl _
    exact I1.fpOk hle (I1.hok.fresh hle)
theorem walk_enumT {K : PySem.W.Frag} {a : Addr} {xs : List V} : Walk (ItE K a) xs.length (fun H => SqT K H a xs) (YPair (fun i => some (.int (i : Nat))) (fun i => xs[i]?)) :=
  ⟨fun i _ hi q => ⟨xs, xs[i], q, by simp [hi]⟩, fun _ q => ⟨xs, q, Nat.le_refl _⟩, fun i H v H' _ q ⟨t, x, e1, e2, e3, e4⟩ => ⟨t, .int (i : Nat), x, e1, e2, e3, rfl, e4 xs q⟩⟩
def itEnum2 (ds : List D) (h : Bs) : R Iu := match ds with
  | [d] => (match itSeq d h with
    | .ok u h' => .ok (enumL 0 u.1, u.2) h'
    | _ => .no)
  | _ => .no
section
variable {X : Cx} {T : Tb} {W : WX}
theorem piv_enum2 {e : Expr} {p pos tpos : Pos} {elts : List Expr} {kk : Nat} {sa : SA} (hK : X.K = T.K) (hg : Gl X "enumerate") (hm : X.mg "enumerate" = none) (hs : PySem.W.isStarred e = false) (ha : PA X [e] (tA' T W sa)) :
    PI X (.Tuple elts kk tpos) (.Call (.Name "enumerate" p) [e] [] pos) (tI' T W (siArg itEnum2 sa)) := by
  refine ⟨fun pins s σ H R I ⟨μ, ρ, h, r, e, o⟩ => ?_⟩
  have L := pi_enum (p := p) (pos := pos) (tpos := tpos) (elts := elts) (kk := kk) hg hm ha (by rw [star_no hs]; rfl)
  have R' := pi_enumT (p := p) (pos := pos) (tpos := tpos) (elts := elts) (kk := kk) hg hm ha (by rw [star_no hs]; rfl)
  unfold siArg at o
  cases q : sa ρ h with
  | no => rw [q] at o; exact o.elim
  | ex x h1 => exact L.run pins s σ H R I ⟨μ, ρ, h, r, e, by rw [q] at o ⊢; exact o⟩
  | ok ds h1 =>
    rw [q] at o
    by_cases ht : ∃ d, ds = [d] ∧ isTupD d = true
    · obtain ⟨d, rfl, ht⟩ := ht
      refine R'.run pins s σ H R I ⟨μ, ρ, h, r, e, ?_⟩
      rw [q]
      intro μ1 H1 vs s1 r1 rv
      have o1 := OutI.step o s1
      obtain ⟨w, rfl, rw'⟩ := rv.is1
      simp only [VI.R.bind, itEnum2] at o1
      split at o1
      · rename_i u h' q2
        obtain ⟨xs, l⟩ := u
        obtain ⟨rfl, nl, a, vs, e1, e4, e5⟩ := seq_stays r1 rw' q2
        rcases e5 with ⟨z, _⟩ | ⟨_, e5, e6⟩
        · rw [z] at ht; cases ht
        · subst e1
          refine ⟨a, vs, rfl, by rw [hK]; exact e5, ?_⟩
          rw [hK]
          refine o1 μ1 H1 _ Stp.refl r1 nl (wk_pair (walk_enumT (K := T.K) (a := a) (xs := vs)) (by rw [enumL_length, e4.length]) e6 fun i v w hi z1 z2 => ?_)
          cases z1
          have hx : xs[i]? = some (xs[i]'(by rw [e4.length]; exact hi)) := List.getElem?_eq_getElem _
          obtain ⟨w', f1, f2⟩ := e4.get hx
          rw [z2] at f1; cases f1
          exact ⟨_, _, by rw [enumL_get 0 xs i _ hx], rep_int (by simp), Rep.ad lockMu_ad lockMu_pr _ _ f2⟩
      · exact o1.elim
    · have E := (piv_enum (T := T) (W := W) (p := p) (pos := pos) (tpos := tpos) (elts := elts) (kk := kk) hK hg hm hs ha).run pins s σ H R I ⟨μ, ρ, h, r, e, ?_⟩
      · exact E
      · unfold siArg
        rw [q]
        simp only [VI.R.bind] at o ⊢
        have ee : itEnum ds h1 = itEnum2 ds h1 ∨ itEnum2 ds h1 = .no := by
          match ds, ht with
          | [], _ => exact .inr rfl
          | [d], ht => exact .inl (by unfold itEnum itEnum2; exact if_neg (fun z => ht ⟨d, rfl, z⟩))
          | _ :: _ :: _, _ => exact .inr rfl
        rcases ee with ee | ee
        · rw [ee]; exact o
        · rw [ee] at o; exact o.elim
end
section
variable {Z : Cfg} {t : Tx} {k : Nat} {N : List Str} {sc : Scope} {raw : Option Scope} {X : Cx} {W : WX} {pos p : Pos} {a : Expr} {sa : SA} {so : SV}
theorem i_enum2 {e : Expr} {tpos : Pos} {elts : List Expr} {kk : Nat} (h : XO Z t k N sc raw X W) (g : (glC sc "enumerate" && t.fr.contains "enumerate" && noStars [e]) = true) (ha : PA X [e] (tA' Z.T W sa)) :
    PI X (.Tuple elts kk tpos) (.Call (.Name "enumerate" p) [e] [] pos) (tI' Z.T W (siArg itEnum2 sa)) := by
  simp only [Bool.and_eq_true, noStars, List.all_cons, List.all_nil, Bool.not_eq_true', Bool.and_true] at g
  exact piv_enum2 h.K (h.gl g.1.1).1 (h.fr g.1.2) g.2 ha
end
end VI
end
section
namespace VI
open PySem PySem.Spec PyProof.Rows L2
def clsBody : Stmt → List Stmt
  | .ClassDef _ _ _ b _ _ _ _ _ _ _ => b
  | _ => []
def MtG (Z : Cfg) (c : Nat) (m : Str) (k : Nat) (cf : List D → Bs → R D) : Prop := ∃ C f fd ps, Z.T.cls c = some C ∧ Cls Z.T.K C ∧ Meth Z.T.K C m f ∧ FnOk Z.P Z.w Z.T.K Z.mg Z.base (CX Z.P Z.w) k f fd ps (spF Z.T cf) ∧ Binds Z.T.K fd ps [] ∧ PySem.W.fnIn Z.T.K f = true
def MkG (Z : Cfg) (x : Str) (c : Nat) (k : Nat) (cf : List D → Bs → R D) : Prop := ∃ C f fd ps, Z.T.cls c = some C ∧ Mk Z.T.K C f ∧ FnOk Z.P Z.w Z.T.K Z.mg Z.base (CX Z.P Z.w) k f fd ps (spF Z.T cf) ∧ Binds Z.T.K fd ps [] ∧ Z.mg x = some (.ref C)
def MtL (Z : Cfg) (m : Str) (k : Nat) (l : List (Nat × (List D → Bs → R D))) : Prop := ∀ c cf, l.lookup c = some cf → MtG Z c m k cf
theorem MtL.nil {Z : Cfg} {m : Str} {k : Nat} : MtL Z m k [] := fun _ _ e => by cases e
theorem MtL.cons {Z : Cfg} {m : Str} {k j c : Nat} {cf : List D → Bs → R D} {l : List (Nat × (List D → Bs → R D))} (h : MtG Z c m j cf) (hj : Nat.ble j k = true) (r : MtL Z m k l) : MtL Z m k ((c, cf) :: l) := fun c' cf' e => by
  rw [List.lookup_cons] at e
  split at e
  · rename_i q
    cases e
    obtain rfl : c' = c := LawfulBEq.eq_of_beq q
    obtain ⟨C, f, fd, ps, h1, h2, h3, h4, h5, h6⟩ := h
    exact ⟨C, f, fd, ps, h1, h2, h3, h4.mono (Nat.le_of_ble_eq_true hj), h5, h6⟩
  · exact r c' cf' e
section
variable {Z : Cfg} {t : Tx} {k : Nat} {N : List Str} {sc : Scope} {raw : Option Scope} {X : Cx} {W : WX} {pos p : Pos} {a b c : Expr} {sa sb s3 : SV} {x : Str}
theorem v_fld {i : Nat} (h : XO Z t k N sc raw X W) (e : t.att[i]? = some x) (hb : noSuper a = true) (ha : PE X a (tV Z.T W sa)) : PE X (.Attribute a x pos) (tV Z.T W (sUn (fldD Z.T i) sa)) := by
  obtain ⟨e1, _⟩ := h.z.att i x e
  rw [← e1]
  exact pv_fld h.z.ok h.K hb ha
theorem s_fld {i : Nat} {pos' : Pos} (h : XO Z t k N sc raw X W) (e : t.att[i]? = some x) (ha : PE X a (tV Z.T W sa)) (hb : PE X b (tV Z.T W sb)) : PS X (.Assign [.Attribute a x pos'] b pos) (tS' Z.T W (ssFld Z.T i sa sb)) := by
  obtain ⟨e1, _⟩ := h.z.att i x e
  rw [← e1]
  exact psv_fld h.z.ok h.K ha hb
theorem v_meth {i j : Nat} {l : List (Nat × (List D → Bs → R D))} {e : Expr} {es : List Expr} {apos : Pos} {s : SA} (h : XO Z t k N sc raw X W) (M : MtL Z x j l) (hj : Nat.ble j k = true) (e1 : t.att[i]? = some x)
    (g : (noSuper a && noStars (e :: es) && Nat.blt (e :: es).length 30 && (apos.endLine == pos.line)) = true) (ho : PE X a (tV Z.T W sa)) (ha : PA X (e :: es) (tA' Z.T W s)) :
    PE X (.Call (.Attribute a x apos) (e :: es) [] pos) (tV Z.T W (sMeth i (fun c => l.lookup c) sa s)) := by
  simp only [Bool.and_eq_true] at g
  obtain ⟨q1, q2⟩ := h.z.att i x e1
  rw [← q1]
  refine pv_meth h.z.ok h.K q2 (h.room.mono (Nat.le_of_ble_eq_true hj)) h.takes (fun c cf z => ?_) g.1.1.1 g.1.1.2 (by have e := g.1.2; simp [Nat.blt] at e; simp; omega) g.2 ho ha
  obtain ⟨C, f, fd, ps, h1, h2, h3, h4, h5, _⟩ := M c cf z
  exact ⟨C, f, fd, ps, h1, by rw [h.K]; exact h2, by rw [h.K, q1]; exact h3, by rw [h.prog, h.w, h.K, h.mg, h.base]; exact h4, by rw [h.K]; exact h5⟩
theorem v_make {j c : Nat} {init : List D → Bs → R D} {e : Expr} {es : List Expr} {s : SA} (h : XO Z t k N sc raw X W) (M : MkG Z x c j init) (hj : Nat.ble (j + 1) k = true) (g : glC sc x = true) (hs : noStars (e :: es) = true) (ha : PA X (e :: es) (tA' Z.T W s)) :
    PE X (.Call (.Name x p) (e :: es) [] pos) (tV Z.T W (sCall (makeD c true init) s)) := by
  obtain ⟨g1, g2, _⟩ := h.gl g
  obtain ⟨C, f, fd, ps, h1, h2, h3, h4, h5⟩ := M
  exact pv_make h1 (by rw [h.K]; exact h2) (by rw [h.prog, h.w, h.K, h.mg, h.base]; exact h3) (h.room.mono (Nat.le_of_ble_eq_true hj)) g1 (by rw [h.mg]; exact h5) (by rw [h.K]; exact h4) h.takes g2 hs ha
theorem N_own {i : Nat} (h : XO Z t k N sc raw X W) (e : t.cl[i]? = some x) (g : glC sc x = true) : ClsN X Z.T x (7 + i) := by
  obtain ⟨g1, g2, _⟩ := h.gl g
  obtain ⟨C, h1, h2, h3⟩ := h.z.cl i x e
  refine ⟨.ref C, .ref C, ?_, .own C, fun pos => pe_glob (v := .ref C) g1 (by rw [h.mg]; exact h2) rfl g2⟩
  · unfold Tb.tyV
    rw [if_neg (by omega), show 7 + i - 7 = i by omega]
    exact ⟨C, h1, rfl⟩
def MDef (Z : Cfg) (c : Nat) (m qual : Str) (st : Stmt) : Prop := ∃ C f fd, FunD Z.T.K m qual (defArgs st) (defBody st) (defScope st) [] [] f fd ∧ Z.T.cls c = some C ∧ Cls Z.T.K C ∧ Meth Z.T.K C m f
def IDef (Z : Cfg) (x : Str) (c : Nat) (qual : Str) (st : Stmt) : Prop := ∃ C f fd, FunD Z.T.K "__init__" qual (defArgs st) (defBody st) (defScope st) [] [] f fd ∧ Z.T.cls c = some C ∧ Mk Z.T.K C f ∧ Z.mg x = some (.ref C)
theorem mt_of {c : Nat} {m qual : Str} {st : Stmt} {N ps : List Str} {s : SS} (z : Z.Ok t) (Df : MDef Z c m qual st) (S : FnScope N ps (defScope st))
    (hb : ∀ (kV doc pm : Value) (an : Option Addr) (cdv ct : Value) (us : List Value), us.length = ps.length → bindArgs (PySem.W.fnOf m qual (defArgs st) (defBody st) (defScope st) .none kV doc pm an cdv ct) ⟨us, []⟩ = pure (ps.zip us))
    (B : ∀ (X : Cx) (W : WX), XO Z t k N (defScope st) none X W → PSs X (defBody st) (tS' Z.T W s)) : MtG Z c m (k + 1) (runFn ps.length N.length s) := by
  obtain ⟨C, f, fd, F, h1, h2, h3⟩ := Df
  exact ⟨C, f, fd, ps, h1, h2, h3, fn_sound F S fun cdv A outer s H E hr => B _ _ ⟨z, rfl, rfl, rfl, rfl, rfl, rfl, S.nd, rfl, S.kind, fun _ _ => rfl, rfl, hr, takes_of rfl rfl rfl rfl, passes_of rfl, fun _ => ⟨rfl, rfl, rfl⟩⟩, F.bindsN hb, by
    obtain ⟨_, _, _, _, _, _, _, _, _, _, _, lk, _⟩ := F.ex
    unfold PySem.W.fnIn
    rw [lk]⟩
theorem mk_of {c : Nat} {x qual : Str} {st : Stmt} {N ps : List Str} {s : SS} (z : Z.Ok t) (Df : IDef Z x c qual st) (S : FnScope N ps (defScope st))
    (hb : ∀ (kV doc pm : Value) (an : Option Addr) (cdv ct : Value) (us : List Value), us.length = ps.length → bindArgs (PySem.W.fnOf "__init__" qual (defArgs st) (defBody st) (defScope st) .none kV doc pm an cdv ct) ⟨us, []⟩ = pure (ps.zip us))
    (B : ∀ (X : Cx) (W : WX), XO Z t k N (defScope st) none X W → PSs X (defBody st) (tS' Z.T W s)) : MkG Z x c (k + 1) (runFn ps.length N.length s) := by
  obtain ⟨C, f, fd, F, h1, h2, h3⟩ := Df
  exact ⟨C, f, fd, ps, h1, h2, fn_sound F S fun cdv A outer s H E hr => B _ _ ⟨z, rfl, rfl, rfl, rfl, rfl, rfl, S.nd, rfl, S.kind, fun _ _ => rfl, rfl, hr, takes_of rfl rfl rfl rfl, passes_of rfl, fun _ => ⟨rfl, rfl, rfl⟩⟩, F.bindsN hb, h3⟩
end
structure Ct where
  cls : List Str
  att : List Str
  fld : List (Nat × Nat)
  /-- the types that isinstance is asked for -/
  isi : List Nat
  /-- the defs with lambdas, with their qualified names -/
  tab : List (He.Defn × Str)
  /-- exception classes; who is below whom; those that are asked for; their fields -/
  exn : List Str := []
  sub : List (Nat × Nat) := []
  exa : List Nat := []
  efl : List (Nat × Nat) := []
def kitC (c : Ct) (t u : Nat) : Option Bool := if t < 7 ∧ u < 7 then some (t == u || (t == 1 && u == 2)) else if t < 7 + c.cls.length ∧ c.isi.contains u ∧ u < 7 + c.cls.length then some (t == u) else if (1007 ≤ t ∧ t < 1007 + c.exn.length) ∧ (1007 ≤ u ∧ u < 1007 + c.exn.length) ∧ c.exa.contains (u - 1007) then some (c.sub.contains (t - 1007, u - 1007)) else none
def clsC (c : Ct) (i : Nat) : Option Str := if i < 1000 then c.cls[i]? else c.exn[i - 1000]?
def tbC (c : Ct) (K : PySem.W.Frag) : Tb := ⟨K, fun i => (clsC c i).map (He.ga K), fun f => c.att.getD f "", c.att.length, kitC c, fun i => decide (i < c.cls.length), fun i f => c.fld.contains (i, f), fun t => match c.tab[t]? with
  | some p => ((He.cT K p.1).2, p.2 ++ ".<locals>." ++ "<lambda>")
  | none => (0, ""), fun i f => c.efl.contains (i - 1000, f) && decide (1000 ≤ i)⟩
def tyvC (c : Ct) (K : PySem.W.Frag) (t : Nat) : Value := if t < 7 then .type (tyS t) else .ref (He.ga K ((clsC c (t - 7)).getD ""))
def insB (K : PySem.W.Frag) (x : Str) : Bool := He.eqO (PySem.W.findIn K (.ref (He.ga K x)) "__class__") (some (some (.builtin "object.__class__"))) && (He.eqO (PySem.W.specialIn K (.builtin "object.__class__") "__get__") (some (some (.builtin "getset_descriptor.__get__"))) &&
  (decide (PySem.W.takesIn K (.builtin "object.__class__") = some true) && (decide (PySem.W.mroIn K (He.ga K x) (.type "object") = some true) && He.eqO (PySem.W.findIn K (.ref (He.ga K x)) "__ne__") (some (some (.builtin "object.__ne__"))))))
def xcB (K : PySem.W.Frag) (C : Addr) : Bool := (PySem.W.clsIn K C).isSome && (He.eqO (PySem.W.findIn K (.ref C) "__getattribute__") (some (some (.builtin "BaseException.__getattribute__"))) && (He.eqO (PySem.W.findIn K (.ref C) "__getattr__") (some none) && (decide (PySem.W.subIn K (.ref C) (.type "BaseException") = some true) &&
  (PySem.W.hasDictIn K C && (He.eqO (PySem.W.findIn K (.ref C) "__class__") (some (some (.builtin "object.__class__"))) && (He.eqO (PySem.W.specialIn K (.builtin "object.__class__") "__get__") (some (some (.builtin "getset_descriptor.__get__"))) && (decide (PySem.W.takesIn K (.builtin "object.__class__") = some true) &&
  (decide (PySem.W.mroIn K C (.type "object") = some true) && (decide (PySem.W.typeIn K (.ref C) = some (.type "type")) && He.eqO (PySem.W.findIn K (.ref C) "__ne__") (some (some (.builtin "object.__ne__"))))))))))))
theorem xcB_ok {K : PySem.W.Frag} {C : Addr} (h : xcB K C = true) : XcOk K C ∧ PySem.W.findIn K (.ref C) "__ne__" = some (some (.builtin "object.__ne__")) := by
  obtain ⟨h1, h⟩ := He.ba h
  obtain ⟨h2, h⟩ := He.ba h
  obtain ⟨h3, h⟩ := He.ba h
  obtain ⟨h4, h⟩ := He.ba h
  obtain ⟨h5, h⟩ := He.ba h
  obtain ⟨h6, h⟩ := He.ba h
  obtain ⟨h7, h⟩ := He.ba h
  obtain ⟨h8, h⟩ := He.ba h
  obtain ⟨h9, h⟩ := He.ba h
  obtain ⟨h10, h11⟩ := He.ba h
  exact ⟨⟨h1, He.eqO_ok h2, He.eqO_ok h3, of_decide_eq_true h4, h5, He.eqO_ok h6, He.eqO_ok h7, of_decide_eq_true h8, of_decide_eq_true h9, of_decide_eq_true h10⟩, He.eqO_ok h11⟩
def ctX (c : Ct) (K : PySem.W.Frag) : Bool := decide (c.cls.length ≤ 1000) && ((c.exn.all fun x => xcB K (He.ga K x)) && (((List.range c.exn.length).all fun i => c.exa.all fun j => decide (PySem.W.exmOne K (.ref (He.ga K (c.exn.getD i ""))) (.ref (He.ga K (c.exn.getD j ""))) = some (c.sub.contains (i, j))) && decide (PySem.W.kitOne K (.ref (He.ga K (c.exn.getD i ""))) (.ref (He.ga K (c.exn.getD j ""))) = some (c.sub.contains (i, j)))) &&
  c.efl.all fun p => decide (p.1 < c.exn.length) && (decide (p.2 < c.att.length) && (He.Fa.noat (c.exn.getD p.1 "") (c.att.getD p.2 "")).ok K)))
def ctOk (c : Ct) (K : PySem.W.Frag) : Bool := ctX c K && (
  (c.cls.all fun x => (He.Fa.cls x).ok K && insB K x) &&
  ((c.fld.all fun p => decide (p.1 < c.cls.length) && (decide (p.2 < c.att.length) && (He.Fa.noat (c.cls.getD p.1 "") (c.att.getD p.2 "")).ok K)) &&
  ((List.range (7 + c.cls.length)).all fun t => c.isi.all fun u => decide (t < 7 ∧ u < 7) || (decide (¬ u < 7 + c.cls.length) || decide (PySem.W.kitOne K (tyvC c K t) (tyvC c K u) = some (t == u))))))
theorem tbC_ok {c : Ct} {K : PySem.W.Frag} (hn : c.att.Nodup) (he : c.att.contains "" = false) (h : ctOk c K = true) : (tbC c K).Ok := by
  unfold ctOk ctX at h
  simp only [Bool.and_eq_true] at h
  obtain ⟨⟨h0, h4, h5, h6⟩, h1, h2, h3⟩ := h
  have h0 := of_decide_eq_true h0
  rw [List.all_eq_true] at h1 h2 h3 h4 h5 h6
  have gt : ∀ {i : Nat} {C : Addr}, (tbC c K).cls i = some C → (i < 1000 ∧ ∃ x, c.cls[i]? = some x ∧ C = He.ga K x ∧ i < c.cls.length ∧ (clsC c i).getD "" = x ∧ c.cls.getD i "" = x) ∨ (1000 ≤ i ∧ ∃ x, c.exn[i - 1000]? = some x ∧ C = He.ga K x ∧ i - 1000 < c.exn.length ∧ c.exn.getD (i - 1000) "" = x) := by
    intro i C e
    have e' : (clsC c i).map (He.ga K) = some C := e
    unfold clsC at e' ⊢
    split at e'
    · rename_i hi
      cases q : c.cls[i]? with
      | none => rw [q] at e'; cases e'
      | some x =>
        rw [q] at e'; cases e'
        exact .inl ⟨hi, x, rfl, rfl, (List.getElem?_eq_some_iff.mp q).1, by rw [if_pos hi]; rfl, by rw [List.getD_eq_getElem?_getD, q]; rfl⟩
    · rename_i hi
      cases q : c.exn[i - 1000]? with
      | none => rw [q] at e'; cases e'
      | some x =>
        rw [q] at e'; cases e'
        exact .inr ⟨by omega, x, rfl, rfl, (List.getElem?_eq_some_iff.mp q).1, by rw [List.getD_eq_getElem?_getD, q]; rfl⟩
  have tv : ∀ {t : Nat} {v : Value}, t < 7 + c.cls.length → (tbC c K).tyV t v → v = tyvC c K t := by
    intro t v ht hv
    unfold Tb.tyV at hv
    unfold tyvC
    split at hv
    · rename_i z; rw [if_pos z]; exact hv
    · rename_i z
      rw [if_neg z]
      obtain ⟨C, e, rfl⟩ := hv
      rcases gt e with ⟨_, x, _, rfl, _, e4, _⟩ | ⟨z2, _⟩
      · rw [e4]
      · omega
  have xv : ∀ {t : Nat} {v : Value}, 1007 ≤ t → (tbC c K).tyV t v → v = .ref (He.ga K (c.exn.getD (t - 1007) "")) := by
    intro t v ht hv
    unfold Tb.tyV at hv
    rw [if_neg (by omega)] at hv
    obtain ⟨C, e, rfl⟩ := hv
    rcases gt e with ⟨z2, _⟩ | ⟨_, x, _, rfl, _, e4⟩
    · omega
    · rw [show t - 1007 = t - 7 - 1000 by omega, e4]
  refine ⟨fun t u b tv' uv e h4' h5' => ?_, fun i C e hi H a dx fs hH => ?_, fun i C e => ?_, fun f g hf e => ?_, fun i f e => ?_, fun i f C e hC => ?_, fun i C hi e => ?_, fun i u b C E hi hu e hC hE => ?_, fun i f C e hC => ?_⟩
  · have e' : kitC c t u = some b := e
    unfold kitC at e'
    split at e'
    · rename_i hh
      cases e'
      unfold Tb.tyV at h4' h5'
      rw [if_pos hh.1] at h4'
      rw [if_pos hh.2] at h5'
      subst h4' h5'
      exact kit0_ok K t hh.1 u hh.2
    · rename_i hh
      split at e'
      · rename_i hq
        cases e'
        have k := List.all_eq_true.mp (h3 t (List.mem_range.mpr hq.1)) u (by simpa using hq.2.1)
        simp only [Bool.or_eq_true, decide_eq_true_eq] at k
        rcases k with k | k | k
        · exact absurd k hh
        · exact absurd hq.2.2 k
        · rw [tv hq.1 h4', tv hq.2.2 h5']; exact k
      · split at e'
        · rename_i hq
          cases e'
          have k := List.all_eq_true.mp (h5 (t - 1007) (List.mem_range.mpr (by omega))) (u - 1007) (by simpa using hq.2.2)
          rw [Bool.and_eq_true] at k
          rw [xv hq.1.1 h4', xv hq.2.1.1 h5']
          exact of_decide_eq_true k.2
        · cases e'
  · have hi' : i < c.cls.length := of_decide_eq_true (show decide (i < c.cls.length) = true from hi)
    rcases gt e with ⟨_, x, e1, rfl, _⟩ | ⟨z, _⟩
    · have k := h1 x (List.mem_of_getElem? e1)
      simp only [Bool.and_eq_true, insB] at k
      obtain ⟨k1, k2, k3, k4, k5, k6⟩ := k
      exact .ins hH (He.cls_ok k1) (He.eqO_ok k2) (He.eqO_ok k3) (of_decide_eq_true k4) (of_decide_eq_true k5)
    · omega
  · rcases gt e with ⟨_, x, e1, rfl, _⟩ | ⟨_, x, e1, rfl, _⟩
    · have k := h1 x (List.mem_of_getElem? e1)
      simp only [Bool.and_eq_true, insB] at k
      obtain ⟨k1, k2, k3, k4, k5, k6⟩ := k
      exact ⟨of_decide_eq_true k5, He.eqO_ok k6⟩
    · obtain ⟨k1, k2⟩ := xcB_ok (h4 x (List.mem_of_getElem? e1))
      exact ⟨k1.hm, k2⟩
  · have hf' : f < c.att.length := hf
    have e' : c.att.getD g "" = c.att.getD f "" := e
    rw [List.getD_eq_getElem?_getD, List.getD_eq_getElem?_getD, List.getElem?_eq_getElem hf'] at e'
    simp only [Option.getD_some] at e'
    by_cases hg : g < c.att.length
    · rw [List.getElem?_eq_getElem hg] at e'
      exact (List.getElem_inj hn).mp e'
    · rw [List.getElem?_eq_none (by omega)] at e'
      have : c.att.contains "" = true := by
        rw [List.contains_iff_mem]
        simp only [Option.getD_none] at e'
        rw [e']
        exact List.getElem_mem hf'
      rw [he] at this; cases this
  · have e' : c.fld.contains (i, f) = true := e
    have k := h2 (i, f) (by simpa using e')
    simp only [Bool.and_eq_true, decide_eq_true_eq] at k
    exact k.2.1
  · have e' : c.fld.contains (i, f) = true := e
    have k := h2 (i, f) (by simpa using e')
    simp only [Bool.and_eq_true, decide_eq_true_eq] at k
    rcases gt hC with ⟨_, x, e1, rfl, _, _, e4⟩ | ⟨z, _⟩
    · have k1 := h1 x (List.mem_of_getElem? e1)
      simp only [Bool.and_eq_true] at k1
      refine ⟨He.cls_ok k1.1, ?_⟩
      have := He.noat_ok k.2.2
      simp only [e4] at this
      exact this
    · have := k.1
      omega
  · rcases gt e with ⟨z, _⟩ | ⟨_, x, e1, rfl, _⟩
    · omega
    · exact (xcB_ok (h4 x (List.mem_of_getElem? e1))).1
  · have e' : kitC c (7 + i) (7 + u) = some b := e
    unfold kitC at e'
    rw [if_neg (by omega), if_neg (fun z => by omega)] at e'
    split at e'
    · rename_i hq
      cases e'
      rw [show 7 + i - 1007 = i - 1000 by omega, show 7 + u - 1007 = u - 1000 by omega] at *
      have k := List.all_eq_true.mp (h5 (i - 1000) (List.mem_range.mpr (by omega))) (u - 1000) (by simpa using hq.2.2)
      rw [Bool.and_eq_true] at k
      rcases gt hC with ⟨z, _⟩ | ⟨_, x, _, rfl, _, e4⟩
      · omega
      · rcases gt hE with ⟨z, _⟩ | ⟨_, y, _, rfl, _, e5⟩
        · omega
        · have k1 := of_decide_eq_true k.1
          rw [e4, e5] at k1
          exact k1
    · cases e'
  · have e' : (c.efl.contains (i - 1000, f) && decide (1000 ≤ i)) = true := e
    rw [Bool.and_eq_true] at e'
    have hi := of_decide_eq_true e'.2
    have k := h6 (i - 1000, f) (by simpa using e'.1)
    simp only [Bool.and_eq_true, decide_eq_true_eq] at k
    rcases gt hC with ⟨z, _⟩ | ⟨_, x, _, rfl, _, e4⟩
    · omega
    · refine ⟨k.2.1, ?_⟩
      have := He.noat_ok k.2.2
      simp only [e4] at this
      exact this
def obsC (c : Ct) (fa : List He.Fa) (fn : List He.DefD) (K : PySem.W.Frag) : He.AlD := (((fa.all fun f => f.ok K) && fn.all fun d => d.ok K) && ctOk c K, fn.map fun d => He.fnW K d.at_)
def SaysC (c : Ct) (fa : List He.Fa) (fn : List He.DefD) (K : PySem.W.Frag) : Prop := obsC c fa fn K = He.valD fn
theorem SaysC.ct {c : Ct} {fa : List He.Fa} {fn : List He.DefD} {K : PySem.W.Frag} (h : SaysC c fa fn K) : ctOk c K = true := by
  have e := congrArg (fun z : He.AlD => z.1) h
  exact (He.ba (show (((fa.all fun f => f.ok K) && fn.all fun d => d.ok K) && ctOk c K) = true from e)).2
theorem SaysC.d {c : Ct} {fa : List He.Fa} {fn : List He.DefD} {K : PySem.W.Frag} (h : SaysC c fa fn K) : He.SaysD fa fn K := by
  have e := congrArg (fun z : He.AlD => z.1) h
  have e2 := congrArg (fun z : He.AlD => z.2) h
  have e1 := (He.ba (show (((fa.all fun f => f.ok K) && fn.all fun d => d.ok K) && ctOk c K) = true from e)).1
  unfold He.SaysD He.obsD He.valD
  rw [e1]
  exact congrArg (Prod.mk true) e2
end VI
namespace VI
open PySem PySem.Spec PyProof.Rows L2
section
variable {X : Cx} {T : Tb} {W : WX} {e tg : Expr}
end
end VI
end
section
namespace VI
open PySem PySem.Spec PyProof.Rows L2
def lcS2 (g : SG) (tt : SB) (it1 : SI) (own1 : List Nat) (g1 : SG) (tt1 : SB) (el : SV) (ρ : Ev) : List VI.D → Bs → R (List VI.D)
  | [], h => .ok [] h
  | d :: ds, h => match g d ρ h with
    | .ok ρ1 h1 => (match tt ρ1 h1 with
      | .ok true h2 => (match it1 ρ1 h2 with
        | .ok u h3 => (match lcS g1 tt1 el (wipeE ρ1 own1) u.1 (lockO u.2 h3) with
          | .ok ys h4 => (match lcS2 g tt it1 own1 g1 tt1 el ρ ds (unlO u.2 h4) with
            | .ok zs h5 => .ok (ys ++ zs) h5
            | _ => .no)
          | _ => .no)
        | _ => .no)
      | .ok false h2 => lcS2 g tt it1 own1 g1 tt1 el ρ ds h2
      | _ => .no)
    | _ => .no
def sLc2 (bx : Bool) (own own1 : List Nat) (it : SI) (g : SG) (tt : SB) (it1 : SI) (g1 : SG) (tt1 : SB) (el : SV) : SV := fun ρ h =>
  (it ρ h).bind fun u h1 => (unlR u.2 (lcS2 g tt it1 own1 g1 tt1 el (wipeE ρ own) u.1 (lockO u.2 h1))).bind fun ys h2 => newL bx ys h2
theorem wipe_wipe (own : List Nat) (σ : Sg) : L2.wipe (L2.wipe σ own) own = L2.wipe σ own := by
  apply List.ext_getElem?
  intro j
  by_cases hj : j ∈ own
  · have key : ∀ (os : List Nat) (τ : Sg), j ∈ os → (L2.wipe τ os)[j]? = (if j < τ.length then some none else none) := by
      intro os
      induction os with
      | nil => intro τ z; cases z
      | cons o os ih =>
        intro τ z
        unfold L2.wipe
        by_cases ho : o = j
        · subst ho
          rw [List.getElem?_set]
          simp [wipe_length]
        · rw [List.getElem?_set_ne ho]
          rcases List.mem_cons.mp z with z | z
          · exact absurd z.symm ho
          · exact ih τ z
    rw [key own _ hj, key own _ hj, wipe_length]
  · rw [wipe_out hj]
section
variable {X : Cx} {T : Tb} {W : WX} {μ μ' : Mu} {H H' : Hp} {h : Bs} {σ : Sg} {ρ : Ev} {D : Addr}
theorem inner_imp {own1 : List Nat} {g1 : SG} {tt1 : SB} {el : SV} {J1 : It} {items : List VI.D} {lk : Option Nat} {acc : List V} {accD ys : List VI.D} {h5 : Bs} {Nx : Hp → Prop}
    (wk : Wk T J1 items (lockMu μ lk) H) (r : Rel T μ h H) (l : Lkb μ h lk) (hm : D ∈ μ.pr) (hD : H D = some (.lst acc)) (q : Reps T μ H accD acc) (e : RepE T μ H ρ σ)
    (c : lcS g1 tt1 el (wipeE ρ own1) items (lockO lk h) = .ok ys h5) (hlen : accD.length + ys.length ≤ sizeLine)
    (nx : ∀ (μ' : Mu) (H' : Hp) (acc' : List V), Stx (· = D) μ H μ' H' → Rel T μ' (unlO lk h5) H' → D ∈ μ'.pr → H' D = some (.lst acc') → Reps T μ' H' (accD ++ ys) acc' → Nx H') :
    ∃ W1 : Nat → Nat → Hp → Prop, (∃ m, W1 0 m H) ∧ ∀ j k H, W1 j k H → (J1.stop j H ∧ Nx H) ∨ (J1.go j H ∧ ∃ Nx1 : Hp → Prop, (∀ H', Nx1 H' → ∃ k', k' < k ∧ W1 (j + 1) k' H') ∧ ∀ x H', J1.yld j H x H' → tG' T own1 g1 x (L2.wipe σ own1) H' fun σ3 H5 => L2.wipe σ3 own1 = L2.wipe σ own1 ∧ tB' T noW tt1 σ3 H5 fun b H6 =>
        if b = true then tV T noW el σ3 H6 fun y H7 => ∃ acc, H7 D = some (.lst acc) ∧ acc.length < sizeLine ∧ Nx1 (upd H7 D (.lst (acc ++ [y]))) else Nx1 H6) := by
  have rL : Rel T (lockMu μ lk) (lockO lk h) H := r.lock lk fun b z => (l b z).2
  have eL : RepE T (lockMu μ lk) H ρ σ := e.ad lockMu_ad lockMu_pr
  have qL : Reps T (lockMu μ lk) H accD acc := Reps.ad lockMu_ad lockMu_pr _ _ q
  have hmL : D ∈ (lockMu μ lk).pr := by rw [lockMu_pr]; exact hm
  have hE : ∀ a, a = D → a ∈ (lockMu μ lk).pr := by rintro _ rfl; exact hmL
  have hA : ∀ a, a = D → a ∈ (lockMu μ lk).pr ∧ a ∉ (lockMu μ lk).ad ∧ ∃ o, H a = some o := by rintro _ rfl; exact ⟨hmL, by rw [lockMu_ad]; exact (r.prh _ hm).2, _, hD⟩
  let P : Nat → Hp → Prop := fun i H2 => ∃ μ2 hh acc2 accD2, Stx (· = D) (lockMu μ lk) H μ2 H2 ∧ Rel T μ2 hh H2 ∧ D ∈ μ2.pr ∧ H2 D = some (.lst acc2) ∧ Reps T μ2 H2 accD2 acc2 ∧ RepE T μ2 H2 ρ σ ∧
    ∃ ys', lcS g1 tt1 el (wipeE ρ own1) (items.drop i) hh = .ok ys' h5 ∧ accD2 ++ ys' = accD ++ ys
  refine ⟨fun i m H2 => m = items.length - i ∧ i ≤ items.length ∧ P i H2, ⟨_, rfl, Nat.zero_le _, lockMu μ lk, lockO lk h, acc, accD, Stx.one hD, rL, hmL, hD, qL, eL, ys, by simpa using c, rfl⟩, ?_⟩
  rintro i m H2 ⟨rfl, hi, μ2, hh, acc2, accD2, s2, r2, hm2, hD2, q2r, e2, ys', c2, ey⟩
  by_cases hlt : i < items.length
  · refine .inr ⟨wk.goesx _ i μ2 H2 hE hlt s2, P (i + 1), fun H' p => ⟨items.length - (i + 1), by omega, rfl, hlt, p⟩, fun x H3 y => ?_⟩
    obtain ⟨d, hd, s3, r3, rv⟩ := wk.yieldsx _ i μ2 H2 hh x H3 hE hlt s2 r2 y
    have ed : items.drop i = d :: items.drop (i + 1) := by
      rw [List.drop_eq_getElem_cons hlt]
      rw [List.getElem?_eq_getElem hlt] at hd
      cases hd; rfl
    rw [ed] at c2
    simp only [lcS] at c2
    have e3 : RepE T μ2 H3 ρ σ := e2.step s3
    refine ⟨μ2, wipeE ρ own1, hh, d, r3, e3.wipe own1, rv, ?_⟩
    cases q3 : g1 d (wipeE ρ own1) hh with
    | no => rw [q3] at c2; cases c2
    | ex x h3 => rw [q3] at c2; cases c2
    | ok ρ4 h4 =>
      rw [q3] at c2
      simp only at c2
      intro μ4 H4 σ4 s4 r4 e4 w4
      refine ⟨by rw [w4, wipe_wipe], μ4, ρ4, h4, r4, e4, ?_⟩
      have hm4 : D ∈ μ4.pr := s4.prs D (s3.prs D hm2)
      have hD3 : H3 D = some (.lst acc2) := s3.keep D _ hD2 (r2.prh D hm2).2
      have hD4 : H4 D = some (.lst acc2) := s4.keep D _ hD3 (r3.prh D hm2).2
      have q4r : Reps T μ4 H4 accD2 acc2 := Reps.step s4 _ _ (Reps.step s3 _ _ q2r)
      have s24 : Stx (· = D) (lockMu μ lk) H μ4 H4 := (s2.trans hA s3).trans hA s4
      have e24 : RepE T μ4 H4 ρ σ := e3.step s4
      cases q4 : tt1 ρ4 h4 with
      | no => rw [q4] at c2; cases c2
      | ex x h6 => rw [q4] at c2; cases c2
      | ok b h6 =>
        rw [q4] at c2
        cases b with
        | false =>
          simp only at c2
          intro μ5 H5 s5 r5
          simp only [Bool.false_eq_true, if_false]
          exact ⟨μ5, h6, acc2, accD2, s24.trans hA s5, r5, s5.prs D hm4, s5.keep D _ hD4 (r4.prh D hm4).2, Reps.step s5 _ _ q4r, e24.step s5, ys', c2, ey⟩
        | true =>
          simp only at c2
          intro μ5 H5 s5 r5
          simp only [if_true]
          refine ⟨μ5, ρ4, h6, r5, e4.step s5, ?_⟩
          have hm5 : D ∈ μ5.pr := s5.prs D hm4
          have hD5 : H5 D = some (.lst acc2) := s5.keep D _ hD4 (r4.prh D hm4).2
          cases q5 : el ρ4 h6 with
          | no => rw [q5] at c2; cases c2
          | ex x h7 => rw [q5] at c2; cases c2
          | ok z h7 =>
            rw [q5] at c2
            simp only at c2
            cases q6 : lcS g1 tt1 el (wipeE ρ own1) (items.drop (i + 1)) h7 with
            | no => rw [q6] at c2; cases c2
            | ex x h8 => rw [q6] at c2; cases c2
            | ok zs h8 =>
              rw [q6] at c2
              cases c2
              intro μ6 H6 v6 s6 r6 rv6
              have hm6 : D ∈ μ6.pr := s6.prs D hm5
              have hD6 : H6 D = some (.lst acc2) := s6.keep D _ hD5 (r5.prh D hm5).2
              have q6r : Reps T μ6 H6 accD2 acc2 := Reps.step s6 _ _ (Reps.step s5 _ _ q4r)
              have hl : acc2.length < sizeLine := by
                have h1 := q6r.length
                have h2 := congrArg List.length ey
                rw [List.length_append, List.length_cons, List.length_append] at h2
                omega
              refine ⟨acc2, hD6, hl, μ6, h7, acc2 ++ [v6], accD2 ++ [z], ((s24.trans hA s5).trans hA s6).put, r6.pr hm6, hm6, upd_same, Reps.pr hm6 _ _ (q6r.append (.one rv6)), ((e24.step s5).step s6).pr hm6, zs, q6, by rw [List.append_assoc]; exact ey⟩
  · have ei : i = items.length := by omega
    subst ei
    refine .inl ⟨wk.stopsx _ μ2 H2 hE s2, ?_⟩
    rw [List.drop_length] at c2
    simp only [lcS] at c2
    cases c2
    rw [List.append_nil] at ey
    subst ey
    obtain ⟨ru, su⟩ := Rel.unlockx lk (l.low r) (fun a ha z => (r.prh D hm).2 (by rw [← z]; exact ha)) s2 r2
    exact nx _ H2 acc2 su ru hm2 hD2 (Reps.ad (μ := μ2) (μ' := { μ2 with lk := μ.lk }) rfl rfl _ _ q2r)
theorem lc2_imp {bx : Bool} {own own1 : List Nat} {it it1 : SI} {g g1 : SG} {tt tt1 : SB} {el : SV} : ∀ σ H Q, tV T W (sLc2 bx own own1 it g tt it1 g1 tt1 el) σ H Q → tLc2 (tI' T W it) (tG' T own g) (tB' T noW tt) (tI' T noW it1) (tG' T own1 g1) (tB' T noW tt1) (tV T noW el) own own1 σ H Q := fun σ H Q ⟨μ, ρ, h, r, e, o⟩ => by
  refine ⟨μ, ρ, h, r, e, ?_⟩
  unfold sLc2 at o
  cases q : it ρ h with
  | no => rw [q] at o; exact o
  | ex x h1 => rw [q] at o; exact o
  | ok u h1 =>
    rw [q] at o
    simp only [R.bind] at o
    intro μ1 H1 J s1 r1 l wk
    have o1 := OutV.step o s1
    obtain ⟨items, lk⟩ := u
    simp only at o1 l wk
    cases q2 : lcS2 g tt it1 own1 g1 tt1 el (wipeE ρ own) items (lockO lk h1) with
    | no => rw [q2] at o1; exact o1.elim
    | ex x h2 =>
      exfalso
      have key : ∀ (ds : List VI.D) (h : Bs) (x : Ex) (h' : Bs), lcS2 g tt it1 own1 g1 tt1 el (wipeE ρ own) ds h ≠ .ex x h' := by
        intro ds
        induction ds with
        | nil => intro h x h' z; simp [lcS2] at z
        | cons d ds ih =>
          intro h x h' z
          simp only [lcS2] at z
          repeat' split at z
          all_goals first | (cases z; done) | exact ih _ _ _ z
      exact key _ _ _ _ q2
    | ok ys h2 =>
      rw [q2] at o1
      simp only [unlR] at o1
      have o2 : OutV T W σ μ1 H1 Q (newL bx ys (unlO lk h2)) := o1
      have hlen := newL_len o2
      intro D hD
      have rL : Rel T (lockMu μ1 lk) (lockO lk h1) H1 := r1.lock lk fun b z => (l b z).2
      have eL : RepE T (lockMu μ1 lk) H1 ρ σ := (e.step s1).ad lockMu_ad lockMu_pr
      let P : Nat → Hp → Prop := fun i H => ∃ μ h acc accD, Stp (lockMu μ1 lk) H1 μ H ∧ Rel T μ h H ∧ D ∈ μ.pr ∧ H D = some (.lst acc) ∧ Reps T μ H accD acc ∧ RepE T μ H ρ σ ∧
        ∃ ys', lcS2 g tt it1 own1 g1 tt1 el (wipeE ρ own) (items.drop i) h = .ok ys' h2 ∧ accD ++ ys' = ys
      have h0 : P 0 (upd H1 D (.lst [])) := ⟨(lockMu μ1 lk).prot D, lockO lk h1, [], [], Stp.prot hD, rL.prot hD, List.mem_cons_self, upd_same, .nil, eL.step (Stp.prot hD), ys, by simpa using q2, rfl⟩
      refine ⟨fun i m H => m = items.length - i ∧ i ≤ items.length ∧ P i H, ⟨_, rfl, Nat.zero_le _, h0⟩, ?_⟩
      rintro i m H2 ⟨rfl, hi, μ2, hh, acc, accD, s2, r2, hm2, hD2, q2r, e2, ys', c2, ey⟩
      by_cases hlt : i < items.length
      · refine .inr ⟨wk.goes i μ2 H2 hlt s2, P (i + 1), fun H' p => ⟨items.length - (i + 1), by omega, rfl, hlt, p⟩, fun x H3 y => ?_⟩
        obtain ⟨d, hd, s3, r3, rv⟩ := wk.yields i μ2 H2 hh x H3 hlt s2 r2 y
        have ed : items.drop i = d :: items.drop (i + 1) := by
          rw [List.drop_eq_getElem_cons hlt]
          rw [List.getElem?_eq_getElem hlt] at hd
          cases hd; rfl
        rw [ed] at c2
        simp only [lcS2] at c2
        have e3 : RepE T μ2 H3 ρ σ := e2.step s3
        refine ⟨μ2, wipeE ρ own, hh, d, r3, e3.wipe own, rv, ?_⟩
        cases q3 : g d (wipeE ρ own) hh with
        | no => rw [q3] at c2; cases c2
        | ex x h3 => rw [q3] at c2; cases c2
        | ok ρ4 h4 =>
          rw [q3] at c2
          simp only at c2
          intro μ4 H4 σ4 s4 r4 e4 w4
          refine ⟨by rw [w4, wipe_wipe], μ4, ρ4, h4, r4, e4, ?_⟩
          have hm4 : D ∈ μ4.pr := s4.prs D (s3.prs D hm2)
          have hD3 : H3 D = some (.lst acc) := s3.keep D _ hD2 (r2.prh D hm2).2
          have hD4 : H4 D = some (.lst acc) := s4.keep D _ hD3 (r3.prh D hm2).2
          have q4r : Reps T μ4 H4 accD acc := Reps.step s4 _ _ (Reps.step s3 _ _ q2r)
          have s24 : Stp (lockMu μ1 lk) H1 μ4 H4 := (s2.trans s3).trans s4
          have e24 : RepE T μ4 H4 ρ σ := e3.step s4
          cases q4 : tt ρ4 h4 with
          | no => rw [q4] at c2; cases c2
          | ex x h5 => rw [q4] at c2; cases c2
          | ok b h5 =>
            rw [q4] at c2
            cases b with
            | false =>
              simp only at c2
              intro μ5 H5 s5 r5
              simp only [Bool.false_eq_true, if_false]
              exact ⟨μ5, h5, acc, accD, s24.trans s5, r5, s5.prs D hm4, s5.keep D _ hD4 (r4.prh D hm4).2, Reps.step s5 _ _ q4r, e24.step s5, ys', c2, ey⟩
            | true =>
              simp only at c2
              intro μ5 H5 s5 r5
              simp only [if_true]
              refine ⟨μ5, ρ4, h5, r5, e4.step s5, ?_⟩
              have hm5 : D ∈ μ5.pr := s5.prs D hm4
              have hD5 : H5 D = some (.lst acc) := s5.keep D _ hD4 (r4.prh D hm4).2
              cases q5 : it1 ρ4 h5 with
              | no => rw [q5] at c2; cases c2
              | ex x h6 => rw [q5] at c2; cases c2
              | ok u6 h6 =>
                rw [q5] at c2
                simp only at c2
                obtain ⟨items1, lk1⟩ := u6
                simp only at c2
                intro μ6 H6 J1 s6 r6 l6 wk6
                simp only at l6 wk6
                have hm6 : D ∈ μ6.pr := s6.prs D hm5
                have hD6 : H6 D = some (.lst acc) := s6.keep D _ hD5 (r5.prh D hm5).2
                have q6r : Reps T μ6 H6 accD acc := Reps.step s6 _ _ (Reps.step s5 _ _ q4r)
                have e6 : RepE T μ6 H6 ρ4 σ4 := (e4.step s5).step s6
                have s26 : Stp (lockMu μ1 lk) H1 μ6 H6 := (s24.trans s5).trans s6
                have e26 : RepE T μ6 H6 ρ σ := (e24.step s5).step s6
                cases q6 : lcS g1 tt1 el (wipeE ρ4 own1) items1 (lockO lk1 h6) with
                | no => rw [q6] at c2; cases c2
                | ex x h7 => rw [q6] at c2; cases c2
                | ok zs h7 =>
                  rw [q6] at c2
                  simp only at c2
                  cases q7 : lcS2 g tt it1 own1 g1 tt1 el (wipeE ρ own) (items.drop (i + 1)) (unlO lk1 h7) with
                  | no => rw [q7] at c2; cases c2
                  | ex x h8 => rw [q7] at c2; cases c2
                  | ok ws h8 =>
                    rw [q7] at c2
                    cases c2
                    have hl : accD.length + zs.length ≤ sizeLine := by
                      have z := congrArg List.length ey
                      rw [List.length_append, List.length_append] at z
                      omega
                    refine inner_imp wk6 r6 l6 hm6 hD6 q6r e6 q6 hl fun μ7 H7 acc7 s7 r7 hm7 hD7 q7r => ?_
                    exact ⟨μ7, unlO lk1 h7, acc7, accD ++ zs, s26.thenx hD hm6 s7, r7, hm7, hD7, q7r, e26.stepx s7 (by rintro _ rfl; exact hm6), ws, q7, by rw [List.append_assoc]; exact ey⟩
      · have ei : i = items.length := by omega
        subst ei
        refine .inl ⟨wk.stops μ2 H2 s2, ?_⟩
        rw [List.drop_length] at c2
        simp only [lcS2] at c2
        cases c2
        rw [List.append_nil] at ey
        subst ey
        obtain ⟨ru, su⟩ := Rel.unlock lk (l.low r1) s2 r2
        exact newL_prot o2 r1 hD su ru hm2 hD2 (Reps.ad (μ := μ2) (μ' := { μ2 with lk := μ1.lk }) rfl rfl _ _ q2r)
end
section
variable {Z : Cfg} {t : Tx} {k : Nat} {N : List Str} {sc : Scope} {raw : Option Scope} {X : Cx} {W : WX} {pos : Pos}
theorem s_setLc2 {bx : Bool} {i : Nat} {y : Str} {py spos : Pos} {own : List (Str × Nat)} {own1 : List Nat} {tg iter tg1 iter1 elt : Expr} {ifs ifs1 : List Expr} {scope : Scope} {it it1 : SI} {g g1 : SG} {tt tt1 : SB} {el : SV} (h : XO Z t k N sc raw X W)
    (g0 : (decide (N[i]? = some y) && decide (sc.names.lookup y = some .local) && swl scope y py pos) = true) (c1 : (blkC N sc scope own && noSet iter && noSet iter1 && own1.all fun i => (own.map (·.2)).contains i) = true) (hi : PI X tg iter (tI' Z.T W it))
    (hb : ∀ X' : Cx, XO Z t k N (relS scope sc) (some scope) X' noW → PG X' tg (tG' Z.T (own.map (·.2)) g) ∧ PTs X' ifs (tB' Z.T noW tt) ∧ PI X' tg1 iter1 (tI' Z.T noW it1) ∧ PG X' tg1 (tG' Z.T own1 g1) ∧ PTs X' ifs1 (tB' Z.T noW tt1) ∧ PE X' elt (tV Z.T noW el)) :
    PS X (.Assign [.Name y py] (.ListComp elt [⟨tg, iter, ifs, 0⟩, ⟨tg1, iter1, ifs1, 0⟩] scope pos) spos) (tS' Z.T W (ssAsg (sLc2 bx (own.map (·.2)) own1 it g tt it1 g1 tt1 el) (sgName i))) := by
  simp only [Bool.and_eq_true, decide_eq_true_eq, swl, Bool.not_eq_true'] at c1 g0
  have ok : BlkOk X.N X.env.scope scope own := by rw [h.N, h.sc]; exact blkOk_by c1.1.1.1
  have q := fun s H C cl fp => hb _ (h.blk ok.kind s H C cl fp)
  refine PS.imp (ps_setLc2 h.calm h.nd' (by rw [h.N]; exact g0.1.1) (by rw [h.sc]; exact g0.1.2) (sw_true (by rw [h.sc]; exact h.kd) (by rw [h.sc]; exact g0.1.2) g0.2.1 g0.2.2) hi ok (fun i z => by have := List.all_eq_true.mp c1.2 i z; simpa using this) (fun s H C cl fp => (q s H C cl fp).1) (fun s H C cl fp => (q s H C cl fp).2.1) (fun s H C cl fp => (q s H C cl fp).2.2.1) (fun s H C cl fp => (q s H C cl fp).2.2.2.1) (fun s H C cl fp => (q s H C cl fp).2.2.2.2.1) (fun s H C cl fp => (q s H C cl fp).2.2.2.2.2) (fsi c1.1.1.2) (fun env x => fsi c1.1.2 x)) fun D σ H w => ?_
  exact lc2_imp σ H _ (asgN_imp D σ H w)
end
end VI
end
section
namespace VI
open PySem PySem.Spec PyProof.Rows L2
section
variable {prog : Program} {w : World} {A : Around} {E : Value → Shared → Prop} {s : Shared} {z TI TO i1 i2 T : Addr} {fp1 fp2 : List Addr} {n1 n2 i : Nat} {P1 P2 : Nat → Value → Prop} {St1 St2 : Nat → Heap → Prop} {f : Bool} {oT : Obj}
def ZipAt (h : Heap) (z TI TO i1 i2 : Addr) : Prop := (IsZip h z TI TO .none ∧ ∃ a b, IsTupOf2 h TO a b) ∨ ∃ T f oT, IsZipHeld h z TI TO T f ∧ h.get? T = some oT ∧ T ≠ z ∧ T ≠ i1 ∧ T ≠ i2 ∧ ∃ x y, oT = { cls := .type "tuple", data := .seq #[x, y] }
theorem ZipAt.keep {h h' : Heap} {z TI TO L i1 i2 : Addr} {o1 : Obj} {its : Array Value} {m : Nat} (x : ZipAt h z TI TO i1 i2) (hl : h.get? L = some o1) (h1 : o1.cls = .type "list") (k : ∀ b o, b ≠ L → h.get? b = some o → h'.get? b = some o) : ZipAt h' z TI TO i1 i2 := by
  have ne : ∀ {b o}, h.get? b = some o → o.cls ≠ .type "list" → b ≠ L := fun e n q => by subst q; rw [hl] at e; cases e; exact n h1
  rcases x with ⟨z1, a, b, t⟩ | ⟨T, f, oT, z1, t, n1, n2, n3, x, y, rfl⟩
  · exact .inl ⟨k _ _ (ne z1 (fun q => by injection q with q; exact absurd q (by decide))) z1, a, b, k _ _ (ne t (fun q => by injection q with q; exact absurd q (by decide))) t⟩
  · exact .inr ⟨T, f, _, k _ _ (ne z1 (fun q => by injection q with q; exact absurd q (by decide))) z1, k _ _ (ne t (fun q => by injection q with q; exact absurd q (by decide))) t, n1, n2, n3, x, y, rfl⟩
end
structure LZ (H H' : Hp) (L : Addr) (xs ys vs : List V) (n : Nat) : Prop where
  ext : ∀ a o, H a = some o → H' a = some o
  no : H L = none
  at_ : H' L = some (.lst vs)
  len : vs.length = n
  item : ∀ j, j < n → ∃ a x y, vs[j]? = some (.ref a) ∧ H a = none ∧ xs[j]? = some x ∧ ys[j]? = some y ∧ H' a = some (.tup [x, y])
section
variable {X : Cx} {pins : List (Addr × Obj)} {σ : Sg} {z TI TO i1 i2 L : Addr} {fp1 fp2 : List Addr} {us1 us2 : List Value} {St1 St2 : Nat → Heap → Prop} {xs ys : List V} {H0 : Hp} {A : Around} {R : Result → Shared → Prop}
end
section
variable {X : Cx} {T : Tb} {W : WX} {μ μ' : Mu} {H H' : Hp} {h : Bs} {σ : Sg} {ρ : Ev}
theorem Stp.ext (e : ∀ a o, H a = some o → H' a = some o) : Stp μ H μ H' := ⟨rfl, fun _ _ z => z, rfl, fun _ z => z, fun _ z => .inl z, fun a o z _ => e a o z, fun _ z => .inl z⟩
theorem Rel.ext (r : Rel T μ h H) (e : ∀ a o, H a = some o → H' a = some o) : Rel T μ h H' where
  fb := r.fb
  prh := fun a ha => ⟨let ⟨xs, z, nt⟩ := (r.prh a ha).1; ⟨xs, e _ _ z, nt⟩, (r.prh a ha).2⟩
  lks := r.lks
  lkf := r.lkf
  len := r.len
  nd := r.nd
  at_ := fun i b a h1 h2 => by
    have z := r.at_ i b a h1 h2
    cases b with
    | lst lk xs => obtain ⟨vs, z1, z2⟩ := z; exact ⟨vs, e _ _ z1, Reps.step (Stp.ext e) _ _ z2⟩
    | dct lk ks xs =>
      obtain ⟨vs, z1, z2, z3⟩ := z
      refine ⟨vs, ?_, z2, Reps.step (Stp.ext e) _ _ z3⟩
      cases lk with
      | false => have z1 : H a = some (kvO ks vs) := by simpa using z1
                 simpa using e _ _ z1
      | true =>
        obtain ⟨o, z1⟩ : ∃ o, H a = some (.frz o (kvO ks vs)) := by simpa using z1
        simpa using ⟨o, e _ _ z1⟩
    | dfz ks xs => obtain ⟨o, vs, z1, z2, z3⟩ := z; exact ⟨o, vs, e _ _ z1, z2, Reps.step (Stp.ext e) _ _ z3⟩
    | obj c fs xs => obtain ⟨C, dx, vs, z1, z2, z3, z4⟩ := z; exact ⟨C, dx, vs, z1, e _ _ z2, z3, Reps.step (Stp.ext e) _ _ z4⟩
    | tbl t => obtain ⟨a1, ps, z1, z2, z3⟩ := z; exact ⟨a1, ps, e _ _ z1, z2, fun pos cv q => by obtain ⟨c, f1, f2, f3⟩ := z3 pos cv q; exact ⟨c, f1, e _ _ f2, f3⟩⟩
  lo := r.lo
  ord := r.ord
  wf := r.wf
end
section
variable {Z : Cfg} {t : Tx} {k : Nat} {N : List Str} {sc : Scope} {raw : Option Scope} {X : Cx} {W : WX} {pos p p2 pos2 : Pos} {a b : Expr} {sa : SA}
end
end VI
end
section
namespace VI
open PySem PySem.Spec PyProof.Rows L2
mutual
def beqD : D → D → Bool
  | .non, .non => true
  | .bl a, .bl b => a == b
  | .int a, .int b => decide (a = b)
  | .tup a, .tup b => beqDs a b
  | .tpl a, .tpl b => beqDs a b
  | .lst a, .lst b => beqDs a b
  | _, _ => false
def beqDs : List D → List D → Bool
  | [], [] => true
  | x :: xs, y :: ys => beqD x y && beqDs xs ys
  | _, _ => false
end
mutual
theorem beqD_eq : ∀ (d e : D), beqD d e = true → d = e
  | .non, e, h => by cases e <;> simp [beqD] at h ⊢
  | .bl a, e, h => by cases e <;> simp [beqD] at h ⊢; exact h
  | .int a, e, h => by cases e <;> simp [beqD] at h ⊢; exact h
  | .str a, e, h => by cases e <;> simp [beqD] at h
  | .tup a, e, h => by
    cases e <;> simp only [beqD] at h <;> first | (cases h; done) | rw [beqDs_eq _ _ h]
  | .tpl a, e, h => by
    cases e <;> simp only [beqD] at h <;> first | (cases h; done) | rw [beqDs_eq _ _ h]
  | .lst a, e, h => by
    cases e <;> simp only [beqD] at h <;> first | (cases h; done) | rw [beqDs_eq _ _ h]
  | .dct a b, e, h => by cases e <;> simp [beqD] at h
  | .obj a b c, e, h => by cases e <;> simp [beqD] at h
  | .exo a b c, e, h => by cases e <;> simp [beqD] at h
  | .ref a, e, h => by cases e <;> simp [beqD] at h
  | .scr a, e, h => by cases e <;> simp [beqD] at h
theorem beqDs_eq : ∀ (d e : List D), beqDs d e = true → d = e
  | [], [], _ => rfl
  | x :: xs, y :: ys, h => by
    simp only [beqDs, Bool.and_eq_true] at h
    rw [beqD_eq _ _ h.1, beqDs_eq _ _ h.2]
  | [], _ :: _, h => by simp [beqDs] at h
  | _ :: _, [], h => by simp [beqDs] at h
end
abbrev Kd := D × PyData
def leK (p q : Kd) : Bool := !W.dataLt q.2 p.2
theorem leK_trans (p q r : Kd) (h1 : leK p q = true) (h2 : leK q r = true) : leK p r = true := by
  unfold leK W.dataLt at *
  simp only [Bool.not_eq_true'] at *
  cases e : lexLt itemOrd (W.keyToks r.2) (W.keyToks p.2) with
  | false => rfl
  | true =>
    exfalso
    cases e2 : lexLt itemOrd (W.keyToks p.2) (W.keyToks q.2) with
    | true => have := lex_trans _ _ _ e e2; rw [h2] at this; cases this
    | false => rw [lex_total _ _ e2 h1] at e; rw [h2] at e; cases e
theorem leK_total (p q : Kd) : (leK p q || leK q p) = true := by
  unfold leK W.dataLt
  cases e : lexLt itemOrd (W.keyToks q.2) (W.keyToks p.2) with
  | false => rfl
  | true =>
    cases e2 : lexLt itemOrd (W.keyToks p.2) (W.keyToks q.2) with
    | false => rfl
    | true => have := lex_trans _ _ _ e e2; rw [lex_irrefl] at this; cases this
theorem leK_anti {p q : Kd} (h1 : leK p q = true) (h2 : leK q p = true) : W.keyToks p.2 = W.keyToks q.2 := by
  unfold leK W.dataLt at h1 h2
  simp only [Bool.not_eq_true'] at h1 h2
  exact lex_total _ _ h2 h1
def insK (p : Kd) : List Kd → List Kd
  | [] => [p]
  | q :: qs => if W.dataLt q.2 p.2 then q :: insK p qs else p :: q :: qs
def srtK : List Kd → List Kd
  | [] => []
  | p :: ps => insK p (srtK ps)
theorem insK_perm (p : Kd) : ∀ qs, (insK p qs).Perm (p :: qs)
  | [] => .refl _
  | q :: qs => by
    simp only [insK]
    split
    · exact ((insK_perm p qs).cons q).trans (.swap _ _ _)
    · exact .refl _
theorem srtK_perm : ∀ ps, (srtK ps).Perm ps
  | [] => .refl _
  | p :: ps => (insK_perm p (srtK ps)).trans ((srtK_perm ps).cons p)
theorem insK_sorted (p : Kd) : ∀ qs : List Kd, qs.Pairwise (fun a b => leK a b = true) → (insK p qs).Pairwise (fun a b => leK a b = true)
  | [], _ => by simp [insK]
  | q :: qs, h => by
    have h' := List.pairwise_cons.mp h
    simp only [insK]
    split
    · rename_i hq
      refine List.pairwise_cons.mpr ⟨fun a ha => ?_, insK_sorted p qs h'.2⟩
      rcases List.mem_cons.mp ((insK_perm p qs).mem_iff.mp ha) with z | z
      · subst z
        have := leK_total q a
        have e : leK a q = false := by unfold leK; rw [hq]; rfl
        rw [e, Bool.or_false] at this
        exact this
      · exact h'.1 a z
    · rename_i hq
      have e : leK p q = true := by unfold leK; simpa using hq
      refine List.pairwise_cons.mpr ⟨fun a ha => ?_, h⟩
      rcases List.mem_cons.mp ha with z | z
      · rw [z]; exact e
      · exact leK_trans _ _ _ e (h'.1 a z)
theorem srtK_sorted : ∀ ps, (srtK ps).Pairwise (fun a b => leK a b = true)
  | [] => .nil
  | p :: ps => insK_sorted p _ (srtK_sorted ps)
def adjOk : List Kd → Bool
  | p :: q :: r => (W.dataLt p.2 q.2 || beqD p.1 q.1) && adjOk (q :: r)
  | _ => true
theorem adjOk_same : ∀ {l : List Kd}, l.Pairwise (fun a b => leK a b = true) → adjOk l = true → ∀ p ∈ l, ∀ q ∈ l, W.keyToks p.2 = W.keyToks q.2 → p.1 = q.1
  | [], _, _, p, hp, _, _, _ => by cases hp
  | [a], _, _, p, hp, q, hq, _ => by rw [List.mem_singleton.mp hp, List.mem_singleton.mp hq]
  | a :: b :: r, hs, ho, p, hp, q, hq, e => by
    have hs' := List.pairwise_cons.mp hs
    simp only [adjOk, Bool.and_eq_true, Bool.or_eq_true] at ho
    have ih := adjOk_same hs'.2 ho.2
    have key : ∀ x ∈ b :: r, W.keyToks a.2 = W.keyToks x.2 → a.1 = x.1 := by
      intro x hx ex
      have hab := hs'.1 b List.mem_cons_self
      have hbx : leK b x = true := by
        rcases List.mem_cons.mp hx with z | z
        · subst z; exact Bool.or_self (leK x x) ▸ leK_total x x
        · exact (List.pairwise_cons.mp hs'.2).1 x z
      have hba : leK b a = true := by
        have : leK b a = leK b x := by unfold leK W.dataLt; rw [ex]
        rw [this]; exact hbx
      have e1 : W.keyToks a.2 = W.keyToks b.2 := leK_anti hab hba
      have e2 : a.1 = b.1 := by
        rcases ho.1 with z | z
        · unfold W.dataLt at z; rw [e1, lex_irrefl] at z; cases z
        · exact beqD_eq _ _ z
      rw [e2]
      exact ih b List.mem_cons_self x hx (e1.symm.trans ex)
    rcases List.mem_cons.mp hp with z | z
    · rcases List.mem_cons.mp hq with y | y
      · rw [z, y]
      · rw [z]; rw [z] at e; exact key q y e
    · rcases List.mem_cons.mp hq with y | y
      · rw [y]; rw [y] at e; exact (key p z e.symm).symm
      · exact ih p z q y e
theorem sort_uniq {A B : List Kd} (hp : A.Perm B) (ha : A.Pairwise (fun a b => leK a b = true)) (hb : B.Pairwise (fun a b => leK a b = true)) (hs : ∀ p ∈ B, ∀ q ∈ B, W.keyToks p.2 = W.keyToks q.2 → p.1 = q.1) : A.map (·.1) = B.map (·.1) := by
  have ek : A.map (fun p => W.keyToks p.2) = B.map (fun p => W.keyToks p.2) := by
    refine List.Perm.eq_of_pairwise (le := fun x y => lexLt itemOrd y x = false) (fun a b _ _ h1 h2 => lex_total _ _ h2 h1) ?_ ?_ (hp.map _)
    · rw [List.pairwise_map]; exact ha.imp fun h => by unfold leK W.dataLt at h; simpa using h
    · rw [List.pairwise_map]; exact hb.imp fun h => by unfold leK W.dataLt at h; simpa using h
  apply List.ext_getElem?
  intro j
  have ej : (A.map fun p => W.keyToks p.2)[j]? = (B.map fun p => W.keyToks p.2)[j]? := by rw [ek]
  rw [List.getElem?_map, List.getElem?_map] at ej ⊢
  cases qa : A[j]? with
  | none =>
    rw [qa] at ej
    cases qb : B[j]? with
    | none => rfl
    | some b => rw [qb] at ej; cases ej
  | some a =>
    rw [qa] at ej
    cases qb : B[j]? with
    | none => rw [qb] at ej; cases ej
    | some b =>
      rw [qb] at ej
      have := hs a (hp.mem_iff.mp (List.mem_of_getElem? qa)) b (List.mem_of_getElem? qb) (Option.some.inj ej)
      show some a.1 = some b.1
      rw [this]
section
variable {prog : Program} {w : World} {A : Around} {E : Value → Shared → Prop} {s : Shared}
theorem collect_tup {l : Addr} {vs : List Value} {Q : List Value → Shared → Prop} (hl : IsTup s.heap l vs.toArray)
    (h : Q vs { s with heap := (s.heap.push (seqObj "list" #[] 0)).update s.heap.objs.size (Obj.mapSeq (· ++ vs.toArray)) }) (hz : vs.length ≤ sizeLine) :
    wpAny (model prog w) A (collect (.ref l)) Q E s := by
  obtain ⟨o, ho, hc, n, hd⟩ := id hl
  have e0 : (s.heap.push (seqObj "list" #[] 0)).get? s.heap.objs.size = some (seqObj "list" #[] 0) := Heap.get?_push_size _ rfl
  have e1 : (s.heap.push (seqObj "list" #[] 0)).get? l = some o := Heap.get?_push_of_some _ ho
  unfold collect
  refine wpAny_bind (wpAny_runValue (codeAny_builtin entry_proto_collect' (wpAny_bind (m := newList []) (wpAny_newList (wpAny_pure ⟨Code.quiet_builtin _ (by decide +kernel), codeAny_builtin entry_list_iadd' ?_⟩)))))
  refine (show wpAny _ _ (Builtin.List.listExtendWith (.ref s.heap.objs.size) (.ref l) (.ref s.heap.objs.size)) _ _ { s with heap := s.heap.push (seqObj "list" #[] 0) } from ?_)
  unfold Builtin.List.listExtendWith
  refine wpAny_bind (wpAny_typeOf (T := "tuple") ⟨o, e1, hc⟩ ?_)
  rw [if_pos (by simp)]
  refine wpAny_bind (listItems_at e1 hd (wpAny_bind (listItems_at (xs := #[]) (n := 0) e0 rfl ?_)))
  rw [if_neg (by simp)]
  refine wpAny_bind (listUpdate_at (xs := #[]) (n := 0) e0 rfl (wpAny_pure ?_) (Nat.zero_le _) (by show (#[] ++ vs.toArray).size ≤ sizeLine + 1; simp only [Array.size_append, List.size_toArray, List.length_nil]; omega))
  refine wpAny_bind (m := load s.heap.objs.size) (wpAny_load (get?_update_seq e0 _) ?_)
  refine (show wpAny _ _ (pure ((#[] : Array Value) ++ vs.toArray).toList) Q E _ from ?_)
  rw [show ((#[] : Array Value) ++ vs.toArray).toList = vs by simp]
  exact wpAny_pure h
end
inductive Pat where
  | i
  | seq (p : Pat)
  | two (p q : Pat)
def fits : Pat → PyData → Bool
  | .i, .int _ => true
  | .seq p, .tuple xs => xs.all (fits p)
  | .two p q, .tuple [x, y] => fits p x && fits q y
  | _, _ => false
theorem fits_all {p : Pat} (ih : ∀ a b, fits p a = true → fits p b = true → W.alike a b = true) : ∀ xs ys : List PyData, xs.all (fits p) = true → ys.all (fits p) = true → W.alikeAll xs ys = true
  | [], _, _, _ => by simp [W.alikeAll]
  | _ :: _, [], _, _ => by simp [W.alikeAll]
  | x :: xs, y :: ys, h1, h2 => by
    simp only [List.all_cons, Bool.and_eq_true] at h1 h2
    simp only [W.alikeAll, ih x y h1.1 h2.1, fits_all ih xs ys h1.2 h2.2, Bool.and_self]
theorem fits_alike : ∀ (p : Pat) (a b : PyData), fits p a = true → fits p b = true → W.alike a b = true
  | .i, a, b, h1, h2 => by
    cases a <;> cases b <;> simp [fits] at h1 h2
    simp [W.alike]
  | .seq p, a, b, h1, h2 => by
    cases a <;> cases b <;> simp only [fits] at h1 h2 <;> first | (cases h1; done) | (cases h2; done) | skip
    simp only [W.alike]
    exact fits_all (fits_alike p) _ _ h1 h2
  | .two p q, a, b, h1, h2 => by
    unfold fits at h1 h2
    split at h1 <;> first | (cases h1; done) | skip
    all_goals (split at h2 <;> first | (cases h2; done) | skip)
    all_goals simp_all
    rename_i e1 e2
    obtain ⟨rfl, rfl⟩ := e1
    obtain ⟨rfl, rfl⟩ := e2
    simp [W.alike, W.alikeAll, fits_alike p _ _ h1.1 h2.1, fits_alike q _ _ h1.2 h2.2]
def isT1 : PyData → Bool
  | .tuple (_ :: _) => true
  | _ => false
def isI1 : PyData → Bool
  | .int _ => true
  | _ => false
def pats : List Pat := [.i, .seq .i, .two (.seq .i) .i, .seq (.two (.seq .i) .i), .two .i (.seq .i), .two .i .i]
def canSort (ps : List PyData) : Bool := (pats.any fun p => ps.all (fits p)) && (ps.all isT1 || ps.all isI1)
theorem canSort_ok {ps : List PyData} (h : canSort ps = true) : W.AllAlike ps ∧ W.Sortable ps := by
  unfold canSort at h
  simp only [Bool.and_eq_true, Bool.or_eq_true] at h
  obtain ⟨h1, h2⟩ := h
  obtain ⟨p, _, hp⟩ := List.any_eq_true.mp h1
  refine ⟨fun d hd e he => fits_alike p d e (List.all_eq_true.mp hp d hd) (List.all_eq_true.mp hp e he), ?_⟩
  rcases h2 with h2 | h2
  · refine .inl fun d hd => ?_
    have := List.all_eq_true.mp h2 d hd
    unfold isT1 at this
    split at this
    · exact ⟨_, _, rfl⟩
    · cases this
  · refine .inr fun d hd => ?_
    have := List.all_eq_true.mp h2 d hd
    unfold isI1 at this
    split at this
    · exact ⟨(fun z => by cases z), (fun _ z => by cases z)⟩
    · cases this
section
variable {X : Cx} {T : Tb} {WW : WX} {μ μ' : Mu} {H H' : Hp} {h : Bs} {σ : Sg} {ρ : Ev} {pins : List (Addr × Obj)} {s : Shared}
abbrev Tr := V × D × PyData
theorem tri_of {n : Nat} (hK : X.K = T.K) (I : Inv X pins σ H s) (r : Rel T μ h H) : ∀ {xs : List D} {vs : List V} {ps : List PyData} {its : List Value}, Reps T μ H xs vs → mapO (py n h) xs = some ps → Vals vs its →
    ∃ bs : List Tr, W.EachIs (fun v b => RelV b.1 v) its bs ∧ W.EachIs (fun v b => ∃ as, Reads s.heap v b.2.2 as) its bs ∧ bs.map (·.2) = xs.zip ps ∧ (bs.map fun b => b.2.2) = ps ∧ ∀ b ∈ bs, Rep T μ H b.2.1 b.1 ∧ b.2.2.depth ≤ n
  | [], vs, ps, its, q, e, rv => by
    simp only [Reps] at q
    subst q
    cases rv
    simp only [mapO] at e
    cases e
    exact ⟨[], .nil, .nil, rfl, rfl, fun _ z => by cases z⟩
  | x :: xs, vs, ps, its, q, e, rv => by
    simp only [Reps] at q
    obtain ⟨v, vr, rfl, q1, q2⟩ := q
    obtain ⟨y, ys, e1, e2, rfl⟩ := mapO_some e
    cases rv with
    | cons r1 rr =>
      rename_i u us
      obtain ⟨bs, g1, g2, g3, g4, g5⟩ := tri_of hK I r q2 e2 rr
      have k := py_ok r n x v y q1 e1
      obtain ⟨as, rd⟩ := Dp.reads I y v u (by rw [hK]; exact k.1) r1
      refine ⟨(v, x, y) :: bs, .cons r1 g1, .cons ⟨as, rd⟩ g2, by simp [g3], by simp [g4], fun b hb => ?_⟩
      rcases List.mem_cons.mp hb with z | z
      · subst z; exact ⟨q1, k.2.1⟩
      · exact g5 b z
theorem each_vals : ∀ {its : List Value} {bs : List Tr}, W.EachIs (fun v (b : Tr) => RelV b.1 v) its bs → Vals (bs.map (·.1)) its
  | _, _, .nil => .nil
  | _, _, .cons h t => .cons h (each_vals t)
theorem reps_tri : ∀ {bs : List Tr}, (∀ b ∈ bs, Rep T μ H b.2.1 b.1) → Reps T μ H (bs.map fun b => b.2.1) (bs.map (·.1))
  | [], _ => .nil
  | b :: bs, h => .cons (h b List.mem_cons_self) (reps_tri fun c hc => h c (List.mem_cons_of_mem _ hc))
def sortS (bx : Bool) (ds : List D) (h : Bs) : R D := match ds with
  | [d] => (match seqOf h d with
    | some xs => (match mapO (py pyN h) xs with
      | some ps => if canSort ps && adjOk (srtK (xs.zip ps)) then newL bx ((srtK (xs.zip ps)).map (·.1)) h else .no
      | none => .no)
    | none => .no)
  | _ => .no
theorem sortS_calm {bx : Bool} {ds : List D} : Calm (sortS bx ds h) := by
  unfold sortS
  repeat' split
  · exact newL_calm
  all_goals (intro x h' z; cases z)
theorem cv_sortS {bx : Bool} (hK : X.K = T.K) (hu : X.A.units + 65 < cLine) : CallR X (.builtin "sorted") (rDn T (sortS bx)) := by
  intro pins s σ H xs us Q I rs ⟨μ, h, ds, r, rd, o⟩
  unfold sortS at o
  split at o
  · rename_i d
    obtain ⟨v, rfl, rv⟩ := rd.is1
    obtain ⟨u, rfl, ru⟩ := rs.one
    split at o
    · rename_i ys hy
      split at o
      · rename_i ps hp
        split at o
        · rename_i hc
          simp only [Bool.and_eq_true] at hc
          obtain ⟨a, vs, rfl, e2, e3⟩ := r.seqOf rv hy
          cases ru
          obtain ⟨al, so⟩ := canSort_ok hc.1
          have fin : ∀ (its : List Value), Vals vs its → vs.length ≤ sizeLine → ∃ bs : List Tr, W.EachIs (fun v b => RelV b.1 v) its bs ∧ W.EachIs (fun v b => ∃ as, Reads s.heap v b.2.2 as) its bs ∧ (bs.map fun b => b.2.2) = ps ∧ bs.length ≤ sizeLine ∧ (∀ b ∈ bs, X.A.units + 2 + b.2.2.depth < cLine) ∧
              ∀ out, out.length = bs.length → W.EachIs (fun v (b : Tr) => RelV b.1 v) out (bs.mergeSort (W.dataLe false fun b => b.2.2)) → EP X pins σ Q (.ref (s.heap.objs.size + 1)) { s with heap := sortedAll s.heap its (List.toArray out) } := by
            intro its rvv hz
            obtain ⟨bs, g1, g2, g3, g4, g5⟩ := tri_of hK I r e3 hp rvv
            have hl : bs.length = vs.length := by rw [rvv.length, g1.length]
            refine ⟨bs, g1, g2, g4, by rw [hl]; exact hz, fun b hb => ?_, fun out ho ge => ?_⟩
            · have := (g5 b hb).2
              show X.A.units + 2 + b.2.2.depth < cLine
              have : b.2.2.depth ≤ 12 := this
              omega
            · have sp : (bs.mergeSort (W.dataLe false fun b => b.2.2)).Perm bs := List.mergeSort_perm _ _
              have le_eq : ∀ a b : Tr, W.dataLe false (fun b : Tr => b.2.2) a b = leK a.2 b.2 := fun a b => rfl
              have ss : ((bs.mergeSort (W.dataLe false fun b => b.2.2)).map (·.2)).Pairwise (fun a b => leK a b = true) := by
                rw [List.pairwise_map]
                exact List.pairwise_mergeSort (le := W.dataLe false fun b : Tr => b.2.2) (fun a b c h1 h2 => leK_trans _ _ _ h1 h2) (fun a b => leK_total _ _) bs
              have eq : (bs.mergeSort (W.dataLe false fun b => b.2.2)).map (fun b => b.2.1) = (srtK (ys.zip ps)).map (·.1) := by
                have := sort_uniq (A := (bs.mergeSort (W.dataLe false fun b => b.2.2)).map (·.2)) (B := srtK (ys.zip ps)) (by rw [← g3]; exact (sp.map _).trans (srtK_perm _).symm) ss (srtK_sorted _) (adjOk_same (srtK_sorted _) hc.2)
                rw [List.map_map] at this
                exact this
              have rq : Reps T μ H ((srtK (ys.zip ps)).map (·.1)) ((bs.mergeSort (W.dataLe false fun b => b.2.2)).map (·.1)) := by
                rw [← eq]
                exact reps_tri fun b hb => (g5 b (sp.mem_iff.mp hb)).1
              obtain ⟨z1, z2⟩ := newL_ok r rq o
              obtain ⟨e, he⟩ := sortedAll_at s.heap its (List.toArray out)
              exact ⟨.ref (s.heap.objs.size + 1), _, I.laid (t' := s.toks) (o := .lst ((bs.mergeSort (W.dataLe false fun b => b.2.2)).map (·.1))) (fun b o => sortedAll_old) (Nat.le_succ _) ⟨z1, out, e, each_vals ge, he⟩, rfl, z2 _ (I.hok.fresh (Nat.le_succ _))⟩
          rcases e2 with e2 | e2
          · obtain ⟨its, rvv, pt, hz⟩ := I.tuple (by rw [hK]; exact e2)
            obtain ⟨bs, g1, g2, g4, g6, g7, k⟩ := fin its rvv hz
            have hLn : its.length ≤ sizeLine := by rw [← rvv.length]; exact hz
            refine call_function_entry_kw (kw := []) kind_sorted plain_sorted entry_sorted (args_sorted1 _) ?_
            unfold Builtin.«sorted»
            refine wpAny_bind (m := checkCount "sorted" 1 1 _) (wpAny_pure (wpAny_bind (collect_tup pt (wpAny_bind (wpAny_newList ?_ hLn)) hLn)))
            have hsz : ((s.heap.push (seqObj "list" #[] 0)).update s.heap.objs.size (Obj.mapSeq (· ++ its.toArray))).objs.size = s.heap.objs.size + 1 := by
              rw [Heap.size_update, size_push']
            refine (show wpAny _ _ _ _ _ { s with heap := W.copyHeap s.heap its } from ?_)
            rw [hsz]
            have al' : W.AllAlike (bs.map fun b => b.2.2) := by rw [g4]; exact al
            have so' : W.Sortable (bs.map fun b => b.2.2) := by rw [g4]; exact so
            have er' : W.EachIs (fun v (b : Tr) => ∃ as, Reads (W.sortingHeap (W.copyHeap s.heap its) (s.heap.objs.size + 1) its) v b.2.2 as) its bs := g2.mono fun _ _ ⟨as, q⟩ => ⟨as, PyProof.Rows.Reads.keeps (fun _ _ => W.sorting_copy_old) q⟩
            refine wpAny_bind (wpAny_holding (wpAny_call_entry_kw slot_list_sort ⟨_, W.copyHeap_at s.heap its, rfl⟩ entry_list_sort (wpAny_mono (W.list_sort_vals (P := fun f s' => f = .done (.ret .none) ∧ EP X pins σ Q (.ref (s.heap.objs.size + 1)) s') (s := { s with heap := W.copyHeap s.heap its }) (W.copyHeap_at s.heap its)
              (W.SortsAt.data (s := { s with heap := W.sortingHeap (W.copyHeap s.heap its) (s.heap.objs.size + 1) its }) (W.each_map (R := fun v d => ∃ as, Reads (W.sortingHeap (W.copyHeap s.heap its) (s.heap.objs.size + 1) its) v d as) (fun b : Tr => b.2.2) er') al' so' (W.bound_map g7)) hLn ⟨rfl, k _ (by rw [W.sortVals_length false rfl]; exact g1.length) (W.sortVals_data false g1 er' al')⟩) (fun f s' hf => ?_) fun _ _ e => e) (args_list_sort _)))
            obtain ⟨rfl, hq⟩ := hf
            exact ⟨_, rfl, wpAny_pure ⟨_, rfl, hq⟩⟩
          · obtain ⟨its, rvv, pl, hz⟩ := I.list (by rw [hK]; exact e2)
            obtain ⟨bs, g1, g2, g4, g6, g7, k⟩ := fin its rvv hz
            exact W.sorted_data (enc := fun b : Tr => b.2.2) pl.isList g1 g2 (by rw [g4]; exact al) (by rw [g4]; exact so) g6 g7 k
        · exact o.elim
      · exact o.elim
    · exact o.elim
  · exact o.elim
end
theorem minD_mem : ∀ (xs : List PyData) (x : PyData), W.minD x xs ∈ x :: xs
  | [], x => List.mem_cons_self
  | y :: ys, x => by
    unfold W.minD
    rw [List.foldl_cons]
    have := minD_mem ys (if W.dataLt y x then y else x)
    unfold W.minD at this
    split
    · rename_i h
      rw [if_pos h] at this
      rcases List.mem_cons.mp this with z | z
      · rw [z]; exact List.mem_cons_of_mem _ List.mem_cons_self
      · exact List.mem_cons_of_mem _ (List.mem_cons_of_mem _ z)
    · rename_i h
      rw [if_neg h] at this
      rcases List.mem_cons.mp this with z | z
      · rw [z]; exact List.mem_cons_self
      · exact List.mem_cons_of_mem _ (List.mem_cons_of_mem _ z)
section
variable {X : Cx} {T : Tb} {μ μ' : Mu} {H H' : Hp} {h : Bs} {σ : Sg} {ρ : Ev}
def minS (ds : List D) (h : Bs) : R D := match ds with
  | [d] => (match lstOf h d with
    | some (x :: xs) => (match mapO (py pyN h) (x :: xs) with
      | some (p :: ps) => if canSort (p :: ps) then (match ((x :: xs).zip (p :: ps)).find? fun z => PyData.eqv z.2 (W.minD p ps) with
        | some z => if ((x :: xs).zip (p :: ps)).all fun y => !PyData.eqv y.2 (W.minD p ps) || beqD y.1 z.1 then .ok z.1 h else .no
        | none => .no) else .no
      | _ => .no)
    | _ => .no)
  | _ => .no
theorem minS_calm {ds : List D} : Calm (minS ds h) := by
  unfold minS
  repeat' split
  all_goals (intro x h' z; cases z)
theorem mapO_get {α β : Type} {f : α → Option β} : ∀ {xs : List α} {ys : List β} {i : Nat} {x : α}, mapO f xs = some ys → xs[i]? = some x → ∃ y, ys[i]? = some y ∧ f x = some y
  | [], _, _, _, _, e => by simp at e
  | x :: xs, ys, 0, z, h, e => by
    obtain ⟨y, r, e1, e2, rfl⟩ := mapO_some h
    simp at e; subst e
    exact ⟨y, rfl, e1⟩
  | x :: xs, ys, i + 1, z, h, e => by
    obtain ⟨y, r, e1, e2, rfl⟩ := mapO_some h
    obtain ⟨w, g1, g2⟩ := mapO_get (i := i) e2 (by simpa using e)
    exact ⟨w, by simpa using g1, g2⟩
theorem cv_minS (hK : X.K = T.K) (hc : X.calm = true) (hu : X.A.units + 65 < cLine) : CallR X (.builtin "min") (rDn T minS) := by
  intro pins s σ H xs us Q I rs ⟨μ, h, ds, r, rd, o⟩
  unfold minS at o
  split at o
  · rename_i d
    obtain ⟨v, rfl, rv⟩ := rd.is1
    obtain ⟨u, rfl, ru⟩ := rs.one
    split at o
    · rename_i x ys hy
      split at o
      · rename_i p ps hp
        split at o
        · rename_i hcs
          split at o
          · rename_i z hz
            split at o
            · rename_i ha
              obtain ⟨a, vs, rfl, e2, e3⟩ := r.lstOf rv hy
              cases ru
              obtain ⟨al, so⟩ := canSort_ok hcs
              obtain ⟨its, rvv, pl, hz2⟩ := I.list (by rw [hK]; exact e2)
              obtain ⟨bs, g1, g2, g3, g4, g5⟩ := tri_of hK I r e3 hp rvv
              obtain ⟨as, ra⟩ := W.each_readsAll (fun b : Tr => b.2.2) g2
              rw [g4] at ra
              have nn : ∀ q ∈ p :: ps, q ≠ .none := fun q hq => by
                rcases so with so | so
                · obtain ⟨x, r, e⟩ := so q hq; rw [e]; exact fun z => by cases z
                · exact (so q hq).1
              have dep : PyData.depthAll (p :: ps) ≤ 12 := by
                have key : ∀ l : List PyData, (∀ q ∈ l, q.depth ≤ 12) → PyData.depthAll l ≤ 12 := by
                  intro l
                  induction l with
                  | nil => intro _; simp [PyData.depthAll]
                  | cons q l ih =>
                    intro hq
                    simp only [PyData.depthAll]
                    have h1 := hq q List.mem_cons_self
                    have h2 := ih fun y hy => hq y (List.mem_cons_of_mem _ hy)
                    omega
                refine key _ fun q hq => ?_
                rw [← g4] at hq
                obtain ⟨b, hb, rfl⟩ := List.mem_map.mp hq
                exact (g5 b hb).2
              refine W.min_list_data (I.ok.hd hc) pl.isList (by simpa using ra) ⟨fun x hx y hy => al x hx y hy, nn⟩ (by omega) fun i w h' tk bs' hi hr kp => ?_
              have hi' : its[i]? = some w := by simpa using hi
              have hlen : i < (x :: ys).length := by rw [e3.length, rvv.length]; exact (List.getElem?_eq_some_iff.mp hi').1
              have hx : (x :: ys)[i]? = some (x :: ys)[i] := List.getElem?_eq_getElem hlen
              obtain ⟨wv, ew, rw'⟩ := e3.get hx
              obtain ⟨w', ew', rel⟩ := rvv.get ew
              rw [hi'] at ew'; cases ew'
              obtain ⟨q, eq, epy⟩ := mapO_get hp hx
              have k := py_ok r _ _ _ _ rw' epy
              obtain ⟨cs, rd2⟩ := Dp.reads I q wv w (by rw [hK]; exact k.1) rel
              have hqm : q ∈ p :: ps := List.mem_of_getElem? eq
              have e0 : q = W.minD p ps := W.alike_unique _ _ _ _ _ (al _ hqm _ (minD_mem ps p)) (PyProof.Rows.Reads.keeps kp rd2) hr
              have hmem : ((x :: ys)[i], q) ∈ (x :: ys).zip (p :: ps) := by
                refine List.mem_of_getElem? (i := i) ?_
                rw [List.getElem?_zip_eq_some]
                exact ⟨hx, eq⟩
              have hb := List.all_eq_true.mp ha _ hmem
              simp only [Bool.or_eq_true, Bool.not_eq_true'] at hb
              have hD : (x :: ys)[i] = z.1 := by
                rcases hb with hb | hb
                · rw [e0, W.eqv_refl_alike _ (al _ (minD_mem ps p) _ (minD_mem ps p))] at hb; cases hb
                · exact beqD_eq _ _ hb
              rw [hD] at rw'
              exact ⟨wv, H, I.kept (t' := tk) kp, rel, o μ H wv Stp.refl r rw'⟩
            · exact o.elim
          · exact o.elim
        · exact o.elim
      · exact o.elim
    · exact o.elim
  · exact o.elim
def cmpS (pi : Int → Int → Bool) (pd : PyData → PyData → Bool) (d e : D) (h : Bs) : R D := match d, e with
  | .int i, .int j => .ok (.bl (pi i j)) h
  | _, _ => (match py pyN h d, py pyN h e with
    | some p, some q => if (pats.any fun t => fits t p && fits t q) then .ok (.bl (pd p q)) h else .no
    | _, _ => .no)
theorem cmpS_calm {pi : Int → Int → Bool} {pd : PyData → PyData → Bool} {d e : D} : Calm (cmpS pi pd d e h) := by
  unfold cmpS
  repeat' split
  all_goals (intro x h' z; cases z)
theorem ov_cmpS {op : CmpOp} {pi : Int → Int → Bool} {pd : PyData → PyData → Bool} (hK : X.K = T.K) (hu : X.A.units + 65 < cLine) (hop : OpR X (compareOp op) (rI0 fun i j => .bl (pi i j)))
    (hd : ∀ (A : Around) (E : Value → Shared → Prop) (s : Shared) (a b : Value) (da db : PyData) (as bs : List Addr) (Q : Value → Shared → Prop), Reads s.heap a da as → Reads s.heap b db bs → W.alike da db = true → da ≠ .none → A.units + min da.depth db.depth < cLine → Q (.bool (pd da db)) s → wpAny (model X.prog X.w) A (compareOp op a b) Q E s) :
    OpR X (compareOp op) (rD2 T (cmpS pi pd)) := by
  intro pins s σ H x y v u Q I rx ry ⟨μ, h, d, e, r, rd, re, o⟩
  unfold cmpS at o
  split at o
  · simp only [Rep] at rd re
    exact hop pins s σ H x y v u Q I rx ry ⟨_, _, rd, re, o μ H _ Stp.refl r (by simp only [Rep])⟩
  · split at o
    · rename_i p q hp hq
      split at o
      · rename_i hf
        obtain ⟨t, _, ht⟩ := List.any_eq_true.mp hf
        simp only [Bool.and_eq_true] at ht
        have k1 := py_ok r _ d x p rd hp
        have k2 := py_ok r _ e y q re hq
        obtain ⟨as, r1⟩ := Dp.reads I p x v (by rw [hK]; exact k1.1) rx
        obtain ⟨bs, r2⟩ := Dp.reads I q y u (by rw [hK]; exact k2.1) ry
        refine hd X.A X.xe s v u p q as bs _ r1 r2 (fits_alike t p q ht.1 ht.2) (fun z => ?_) (by have := k1.2.1; have : p.depth ≤ 12 := this; omega) ⟨.bl (pd p q), H, I, rfl, o μ H _ Stp.refl r (by simp only [Rep])⟩
        rw [z] at ht
        cases t <;> simp [fits] at ht
      · exact o.elim
    · exact o.elim
end
section
variable {Z : Cfg} {t : Tx} {k : Nat} {N : List Str} {sc : Scope} {raw : Option Scope} {X : Cx}
abbrev ltS := cmpS (fun i j => decide (i < j)) W.dataLt
abbrev leS := cmpS (fun i j => decide (i ≤ j)) (fun p q => !W.dataLt q p)
abbrev gtS := cmpS (fun i j => decide (j < i)) (fun p q => W.dataLt q p)
abbrev geS := cmpS (fun i j => decide (j ≤ i)) (fun p q => !W.dataLt p q)
theorem C_ltS : CF .Lt ltS := ⟨fun _ _ _ => cmpS_calm, fun h => ov_cmpS h.K h.units op_lt fun A E s a b da db as bs Q r1 r2 al nn hu q => W.lt_data r1 r2 al nn hu q⟩
theorem C_leS : CF .LtE leS := ⟨fun _ _ _ => cmpS_calm, fun h => ov_cmpS h.K h.units op_le fun A E s a b da db as bs Q r1 r2 al nn hu q => W.le_data r1 r2 al nn hu q⟩
theorem C_gtS : CF .Gt gtS := ⟨fun _ _ _ => cmpS_calm, fun h => ov_cmpS h.K h.units op_gt fun A E s a b da db as bs Q r1 r2 al nn hu q => W.gt_data r1 r2 al nn hu q⟩
def minDS (ds : List D) (h : Bs) : R D := match minD ds h with
  | .no => minS ds h
  | r => r
theorem B_minS : BF "min" "min" minDS := ⟨fun ds h x h' z => by
    unfold minDS at z
    cases q : minD ds h with
    | no => rw [q] at z; exact minS_calm x h' z
    | ok a b => rw [q] at z; cases z
    | ex a b => exact B_min.cf ds h a b q, by decide +kernel, fun {Z t k N sc raw X W} h => by
    intro pins s σ H xs us Q I rs ⟨μ, hh, ds, r, rd, o⟩
    unfold minDS at o
    cases q : minD ds hh with
    | no => rw [q] at o; exact cv_minS h.K h.calm h.units pins s σ H xs us Q I rs ⟨μ, hh, ds, r, rd, o⟩
    | ok a b => rw [q] at o; exact B_min.run h pins s σ H xs us Q I rs ⟨μ, hh, ds, r, rd, by rw [q]; exact o⟩
    | ex a b => exact absurd q (B_min.cf ds hh a b)⟩
def sortDS (bx : Bool) (ds : List D) (h : Bs) : R D := match sortedD bx ds h with
  | .no => sortS bx ds h
  | r => r
theorem B_sortDS {bx : Bool} : BF "sorted" "sorted" (sortDS bx) := ⟨fun ds h x h' z => by
    unfold sortDS at z
    cases q : sortedD bx ds h with
    | no => rw [q] at z; exact sortS_calm x h' z
    | ok a b => rw [q] at z; cases z
    | ex a b => exact B_sorted.cf ds h a b q, by decide +kernel, fun {Z t k N sc raw X W} h => by
    intro pins s σ H xs us Q I rs ⟨μ, hh, ds, r, rd, o⟩
    unfold sortDS at o
    cases q : sortedD bx ds hh with
    | no => rw [q] at o; exact cv_sortS h.K h.units pins s σ H xs us Q I rs ⟨μ, hh, ds, r, rd, o⟩
    | ok a b => rw [q] at o; exact B_sorted.run h pins s σ H xs us Q I rs ⟨μ, hh, ds, r, rd, by rw [q]; exact o⟩
    | ex a b => exact absurd q (B_sorted.cf ds hh a b)⟩
end
end VI
end
section
namespace VI
open PySem PySem.Spec PyProof.Rows L2
def ItzM (K : PySem.W.Frag) (a b : Addr) : It :=
  ⟨fun i H => ∃ (xs ys : List V) (x y : V), SqL K H a xs ∧ SqT K H b ys ∧ xs[i]? = some x ∧ ys[i]? = some y,
    fun i H v H' => ∃ T x y, v = .ref T ∧ H T = none ∧ H' = upd H T (.tup [x, y]) ∧ (∀ xs, SqL K H a xs → xs[i]? = some x) ∧ ∀ ys, SqT K H b ys → ys[i]? = some y,
    fun i H => ∃ xs ys : List V, SqL K H a xs ∧ SqT K H b ys ∧ i ≤ xs.length ∧ i ≤ ys.length ∧ (xs.length ≤ i ∨ ys.length ≤ i)⟩
theorem zsep {z TI TO i1 i2 a b : Addr} (D : ZipApart z TI TO i1 i2 a b) : ZipSep2 z TI TO i1 i2 [i1, a] [i2, b] where
  TIz := D.TIz
  TOz := D.TOz
  TITO := D.TITO
  TIi1 := D.TIi1
  mem1 := by simp
  zf1 := by simp [Ne.symm D.i1z, Ne.symm D.l1z]
  Tf1 := by simp [D.TOi1, Ne.symm D.l1TO]
  TIi2 := D.TIi2
  mem2 := by simp
  zf2 := by simp [Ne.symm D.i2z, Ne.symm D.l2z]
  Tf2 := by simp [D.TOi2, Ne.symm D.l2TO]
  sep1_2 := by simp [D.i12, Ne.symm D.l2i1]
  sep2_1 := by simp [Ne.symm D.i12, Ne.symm D.l1i2]
theorem turn_zipM {P : Program} {w : World} {K : PySem.W.Frag} {elts : List Expr} {kk : Nat} {tpos : Pos} {a b z TI TO i1 i2 : Addr} (D : ZipApart z TI TO i1 i2 a b) :
    Turn P w K (.Tuple elts kk tpos) (ItzM K a b) [z, TI, TO, i1, i2] z (fun i h => IsZip h z TI TO .none ∧ IsPair h TI (.ref i1) (.ref i2) ∧ (∃ x y, IsPair h TO x y) ∧ h.IsListIter i1 a i ∧ h.IsTupleIter i2 b i) where
  mem := by simp
  obj := fun i h st c hc => by
    obtain ⟨hz, hTI, ⟨x, y, hTO⟩, ⟨o1, e1, _, d1⟩, ⟨o2, e2, _, d2⟩⟩ := st
    have e' : c = z ∨ c = TI ∨ c = TO ∨ c = i1 ∨ c = i2 := by simpa using hc
    rcases e' with q | q | q | q | q
    · rw [q]; exact ⟨_, hz, fun v q => nomatch q⟩
    · rw [q]; exact ⟨_, hTI, fun v q => nomatch q⟩
    · rw [q]; exact ⟨_, hTO, fun v q => nomatch q⟩
    · rw [q]; exact ⟨o1, e1, fun v q => by rw [d1] at q; cases q⟩
    · rw [q]; exact ⟨o2, e2, fun v q => by rw [d2] at q; cases q⟩
  keep := fun i h h' st k => by
    obtain ⟨hz, hTI, ⟨x, y, hTO⟩, h1, h2⟩ := st
    exact ⟨k z (by simp) _ hz, k TI (by simp) _ hTI, ⟨x, y, k TO (by simp) _ hTO⟩, h1.at fun o q => k i1 (by simp) o q, h2.at fun o q => k i2 (by simp) o q⟩
  item := by
    intro X hP hw hK hc i pins s σ H E I hf st hg
    subst hP hw hK
    obtain ⟨hz, hTI, ⟨x0, y0, hTO⟩, h1, h2⟩ := st
    obtain ⟨xs, ys, x, y, hqx, hqy, hx, hy⟩ := hg
    obtain ⟨its, rv, p, _⟩ := I.list hqx
    obtain ⟨its2, rv2, p2, _⟩ := I.tuple hqy
    obtain ⟨u, hu, ru⟩ := rv.get hx
    obtain ⟨u2, hu2, ru2⟩ := rv2.get hy
    have hzl : z < s.heap.objs.size := Heap.lt_size hz
    have hh := I.ok.hd hc
    have hd1 := Draws.list (prog := X.prog) (w := X.w) (A := X.A.in1) hh i1 a D.l1i1 its.toArray
    have hd2 := Draws.tuple (prog := X.prog) (w := X.w) (A := X.A.in1) hh i2 b D.l2i2 its2.toArray
    refine wpAny_pyNext_zipD2_item (zsep D) hd1 hd2 hz hTI hTO ⟨h1, p.isList⟩ ⟨h2, p2⟩ (by
      have := (List.getElem?_eq_some_iff.mp hu).1
      simpa using this) (by
      have := (List.getElem?_eq_some_iff.mp hu2).1
      simpa using this) fun v1 v2 h' tk y1 y2 z' TO' r1 r2 hT hsz hk => ?_
    obtain ⟨h1', _⟩ := r1
    obtain ⟨h2', _⟩ := r2
    obtain rfl : v1 = u := by simpa [hu] using y1.symm
    obtain rfl : v2 = u2 := by simpa [hu2] using y2.symm
    refine ⟨_, rfl, wpAny_letOwnedTupleGo_zip (s := { s with heap := h', toks := tk }) z' fun h'' z'' sb => ?_⟩
    have hT2 : h''.get? s.heap.objs.size = some { cls := .type "tuple", data := .seq #[v1, v2] } := (sb.2 _ (Nat.ne_of_gt hzl)).trans hT
    have new : ObjOk X.prog X.w (upd H s.heap.objs.size (.tup [x, y])) h'' s.heap.objs.size (.tup [x, y]) :=
      ⟨by show 2 ≤ sizeLine; decide, [v1, v2], .cons ru (.cons ru2 .nil), ⟨_, hT2, rfl, _, rfl⟩⟩
    have I1 : Inv X pins σ (upd H s.heap.objs.size (.tup [x, y])) { s with heap := h'', toks := tk } :=
      I.turnedNew (t' := tk) (ch := [z, TI, TO, i1, i2]) (fun c o hb q => (sb.2 c (fun q' => hb (by simp [q']))).trans (hk c o (fun q' => hb (by simp [q'])) (fun q' => hb (by simp [q'])) (fun q' => hb (by simp [q'])) (fun q' => hb (by simp [q'])) q)) hf (Nat.le_refl _) new
    refine ⟨.ref s.heap.objs.size, _, I1, rfl, ⟨_, x, y, rfl, I.hok.fresh (Nat.le_refl _), rfl, fun l hl => by rw [I.list_inj hl hqx]; exact hx, fun l hl => by rw [I.tuple_inj hl hqy]; exact hy⟩, ⟨z'', ?_, ⟨v1, v2, ?_⟩, ?_, ?_⟩, fun c hcm => ?_⟩
    · exact (sb.2 _ D.TIz).trans (hk _ _ D.TIz D.TITO D.TIi1 D.TIi2 hTI)
    · exact (sb.2 _ D.TOz).trans TO'
    · exact h1'.at fun o q => (sb.2 _ D.i1z).trans q
    · exact h2'.at fun o q => (sb.2 _ D.i2z).trans q
    · have hlt : c < s.heap.objs.size := by
        have e' : c = z ∨ c = TI ∨ c = TO ∨ c = i1 ∨ c = i2 := by simpa using hcm
        rcases e' with q | q | q | q | q
        · rw [q]; exact hzl
        · rw [q]; exact Heap.lt_size hTI
        · rw [q]; exact Heap.lt_size hTO
        · rw [q]; obtain ⟨_, e1, _⟩ := h1; exact Heap.lt_size e1
        · rw [q]; obtain ⟨_, e2, _⟩ := h2; exact Heap.lt_size e2
      rw [upd_ne (Nat.ne_of_lt hlt)]
      exact (hf c hcm).1
  done := by
    intro X hP hw hK hc i pins s σ H E I hf st hg
    subst hP hw hK
    obtain ⟨hz, hTI, ⟨x0, y0, hTO⟩, h1, h2⟩ := st
    obtain ⟨xs, ys, hqx, hqy, b1, b2, hend⟩ := hg
    obtain ⟨its, rv, p, _⟩ := I.list hqx
    obtain ⟨its2, rv2, p2, _⟩ := I.tuple hqy
    have l1 := rv.length
    have l2 := rv2.length
    have hh := I.ok.hd hc
    have hd1 := Draws.list (prog := X.prog) (w := X.w) (A := X.A.in1) hh i1 a D.l1i1 its.toArray
    have hd2 := Draws.tuple (prog := X.prog) (w := X.w) (A := X.A.in1) hh i2 b D.l2i2 its2.toArray
    exact wpAny_pyNext_zipD2_end (zsep D) hd1 hd2 hz hTI hTO ⟨h1, p.isList⟩ ⟨h2, p2⟩ (by simp; omega) (by simp; omega) (by simp; omega) fun h' tk hk => ⟨rfl, I.turnedL (t' := tk) (ch := [z, TI, TO, i1, i2]) (fun c o hb q =>
      hk c o (fun q' => hb (by simp [q'])) (fun q' => hb (by simp [q'])) (fun q' => hb (by simp [q'])) (fun q' => hb (by simp [q'])) q) hf⟩
  self := fun A i s Q E st h => wpAny_pyIter_zip st.1 h
def iZipM (K : PySem.W.Frag) (ta : TA) : TI := fun σ H R => ta σ H fun vs H1 => ∃ a b xs ys, vs = [.ref a, .ref b] ∧ SqL K H1 a xs ∧ SqT K H1 b ys ∧ R (ItzM K a b) H1
theorem pi_zipM {X : Cx} {e e2 : Expr} {ta : TA} {p pos tpos : Pos} {elts : List Expr} {kk : Nat} (hg : Gl X "zip") (hm : X.mg "zip" = none) (ha : PA X [e, e2] ta)
    (hs : starEach [e, e2] X.env = (false, eval e X.env) :: starEach [e2] X.env) (hpl : (backTo pos (starEach [e2] X.env)).any (·.1) = false) :
    PI X (.Tuple elts kk tpos) (.Call (.Name "zip" p) [e, e2] [] pos) (iZipM X.K ta) := by
  refine ⟨fun pins s σ H R I h => ?_⟩
  refine Call_ (ld_blt I hg hm PyProof.Rows.boot_zip (PyProof.Rows.callWith_type1 (thn (ha.run pos pins s σ H _ I h) fun us s1 ⟨vs, H1, I1, r1, q1⟩ => ?_) hs hpl))
  obtain ⟨a, b, xs, ys, ex, hqx, hqy, q⟩ := q1
  subst ex
  cases r1 with
  | cons r rr =>
    cases rr with
    | cons r' rr =>
      cases rr
      cases r
      cases r'
      have fresh5 : ∀ c, c ∈ [s1.heap.objs.size + 4, s1.heap.objs.size + 2, s1.heap.objs.size + 3, s1.heap.objs.size, s1.heap.objs.size + 1] → FpOk X pins H1 c := fun c hcm => by
        have e' : c = s1.heap.objs.size + 4 ∨ c = s1.heap.objs.size + 2 ∨ c = s1.heap.objs.size + 3 ∨ c = s1.heap.objs.size ∨ c = s1.heap.objs.size + 1 := by simpa using hcm
        have hle : s1.heap.objs.size ≤ c := by omega
        exact I1.fpOk hle (I1.hok.fresh hle)
      obtain ⟨its, rv, p1, _⟩ := I1.list hqx
      obtain ⟨its2, rv2, p2, _⟩ := I1.tuple hqy
      obtain ⟨o2, ho2, _⟩ := id p2
      refine zip_begins2 (begins_list a its.toArray) (begins_tuple b its2.toArray) p1.isList p2 fun h' hz hTI hTO g1 g2 hsz hk => wpAny_pyIter_zip hz ?_
      have I2 : Inv X pins σ H1 { s1 with heap := h' } := I1.kept (t' := s1.toks) hk
      exact ⟨s1.heap.objs.size + 4, [s1.heap.objs.size + 4, s1.heap.objs.size + 2, s1.heap.objs.size + 3, s1.heap.objs.size, s1.heap.objs.size + 1], _, _, H1, rfl, I2, turn_zipM (PySem.W.ktu_apart s1.heap.objs.size a b p1.lt (Heap.lt_size ho2)), ⟨hz, hTI, ⟨_, _, hTO⟩, ⟨_, g1, rfl, rfl⟩, ⟨_, g2, rfl, rfl⟩⟩, fresh5, q⟩
theorem walk_zipM {K : PySem.W.Frag} {a b : Addr} {xs ys : List V} {n : Nat} (hn : n = min xs.length ys.length) : Walk (ItzM K a b) n (fun H => SqL K H a xs ∧ SqT K H b ys) (YPair (fun i => xs[i]?) (fun i => ys[i]?)) := by
  subst hn
  refine ⟨fun i _ hi q => ?_, fun _ q => ⟨xs, ys, q.1, q.2, by omega, by omega, by omega⟩, fun i H v H' _ q y => ?_⟩
  · have h1 : i < xs.length := by omega
    have h2 : i < ys.length := by omega
    exact ⟨xs, ys, xs[i], ys[i], q.1, q.2, by simp [h1], by simp [h2]⟩
  · obtain ⟨t, x, z, h1, h2, h3, h4, h5⟩ := y
    exact ⟨t, x, z, h1, h2, h3, h4 xs q.1, h5 ys q.2⟩
def itZipM (ds : List D) (h : Bs) : R Iu := match ds with
  | [d, e] => if !isTupD d && isTupD e then (match itSeq d h, itSeq e h with
    | .ok (xs, none) _, .ok (ys, none) _ => .ok (zipL xs ys, none) h
    | _, _ => .no) else .no
  | _ => .no
section
variable {X : Cx} {T : Tb} {W : WX} {μ μ' : Mu} {H H' : Hp} {h : Bs} {σ : Sg} {ρ : Ev}
theorem piv_zipM {e e2 : Expr} {p pos tpos : Pos} {elts : List Expr} {kk : Nat} {sa : SA} (hK : X.K = T.K) (hg : Gl X "zip") (hm : X.mg "zip" = none) (hs : PySem.W.isStarred e = false) (hs2 : PySem.W.isStarred e2 = false) (ha : PA X [e, e2] (tA' T W sa)) :
    PI X (.Tuple elts kk tpos) (.Call (.Name "zip" p) [e, e2] [] pos) (tI' T W (siArg itZipM sa)) :=
  PI.imp (pi_zipM hg hm ha (star_no hs) (back_no (by simp [noStars, hs2]))) fun σ H Q ⟨μ, ρ, h, r, e, o⟩ => by
    refine ⟨μ, ρ, h, r, e, OutA.mono (OutI.bindA o) ?_⟩
    rintro v H1 ⟨μ1, ds, h1, s1, r1, rv, o1⟩
    unfold itZipM at o1
    split at o1
    · rename_i d d2
      obtain ⟨w, w2, rfl, rw', rw2⟩ := rv.is2
      split at o1
      · rename_i ht
        simp only [Bool.and_eq_true, Bool.not_eq_true'] at ht
        split at o1
        · rename_i xs hx' ys hy' q q2
          obtain ⟨rfl, _, a, vs, e1, e4, e5⟩ := seq_stays r1 rw' q
          obtain ⟨rfl, _, b, ws, f1, f4, f5⟩ := seq_stays r1 rw2 q2
          subst e1 f1
          refine ⟨a, b, vs, ws, rfl, ?_⟩
          rcases e5 with ⟨t1, e5, e6⟩ | ⟨t1, e5, e6⟩
          · rcases f5 with ⟨t2, f5, f6⟩ | ⟨t2, f5, f6⟩
            · rw [t2] at ht; exact absurd ht.2 (by decide)
            · refine ⟨by rw [hK]; exact e5, by rw [hK]; exact f5, ?_⟩
              rw [hK]
              exact o1.nolk r1 (wk_pair (walk_zipM (K := T.K) (a := a) (b := b) rfl) (by rw [zipL_length, e4.length, f4.length]) (fun E μ' H' hE s => ⟨e6 E μ' H' hE s, f6 E μ' H' hE s⟩) (zip_items e4 f4))
          · rw [t1] at ht; exact absurd ht.1 (by decide)
        · exact o1.elim
      · exact o1.elim
    · exact o1.elim
def itZipX (ds : List D) (h : Bs) : R Iu := match itZip ds h with
  | .no => itZipM ds h
  | r => r
theorem piv_zipX {e e2 : Expr} {p pos tpos : Pos} {elts : List Expr} {kk : Nat} {sa : SA} (hK : X.K = T.K) (hg : Gl X "zip") (hm : X.mg "zip" = none) (hs : PySem.W.isStarred e = false) (hs2 : PySem.W.isStarred e2 = false) (ha : PA X [e, e2] (tA' T W sa)) :
    PI X (.Tuple elts kk tpos) (.Call (.Name "zip" p) [e, e2] [] pos) (tI' T W (siArg itZipX sa)) := by
  refine ⟨fun pins s σ H Q I ⟨μ, ρ, h, r, e, o⟩ => ?_⟩
  have h1 := piv_zip (elts := elts) (kk := kk) (tpos := tpos) (p := p) (pos := pos) hK hg hm hs hs2 ha
  have h2 := piv_zipM (elts := elts) (kk := kk) (tpos := tpos) (p := p) (pos := pos) hK hg hm hs hs2 ha
  cases q : sa ρ h with
  | no => exact h1.run pins s σ H Q I ⟨μ, ρ, h, r, e, by unfold siArg at o ⊢; rw [q] at o ⊢; exact o⟩
  | ex x h' => exact h1.run pins s σ H Q I ⟨μ, ρ, h, r, e, by unfold siArg at o ⊢; rw [q] at o ⊢; exact o⟩
  | ok ds h' =>
    cases q2 : itZip ds h' with
    | no => exact h2.run pins s σ H Q I ⟨μ, ρ, h, r, e, by
        unfold siArg at o ⊢
        rw [q] at o ⊢
        have o' : OutI T W σ μ H Q (itZipX ds h') := o
        unfold itZipX at o'
        rw [q2] at o'
        exact o'⟩
    | ex x h3 => exact h1.run pins s σ H Q I ⟨μ, ρ, h, r, e, by
        unfold siArg at o ⊢
        rw [q] at o ⊢
        have o' : OutI T W σ μ H Q (itZipX ds h') := o
        unfold itZipX at o'
        rw [q2] at o'
        show OutI T W σ μ H Q (itZip ds h')
        rw [q2]
        exact o'⟩
    | ok x h3 => exact h1.run pins s σ H Q I ⟨μ, ρ, h, r, e, by
        unfold siArg at o ⊢
        rw [q] at o ⊢
        have o' : OutI T W σ μ H Q (itZipX ds h') := o
        unfold itZipX at o'
        rw [q2] at o'
        show OutI T W σ μ H Q (itZip ds h')
        rw [q2]
        exact o'⟩
end
section
variable {Z : Cfg} {t : Tx} {k : Nat} {N : List Str} {sc : Scope} {raw : Option Scope} {X : Cx} {W : WX} {pos p : Pos} {a b : Expr}
theorem i_zipX {tpos : Pos} {elts : List Expr} {kk : Nat} {s : SA} (h : XO Z t k N sc raw X W) (g : (glC sc "zip" && t.fr.contains "zip" && noStars [a, b]) = true) (ha : PA X [a, b] (tA' Z.T W s)) : PI X (.Tuple elts kk tpos) (.Call (.Name "zip" p) [a, b] [] pos) (tI' Z.T W (siArg itZipX s)) := by
  simp only [Bool.and_eq_true, noStars, List.all_cons, List.all_nil, Bool.not_eq_true', Bool.and_true] at g
  exact piv_zipX h.K (h.gl g.1.1).1 (h.fr g.1.2) g.2.1 g.2.2 ha
end
end VI
end
section
namespace VI
open PySem PySem.Spec PyProof.Rows L2
abbrev MTab := List (Nat × (List D → Bs → R D))
section
variable {X : Cx} {T : Tb} {W : WX} {μ μ' : Mu} {H H' : Hp} {h : Bs} {σ : Sg}
theorem takesN {X : Cx} : Takes X noW := fun _ _ x => by
  obtain ⟨_, _, _, _, _, _, cls, d, _, _, _, _, _, _, _, _, z⟩ := x
  exact z.elim
theorem run_sub {k : Nat} {A : Around} {f : Addr} {fd : FuncData} {ps : List Str} {cf : List D → Bs → R D} {pins : List (Addr × Obj)} {σ : L2.St} {H : Hp} {s : Shared} {Q : VK} {us : List Value} {vs : List V}
    (F : FnOk X.prog X.w X.K X.mg X.base (CX X.prog X.w) k f fd ps (spF T cf)) (hr : Room k A) (hA : A.frames = X.A.frames) (hb : Binds X.K fd ps []) (I : Inv X pins σ H s) (r : Vals vs us) (h : spF T cf vs H Q (fun _ _ _ => False)) :
    wpAny (model X.prog X.w) A (call (.ref f) us) (EP X pins σ Q) X.xe s := by
  have hl : us.length = ps.length := by rw [← r.length]; exact F.len _ _ _ _ h
  have e0 : Env0 X.prog X.w X.K X.mg X.base A X.stack s H := by
    have e := I.env0
    exact ⟨by rw [hA]; exact e.frames, e.mod, e.bs, e.bsz, e.funs, e.frf, e.hok, e.bare⟩
  refine wpAny_call (codeAny_mono (F.run A X.stack s H ⟨us, []⟩ us vs Q (fun _ _ _ => False) hr e0 (by
    have := hb s us I.kIn (by simpa using hl)
    simpa using this) r h) fun r s' hq => ?_)
  cases r with
  | error e => exact passAt takesN σ pins H s e s' I hq
  | ok fl =>
    cases fl with
    | ret u => exact I.after hq
    | next => exact False.elim hq
    | brk => exact False.elim hq
    | cont => exact False.elim hq
def MtX (X : Cx) (T : Tb) (m : Str) (k : Nat) (l : MTab) : Prop := ∀ c cf, l.lookup c = some cf → ∃ C f fd ps, T.cls c = some C ∧ Meth X.K C m f ∧ FnOk X.prog X.w X.K X.mg X.base (CX X.prog X.w) k f fd ps (spF T cf) ∧ Binds X.K fd ps [] ∧ PySem.W.fnIn X.K f = true
def lenO (l : MTab) (ds : List D) (h : Bs) : R D := match ds with
  | [d] => (match insOf h d with
    | some (c, _, _) => (match l.lookup c with
      | some cf => (match cf [d] h with
        | .ok (.int n) h' => if 0 ≤ n ∧ n < 2 ^ 62 then .ok (.int n) h' else .no
        | _ => .no)
      | none => .no)
    | none => lenD [d] h)
  | _ => .no
def eqO (l : MTab) (d e : D) (h : Bs) : R D := match insOf h d with
  | some (c, _, _) => (match insOf h e with
    | some (c', _, _) => if c = c' then (match l.lookup c with
      | some cf => (match cf [d, e] h with
        | .ok (.bl b) h' => .ok (.bl b) h'
        | _ => .no)
      | none => .no) else .no
    | none => .no)
  | none => eqD false d e h
theorem eqO_calm {l : MTab} {d e : D} : Calm (eqO l d e h) := by
  intro x h' z; unfold eqO at z
  split at z
  · split at z
    · split at z
      · split at z
        · split at z <;> cases z
        · cases z
      · cases z
    · cases z
  · exact eqD_calm x h' z
theorem ov_eqO {k : Nat} {l : MTab} (hK : X.K = T.K) (hr : Room k X.A) (M : MtX X T "__eq__" k l) : OpR X (compareOp .Eq) (rD2 T (eqO l)) := by
  intro pins s σ H x y v u Q I rx ry ⟨μ, h, d, e, r, rd, re, o⟩
  unfold eqO at o
  split at o
  · rename_i c fs ys hi
    split at o
    · rename_i c' fs' ys' hi'
      split at o
      · rename_i hcc
        subst hcc
        split at o
        · rename_i cf hcf
          obtain ⟨a, C, dx, vs, rfl, e2, e3, e4, e5⟩ := r.insOf rd hi
          obtain ⟨a', C', dx', vs', rfl, e2', e3', e4', e5'⟩ := r.insOf re hi'
          rw [e2] at e2'; cases e2'
          obtain ⟨C', f, fd, ps, f1, f3, F, hb, hfn⟩ := M c cf hcf
          rw [e2] at f1; cases f1
          obtain rfl : v = Value.ref a := rx
          obtain rfl : u = Value.ref a' := ry
          obtain ⟨mA, J, _⟩ := ins_get I.hok e3
          obtain ⟨od, J, _⟩ := J.look
          obtain ⟨mA', J', _⟩ := ins_get I.hok e3'
          obtain ⟨od', J', _⟩ := J'.look
          obtain ⟨m, hF⟩ := I.fr
          show wpAny (model X.prog X.w) X.A (richCompare .Eq (.ref a) (.ref a')) (EP X pins σ Q) X.xe s
          refine PySem.W.cmp_K (op := .Eq) (tb := .ref C) hr.units0 hF I.ok.mod.kin J J'.type (by simp [PySem.W.notFirst]) f3.at_ f3.fn ?_
          have sp : spF T cf [.ref a, .ref a'] H (fun v H' => ∃ b : Bool, v = .bl b ∧ Q (.bl b) H') (fun _ _ _ => False) := by
            refine ⟨μ, h, [d, e], r, Reps.cons rd (Reps.one re), ?_⟩
            cases q : cf [d, e] h with
            | no => rw [q] at o; exact o.elim
            | ex x h' => rw [q] at o; exact o.elim
            | ok z h' =>
              rw [q] at o
              cases z <;> first | exact o.elim | skip
              rename_i b
              intro μ' H' v st r' rv'
              simp only [Rep] at rv'
              exact ⟨b, rv', o μ' H' _ st r' (by simp only [Rep])⟩
          refine wpAny_mono (run_sub (vs := [.ref a, .ref a']) F hr rfl hb I (.cons rfl (.cons rfl .nil)) sp) (fun u s' z => ?_) fun _ _ x => x
          obtain ⟨v, H', I', rv', b, rfl, hq⟩ := z
          obtain rfl : u = Value.bool b := rv'
          exact ⟨.bl b, H', I', rfl, hq⟩
        · exact o.elim
      · exact o.elim
    · exact o.elim
  · exact ov_eq hK (by have := hr.un; omega) pins s σ H x y v u Q I rx ry ⟨μ, h, d, e, r, rd, re, o⟩
end
section
variable {Z : Cfg} {t : Tx} {k j : Nat} {N : List Str} {sc : Scope} {raw : Option Scope} {X : Cx} {W : WX} {pos p : Pos} {a b c : Expr} {sa sb s3 : SV} {l : MTab}
theorem MtL.x {m : Str} (M : MtL Z m j l) (h : XO Z t k N sc raw X W) : MtX X Z.T m j l := fun c cf z => by
  obtain ⟨C, f, fd, ps, h1, h2, h3, h4, h5, h6⟩ := M c cf z
  exact ⟨C, f, fd, ps, h1, by rw [h.K]; exact h3, by rw [h.prog, h.w, h.K, h.mg, h.base]; exact h4, by rw [h.K]; exact h5, by rw [h.K]; exact h6⟩
theorem ded_mem (k : Int) : ∀ ns : List Int, k ∈ dedI ns ↔ k ∈ ns
  | [] => Iff.rfl
  | n :: ns => by
    simp only [dedI]
    have ih := ded_mem k ns
    split
    · rename_i hn
      rw [ih, List.mem_cons]
      constructor
      · exact .inr
      · rintro (rfl | z)
        · simpa using hn
        · exact z
    · rw [List.mem_cons, List.mem_cons, ih]
theorem ded_nodup : ∀ ns : List Int, (dedI ns).Nodup
  | [] => .nil
  | n :: ns => by
    simp only [dedI]
    split
    · exact ded_nodup ns
    · rename_i hn
      exact List.nodup_cons.mpr ⟨fun z => hn (by simpa using (ded_mem n ns).mp z), ded_nodup ns⟩
theorem set_is {ns l : List Int} (h1 : l.Pairwise (· < ·)) (h2 : ∀ k : Int, k ∈ l ↔ decide (k ∈ ns) = true) : l = sortI (dedI ns) := by
  refine PySem.W.ksm_same (List.Perm.trans ((List.perm_ext_iff_of_nodup (List.nodup_iff_pairwise_ne.mpr (h1.imp fun z e => by omega)) (ded_nodup ns)).mpr fun k => ?_) (sortI_perm _).symm) (h1.imp fun z => by omega) (sortI_sorted _)
  rw [h2, ded_mem, decide_eq_true_eq]
end
end VI
end
section
namespace VI
open PySem PySem.Spec PyProof.Rows L2
section
variable {κ : Type} [DecidableEq κ] {α : Type}
def lookK : List κ → List α → κ → Option α
  | j :: js, x :: xs, k => if j = k then some x else lookK js xs k
  | _, _, _ => none
def setK : List κ → List α → κ → α → List α
  | j :: js, x :: xs, k, y => (if j = k then y else x) :: setK js xs k y
  | _, _, _, _ => []
def hasK (ks : List κ) (k : κ) : Bool := ks.any fun j => decide (j = k)
def addK (ks : List κ) (k : κ) : List κ := if hasK ks k then ks else ks ++ [k]
def putV (ks : List κ) (xs : List α) (k : κ) (y : α) : List α := if hasK ks k then setK ks xs k y else xs ++ [y]
theorem lookK_val : ∀ (ks : List κ) (vs : List V) (k : κ), valV (ks.zip vs) k = lookK ks vs k
  | [], vs, k => by simp [lookK, valV]
  | j :: js, [], k => by simp [lookK, valV]
  | j :: js, v :: vs, k => by
    rw [List.zip_cons_cons]
    by_cases e : j = k
    · rw [valV_pos (p := (j, v)) e]; simp [lookK, e]
    · rw [valV_neg (p := (j, v)) e, lookK_val js vs k]; simp [lookK, e]
end
section
variable {T : Tb} {μ μ' : Mu} {H H' : Hp} {h : Bs} {κ : Type} [DecidableEq κ]
theorem lookK_reps : ∀ {ks : List κ} {xs : List D} {vs : List V} {k : κ} {x : D}, Reps T μ H xs vs → lookK ks xs k = some x → ∃ v, lookK ks vs k = some v ∧ Rep T μ H x v
  | [], _, _, _, _, _, e => by simp [lookK] at e
  | _ :: _, [], _, _, _, _, e => by simp [lookK] at e
  | j :: js, y :: ys, vs, k, x, q, e => by
    simp only [Reps] at q
    obtain ⟨v, r, rfl, q1, q2⟩ := q
    simp only [lookK] at e ⊢
    split at e
    · rename_i hj
      cases e
      exact ⟨v, if_pos hj, q1⟩
    · rename_i hj
      obtain ⟨w, e1, e2⟩ := lookK_reps q2 e
      exact ⟨w, (if_neg hj).trans e1, e2⟩
theorem lookK_reps0 : ∀ {ks : List κ} {xs : List D} {vs : List V} {k : κ}, Reps T μ H xs vs → lookK ks xs k = none → lookK ks vs k = none
  | [], _, _, _, _, _ => by simp [lookK]
  | _ :: _, [], vs, _, q, _ => by simp only [Reps] at q; subst q; simp [lookK]
  | j :: js, y :: ys, vs, k, q, e => by
    simp only [Reps] at q
    obtain ⟨v, r, rfl, q1, q2⟩ := q
    simp only [lookK] at e ⊢
    split at e
    · cases e
    · rename_i hj
      exact (if_neg hj).trans (lookK_reps0 q2 e)
theorem Reps.setK {x : D} {v : V} (rv : Rep T μ H x v) {k : κ} : ∀ {ks : List κ} {xs : List D} {vs : List V}, Reps T μ H xs vs → Reps T μ H (VI.setK ks xs k x) (VI.setK ks vs k v)
  | [], _, _, _ => by simp only [VI.setK]; exact .nil
  | _ :: _, [], vs, q => by simp only [Reps] at q; subst q; simp only [VI.setK]; exact .nil
  | j :: js, y :: ys, vs, q => by
    simp only [Reps] at q
    obtain ⟨w, r, rfl, q1, q2⟩ := q
    simp only [VI.setK]
    refine .cons ?_ (Reps.setK rv q2)
    split
    · exact rv
    · exact q1
theorem Reps.putV {x : D} {v : V} (rv : Rep T μ H x v) {k : κ} {ks : List κ} {xs : List D} {vs : List V} (q : Reps T μ H xs vs) : Reps T μ H (VI.putV ks xs k x) (VI.putV ks vs k v) := by
  unfold VI.putV
  split
  · exact q.setK rv
  · exact q.append (.one rv)
def keyD : D → Option Key
  | .int i => some (.inl i)
  | .str x => some (.inr x)
  | _ => none
def keyTs : D → Option (List Key)
  | .tup xs => mapO keyD xs
  | _ => none
inductive Ko where
  | k (a : Key) | t (a : List Key)
def koD : Ks → D → Option Ko
  | .k _, d => (keyD d).map .k
  | .t _, d => (keyTs d).map .t
def Ks.look {α : Type} : Ks → List α → Ko → Option α
  | .k l, xs, .k a => lookK l xs a
  | .t l, xs, .t a => lookK l xs a
  | _, _, _ => none
def Ks.add : Ks → Ko → Ks
  | .k l, .k a => .k (addK l a)
  | .t l, .t a => .t (addK l a)
  | ks, _ => ks
def Ks.putV {α : Type} : Ks → List α → Ko → α → List α
  | .k l, xs, .k a, y => VI.putV l xs a y
  | .t l, xs, .t a, y => VI.putV l xs a y
  | _, xs, _, _ => xs
def dctO (h : Bs) : D → Option (Ks × List D)
  | .dct ks xs => some (ks, xs)
  | .ref b => (match h.bs[b]? with
    | some (.dct _ ks xs) => some (ks, xs)
    | some (.dfz ks xs) => some (ks, xs)
    | _ => none)
  | _ => none
theorem Rel.dctO (r : Rel T μ h H) {d : D} {v : V} {ks : Ks} {xs : List D} (q : Rep T μ H d v) (e : dctO h d = some (ks, xs)) : ∃ a vs, v = .ref a ∧ Rd H a (kvO ks vs) ∧ ks.len = vs.length ∧ Reps T μ H xs vs := by
  cases d with
  | dct ks' xs' =>
    simp only [VI.dctO] at e; cases e
    simp only [Rep] at q
    obtain ⟨a, o, vs, e1, e2, _, e3, e4⟩ := q
    exact ⟨a, vs, e1, .inr ⟨o, e2⟩, e3, e4⟩
  | ref b =>
    simp only [VI.dctO] at e
    simp only [Rep] at q
    obtain ⟨a, e1, e2⟩ := q
    split at e
    · rename_i lk ks' xs' hb
      cases e
      obtain ⟨vs, e3, e4, e5⟩ := r.at_ _ _ a hb e1
      refine ⟨a, vs, e2, ?_, e4, e5⟩
      cases lk with
      | false => exact .inl (by simpa using e3)
      | true => exact .inr (by simpa using e3)
    · rename_i ks' xs' hb
      cases e
      obtain ⟨o, vs, e3, e4, e5⟩ := r.at_ _ _ a hb e1
      exact ⟨a, vs, e2, .inr ⟨o, e3⟩, e4, e5⟩
    · cases e
  | _ => simp [VI.dctO] at e
theorem look_reps {ks : Ks} {xs : List D} {vs : List V} {k : Ko} {x : D} (q : Reps T μ H xs vs) (e : ks.look xs k = some x) : ∃ v, ks.look vs k = some v ∧ Rep T μ H x v := by
  cases ks <;> cases k <;> simp only [Ks.look] at e ⊢ <;> first | exact lookK_reps q e | cases e
theorem look_reps0 {ks : Ks} {xs : List D} {vs : List V} {k : Ko} (q : Reps T μ H xs vs) (e : ks.look xs k = none) : ks.look vs k = none := by
  cases ks <;> cases k <;> simp only [Ks.look] at e ⊢ <;> exact lookK_reps0 q e
end
def dgetD (d e : D) (h : Bs) : R D := match dctO h d with
  | some (ks, xs) => (match koD ks e with
    | some k => (match ks.look xs k with
      | some x => .ok x h
      | none => .no)
    | none => .no)
  | none => .no
section
variable {X : Cx} {T : Tb} {W : WX} {μ μ' : Mu} {H H' : Hp} {h : Bs} {σ : Sg} {ρ : Ev} {a b c : Expr} {sa sb s3 : SV} {pos : Pos}
def dputD (d e v : D) (h : Bs) : R D := match d with
  | .ref b => (match h.bs[b]? with
    | some (.dct false ks xs) => (match koD ks e with
      | some k => if decide (ks.len < sizeLine) && okW h b v then .ok .non { h with bs := h.bs.set b (.dct false (ks.add k) (ks.putV xs k v)) } else .no
      | none => .no)
    | _ => .no)
  | _ => .no
end
end VI
end
section
namespace VI
open PySem PySem.Spec PyProof.Rows L2
section
variable {X : Cx} {T : Tb} {W : WX} {μ μ' : Mu} {H H' : Hp} {h : Bs} {σ : Sg} {ρ : Ev} {a b c : Expr} {sa sb s3 : SV} {pos : Pos} {p : Addr}
end
end VI
end
section
namespace VI
open PySem PySem.Spec PyProof.Rows L2
section
variable {X : Cx} {pos : Pos}
end
section
variable {X : Cx} {T : Tb} {W : WX} {μ μ' : Mu} {H H' : Hp} {h : Bs} {σ : Sg} {ρ : Ev} {sk sv : SV} {pos : Pos}
theorem tV.mono {s : SV} {Q Q' : VK} (t : tV T W s σ H Q) (i : ∀ v H, Q v H → Q' v H) : tV T W s σ H Q' := by
  obtain ⟨μ, ρ, h, r, e, o⟩ := t
  exact ⟨μ, ρ, h, r, e, o.mono i⟩
end
end VI
end
section
namespace VI
open PySem PySem.Spec PyProof.Rows L2
section
variable {X : Cx}
end
end VI
end
section
namespace VI
open PySem PySem.Spec PyProof.Rows L2
section
variable {X : Cx} {T : Tb} {W : WX} {μ μ' : Mu} {H H' : Hp} {h : Bs} {σ : Sg} {ρ : Ev} {tg : Expr} {p : Addr} {o : HO}
end
end VI
end
section
namespace VI
open PySem PySem.Spec PyProof.Rows L2
def KeyN (H : Hp) : Ks → Nat → V → Prop
  | .k l, i, x => ∃ k, l[i]? = some k ∧ x = kV k
  | .t l, i, x => ∃ k q, l[i]? = some k ∧ x = .ref q ∧ H q = some (.tup (k.map kV))
theorem zip_get {α β : Type} : ∀ {l : List α} {vs : List β} {i : Nat} {k : α} {v : β}, l[i]? = some k → vs[i]? = some v → (l.zip vs)[i]? = some (k, v) := by
  intro l vs i k v h1 h2
  rw [List.getElem?_zip_eq_some]
  exact ⟨h1, h2⟩
section
variable {X : Cx} {pins : List (Addr × Obj)} {σ : Sg} {H : Hp} {s : Shared} {d : Addr} {o : Obj} {ks : Ks} {vs : List V}
structure Ent (H : Hp) (ks : Ks) (vs : List V) (es : Array DictEntry) : Prop where
  size : es.size = vs.length
  at_ : ∀ (i : Nat) (v : V), vs[i]? = some v → ∃ (en : DictEntry) (x : V), es[i]? = some en ∧ KeyN H ks i x ∧ RelV x en.key ∧ RelV v en.val
end
section
variable {P : Program} {w : World} {K : PySem.W.Frag} {tg : Expr} {d : Addr} {o : Obj} {es : Array DictEntry} {ep : Nat} {ks : Ks} {vs : List V}
end
section
variable {X : Cx} {tg e : Expr} {td : TE} {apos cpos : Pos}
end
end VI
end
section
namespace VI
open PySem PySem.Spec PyProof.Rows L2
def keyV : Key → D
  | .inl i => .int i
  | .inr x => .str x
def keyDL : Ks → List D
  | .k l => l.map keyV
  | .t l => l.map fun k => .tup (k.map keyV)
def dwalk (h : Bs) : D → Option (Ks × List D)
  | .dct ks xs => some (ks, xs)
  | .ref b => (match h.bs[b]? with
    | some (.dct true ks xs) => some (ks, xs)
    | _ => none)
  | _ => none
section
variable {X : Cx} {T : Tb} {W : WX} {μ μ' : Mu} {H H' : Hp} {h : Bs} {σ : Sg} {ρ : Ev} {tg e : Expr} {s : SV}
def itDk (f : Ks → List D → List D) (d : D) (h : Bs) : R Iu := match dwalk h d with
  | some (ks, xs) => .ok (f ks xs, none) h
  | none => .no
abbrev fP : Ks → List D → List D := fun ks xs => zipL (keyDL ks) xs
def siD (f : Ks → List D → List D) (s : SV) : SI := fun ρ h => (s ρ h).bind (itDk f)
theorem Rel.swap (r : Rel T μ h H) {b : Nat} {x y : Bx} (hb : h.bs[b]? = some x) (im : ∀ a, RepB T μ H x a → RepB T μ H y a) (wb : ∀ k, belB k x → belB k y) (e : μ'.ad = μ.ad) (ep : μ'.pr = μ.pr) (ef : μ'.fb = μ.fb)
    (hl : ∀ a ∈ μ'.lk, ∃ (c : Nat) (z : Bx), μ'.ad[c]? = some a ∧ (h.bs.set b y)[c]? = some z ∧ lkd z = true) (hf : ∀ (c : Nat) (z : Bx) (a : Addr), (h.bs.set b y)[c]? = some z → lkd z = true → μ'.ad[c]? = some a → a ∈ μ'.lk) : Rel T μ' { h with bs := h.bs.set b y } H := by
  have hlt : b < h.bs.length := (List.getElem?_eq_some_iff.mp hb).1
  refine ⟨r.fb.trans ef.symm, fun a ha => by rw [ep] at ha; rw [e]; exact r.prh a ha, hl, hf, by rw [e]; simp [r.len], by rw [e]; exact r.nd, fun i b' a e1 e2 => ?_, fun k hk => by simpa using r.lo k hk, r.ord, fun k hk i b' hi e1 => ?_⟩
  · have e1 : (h.bs.set b y)[i]? = some b' := e1
    rw [e] at e2
    by_cases hi : b = i
    · subst hi
      rw [List.getElem?_set_self hlt] at e1
      cases e1
      exact (im a (r.at_ b _ a hb e2)).ad e ep
    · rw [List.getElem?_set_ne hi] at e1
      exact (r.at_ i b' a e1 e2).ad e ep
  · have e1 : (h.bs.set b y)[i]? = some b' := e1
    by_cases hi' : b = i
    · subst hi'
      rw [List.getElem?_set_self hlt] at e1
      cases e1
      exact wb k (r.wf k hk b _ hi hb)
    · rw [List.getElem?_set_ne hi'] at e1
      exact r.wf k hk i b' hi e1
theorem PS.or {st : Stmt} {t t' : TS} (h : PS X st t) (h' : PS X st t') : PS X st (fun D σ H => t D σ H ∨ t' D σ H) := ⟨fun pins s σ H D I w => by
  rcases w with w | w
  · exact h.run pins s σ H D I w
  · exact h'.run pins s σ H D I w⟩
theorem PE.or {e : Expr} {t t' : TE} (h : PE X e t) (h' : PE X e t') : PE X e (fun σ H Q => t σ H Q ∨ t' σ H Q) := ⟨fun pins s σ H Q I w => by
  rcases w with w | w
  · exact h.run pins s σ H Q I w
  · exact h'.run pins s σ H Q I w⟩
end
end VI
end
section
namespace VI
open PySem PySem.Spec PyProof.Rows L2
section
variable {X : Cx} {pins : List (Addr × Obj)} {σ : Sg} {H : Hp} {s : Shared} {d : Addr} {ks : Ks} {vs : List V}
end
section
variable {X : Cx} {T : Tb} {W : WX} {μ μ' : Mu} {H H' : Hp} {h : Bs} {σ : Sg} {ρ : Ev} {a b c : Expr} {sa sb s3 : SV} {pos : Pos}
def dlenD (ds : List D) (h : Bs) : R D := match ds with
  | [d] => (match dctO h d with
    | some (_, xs) => .ok (.int xs.length) h
    | none => .no)
  | _ => .no
def dlistD (bx : Bool) (ds : List D) (h : Bs) : R D := match ds with
  | [d] => (match dctO h d with
    | some (ks, _) => newL bx (keyDL ks) h
    | none => .no)
  | _ => .no
end
end VI
end
section
namespace VI
open PySem PySem.Spec PyProof.Rows L2
section
variable {X : Cx} {pins : List (Addr × Obj)} {σ : Sg} {H : Hp} {s : Shared} {d : Addr} {ks : Ks} {vs : List V}
end
section
variable {X : Cx} {T : Tb} {W : WX} {μ μ' : Mu} {H H' : Hp} {h : Bs} {σ : Sg} {ρ : Ev} {a b c e : Expr} {sa sb s3 : SV} {pos p apos cpos : Pos}
end
end VI
end
section
namespace VI
open PySem PySem.Spec PyProof.Rows L2
section
variable {X : Cx} {pins : List (Addr × Obj)} {σ : Sg} {H : Hp} {s : Shared}
theorem kt_map {β : Type} {f : List Key → β} {kvs : List (List Key × V)} {xs : List (List Key × Addr × Value)} (kt : KT H kvs xs) : xs.map (fun x => f x.1) = kvs.map fun p => f p.1 := by
  induction kt with
  | nil => rfl
  | cons h t ih => rw [List.map_cons, List.map_cons, ih, h.1]
theorem CallR.or {f : Value} {r r' : List V → Hp → VK → Prop} (h : CallR X f r) (h' : CallR X f r') : CallR X f (fun xs H Q => r xs H Q ∨ r' xs H Q) := fun pins s σ H xs us Q I rx w => by
  rcases w with w | w
  · exact h pins s σ H xs us Q I rx w
  · exact h' pins s σ H xs us Q I rx w
end
end VI
end
section
namespace VI
open PySem PySem.Spec PyProof.Rows L2
def mkK : List Key → List D → List (D × D) → Option (List Key × List D)
  | ks, xs, [] => some (ks, xs)
  | ks, xs, (k, v) :: r => match keyD k with
    | some a => mkK (addK ks a) (putV ks xs a v) r
    | none => none
section
variable {X : Cx} {T : Tb} {W : WX} {μ μ' : Mu} {H H' : Hp} {h : Bs} {σ : Sg} {ρ : Ev}
end
end VI
end
section
namespace VI
open PySem PySem.Spec PyProof.Rows L2
open PySem.SeqAt (EqIn EqAt)
section
variable {prog : Program} {w : World} {A : Around} {E : Value → Shared → Prop} {s : Shared}
structure Hit (prog : Program) (w : World) (A : Around) (s : Shared) (b : Addr) (e1 : DictEntry) (es2 : Array DictEntry) (c : Bool) : Prop where
  ex : ∃ o : Option Nat, (∀ (E : Value → Shared → Prop) (Q : Option Nat → Shared → Prop), Q o s → wpAny (model prog w) A (dictFind b e1.key e1.hash) Q E s) ∧
    (match o with | none => c = false | some j => ∃ hj : j < es2.size, EqIn prog w A s e1.val es2[j].val c)
theorem pairs_raw {nm : String} {a b : Addr} {o1 o2 : Obj} {es es2 : Array DictEntry} {ep ep2 : Nat} {c : Nat → Bool} {Q : Bool → Shared → Prop} (ha : (a == sysModules) = false) (hb : (b == sysModules) = false)
    (g1 : s.heap.get? a = some o1) (d1 : o1.data = .dict es ep) (g2 : s.heap.get? b = some o2) (d2 : o2.data = .dict es2 ep2) (hit : es.size = es2.size → ∀ i (hi : i < es.size), Hit prog w A s b es[i] es2 (c i)) (q : Q (es.size == es2.size && (List.range es.size).all c) s) :
    wpAny (model prog w) A (Builtin.Dict.samePairs nm a b) Q E s := by
  unfold Builtin.Dict.samePairs Builtin.Dict.showsAll
  rw [if_neg (show ¬ (a == sysModules) = true by rw [ha]; simp), if_neg (show ¬ (b == sysModules) = true by rw [hb]; simp)]
  refine wpAny_bind (wpAny_pure (wpAny_bind (wpAny_pure (wpAny_bind (wpAny_dictEntries g1 d1 ?_)))))
  dsimp only
  refine wpAny_bind (wpAny_dictEntries g2 d2 ?_)
  by_cases sz : es.size = es2.size
  · have hit := hit sz
    have q : Q ((List.range es.size).all c) s := by simpa [sz] using q
    rw [if_neg (by rw [sz]; simp)]
    refine wpAny_bind (wpAny_dictEpoch g1 d1 (wpAny_bind ?_))
    rw [Std.Legacy.Range.forIn_eq_forIn_range']
    simp only [Std.Legacy.Range.size, Nat.sub_zero, Nat.add_sub_cancel, Nat.div_one]
    refine wpAny_forIn_list _ (fun rest z s' => s' = s ∧ z = (none, ()) ∧ ∃ i, rest = List.range' i (es.size - i) ∧ i ≤ es.size ∧ (List.range i).all c = true) _ ?_ ?_ _ _ ⟨rfl, rfl, 0, by simp, Nat.zero_le _, rfl⟩
    · rintro x rest z s' ⟨rfl, rfl, i, hr, hi, pre⟩
      have lt : i < es.size := by
        rcases Nat.lt_or_ge i es.size with h | h
        · exact h
        · rw [Nat.sub_eq_zero_of_le h] at hr; cases hr
      obtain ⟨rfl, hrest⟩ : x = i ∧ rest = List.range' (i + 1) (es.size - (i + 1)) := by
        rw [show es.size - i = (es.size - (i + 1)) + 1 by omega, List.range'_succ] at hr
        exact ⟨(List.cons.inj hr).1, (List.cons.inj hr).2⟩
      refine wpAny_bind (wpAny_dictEntries g1 d1 ?_)
      rw [Array.getElem?_eq_getElem lt]
      show wpAny _ _ (holding [es[x].key, es[x].val] _ >>= _) _ _ _
      obtain ⟨o, find, what⟩ := (hit x lt).ex
      refine wpAny_bind (wpAny_holding (wpAny_bind (find _ _ ?_)))
      have stop : c x = false → Q false s' := fun e => by
        have z : (List.range es.size).all c = false := by
          cases w : (List.range es.size).all c with
          | false => rfl
          | true =>
            rw [List.all_eq_true] at w
            rw [w x (List.mem_range.mpr lt)] at e; cases e
        rw [z] at q; exact q
      cases o with
      | none =>
        refine wpAny_pure ?_
        show wpAny _ _ (if (!false) = true then _ else _) _ _ _
        rw [if_pos (by decide)]
        exact wpAny_pure (wpAny_pure (stop what))
      | some j =>
        obtain ⟨hj, eq⟩ := what
        refine wpAny_bind (wpAny_dictEntries g2 d2 ?_)
        rw [Array.getElem?_eq_getElem hj]
        refine wpAny_holding (eq _ _ ?_)
        cases e : c x with
        | false =>
          show wpAny _ _ (if (!false) = true then _ else _) _ _ _
          rw [if_pos (by decide)]
          exact wpAny_pure (wpAny_pure (stop e))
        | true =>
          show wpAny _ _ (if (!true) = true then _ else _) _ _ _
          rw [if_neg (by decide)]
          refine wpAny_bind (wpAny_dictEpoch g1 d1 ?_)
          rw [if_neg (by simp)]
          exact wpAny_pure ⟨rfl, rfl, x + 1, hrest, lt, by rw [List.range_succ, List.all_append, pre]; simp [e]⟩
    · rintro z s' ⟨rfl, rfl, i, hr, hi, pre⟩
      have hin : i = es.size := by
        rcases Nat.lt_or_ge i es.size with h | h
        · rw [show es.size - i = (es.size - (i + 1)) + 1 by omega, List.range'_succ] at hr; cases hr
        · omega
      subst hin
      rw [pre] at q
      exact wpAny_pure q
  · rw [if_pos (by simpa using sz)]
    have z : (es.size == es2.size) = false := by simpa using sz
    rw [z, Bool.false_and] at q
    exact wpAny_bind (wpAny_rule (wpAny_pure q))
theorem eq_raw {a b : Addr} {o1 o2 : Obj} {es es2 : Array DictEntry} {ep ep2 : Nat} {c : Nat → Bool} {Q : Value → Shared → Prop} (ha : (a == sysModules) = false) (hb : (b == sysModules) = false)
    (g1 : s.heap.get? a = some o1) (x1 : o1.ExactDict) (d1 : o1.data = .dict es ep) (g2 : s.heap.get? b = some o2) (x2 : o2.ExactDict) (d2 : o2.data = .dict es2 ep2) (hu : A.units < cLine) (hit : es.size = es2.size → ∀ i (hi : i < es.size), Hit prog w A.in1 s b es[i] es2 (c i))
    (q : Q (.bool (es.size == es2.size && (List.range es.size).all c)) s) : wpAny (model prog w) A (richCompare .Eq (.ref a) (.ref b)) Q E s := by
  have t1 : s.TypeIs (.ref a) "dict" := ⟨o1, g1, x1.1⟩
  have t2 : s.TypeIs (.ref b) "dict" := ⟨o2, g2, x2.1⟩
  refine wpAny_richCompare_same_room (op := .Eq) t1 t2 PySem.F.slot_dict_eq (wpAny_call_entry PySem.F.slot_dict_eq t1 PySem.F.entry_dict_eq ?_ (PySem.F.args_dict_eq_2 _ _)) hu
  show wpAny _ _ (Builtin.Dict.dictSlotArgs "__eq__" ⟨[.ref a, .ref b], []⟩ >>= _) _ _ s
  refine wpAny_bind ?_
  unfold Builtin.Dict.dictSlotArgs
  refine wpAny_bind (wpAny_notOrdered_dict t1 ?_)
  show wpAny _ _ (pure (Value.ref a, Value.ref b)) _ _ s
  refine wpAny_pure (wpAny_bind (wpAny_isInstance (T := "dict") t2 PySem.F.sub_dict_dict ?_))
  simp only [Bool.not_true, Bool.false_eq_true, if_false]
  refine wpAny_bind (wpAny_pure (wpAny_bind (wpAny_pure (wpAny_bind (pairs_raw ha hb g1 d1 g2 d2 hit ?_)))))
  refine wpAny_pure ⟨_, rfl, ?_, ?_⟩
  · exact fun x => nomatch x
  · simpa using q
end
end VI
end
section
namespace VI
open PySem PySem.Spec PyProof.Rows L2
open PySem.SeqAt (EqIn EqAt)
def Ks.nth : Ks → Nat → Option Ko
  | .k l, i => (l[i]?).map .k
  | .t l, i => (l[i]?).map .t
def Ks.alike : Ks → Ks → Bool
  | .k _, .k _ => true
  | .t _, .t _ => true
  | _, _ => false
section
variable {X : Cx} {pins : List (Addr × Obj)} {σ : Sg} {H : Hp} {s : Shared}
theorem rel_look {o : Option V} {u : Option Value} (r : RelO o u) : (o = none ∧ u = none) ∨ ∃ v w, o = some v ∧ u = some w ∧ RelV v w := by
  cases o with
  | none => cases u with
    | none => exact .inl ⟨rfl, rfl⟩
    | some _ => exact r.elim
  | some v => cases u with
    | none => exact r.elim
    | some w => exact .inr ⟨v, w, rfl, rfl, r⟩
theorem hit_kv {A : Around} {a b : Addr} {ks ls : Ks} {vs ws : List V} {o1 o2 : Obj} {es es2 : Array DictEntry} {ep ep2 i : Nat} {c : Bool} (I : Inv X pins σ H s) (h1 : Rd H a (kvO ks vs)) (l1 : ks.len = vs.length) (h2 : Rd H b (kvO ls ws)) (l2 : ls.len = ws.length) (al : ks.alike ls = true)
    (g1 : s.heap.get? a = some o1) (d1 : o1.data = .dict es ep) (g2 : s.heap.get? b = some o2) (d2 : o2.data = .dict es2 ep2) (hu : A.units < cLine) (hi : i < es.size)
    (what : ∀ k v, ks.nth i = some k → vs[i]? = some v → (ls.look ws k = none ∧ c = false) ∨ ∃ w, ls.look ws k = some w ∧ ∀ u1 u2, RelV v u1 → RelV w u2 → EqIn X.prog X.w A s u1 u2 c) : Hit X.prog X.w A s b es[i] es2 c := by
  cases ks with
  | k l =>
    cases ls with
    | t _ => cases al
    | k l' =>
      have hl : l.length = vs.length := l1
      have hl' : l'.length = ws.length := l2
      obtain ⟨_, _, va, ra, oa, esa, epa, ga, _, da, kya, pra, _⟩ := dk_rd I.hok h1
      obtain ⟨_, _, vb, rb, ob, esb, epb, gb, _, db, kyb, prb, _⟩ := dk_rd I.hok h2
      rw [g1] at ga; cases ga
      rw [g2] at gb; cases gb
      rw [d1] at da; cases da
      rw [d2] at db; cases db
      have sz : es.size = va.length := by rw [← pra.length]; exact Array.length_toList.symm
      have sv : va.length = vs.length := by rw [← ra.length, List.length_zip, hl, Nat.min_self]
      have hk : i < l.length := by omega
      have hv : i < vs.length := by omega
      have e1 : (l.zip vs)[i]? = some (l[i], vs[i]) := zip_get (List.getElem?_eq_getElem hk) (List.getElem?_eq_getElem hv)
      obtain ⟨u, hu1, ru⟩ := kv_get ra e1
      obtain ⟨hkey, hval⟩ := pra.get? (i := i) (e := es[i]) (k := l[i]) (v := u) (by rw [Array.getElem?_toList]; exact Array.getElem?_eq_getElem hi) hu1
      obtain ⟨k', hk', hh⟩ := kya es[i] (Array.getElem_mem hi)
      have ekk : k' = l[i] := (mixKind X.prog X.w).inj _ _ _ hk' hkey
      rw [ekk] at hh
      have hfind : findBy (mixKind X.prog X.w).is es2 l[i] = valueAt vb l[i] := by
        rw [← prb.find l[i]]
        clear what d2 prb kyb
        obtain ⟨ll⟩ := es2
        simp [findBy]
      have look := rel_look (rb.val l[i])
      rw [lookK_val] at look
      refine ⟨es2.findIdx? fun e => (mixKind X.prog X.w).is l[i] e.key, fun E Q q => by rw [hh]; exact wpAny_dictFind_of hkey g2 d2 kyb q, ?_⟩
      cases hj : es2.findIdx? fun e => (mixKind X.prog X.w).is l[i] e.key with
      | none =>
        have hn : valueAt vb l[i] = none := by rw [← hfind, findBy_of_findIdx?, hj]
        rcases look with ⟨z, _⟩ | ⟨v, w, z1, z2, z3⟩
        · rcases what (.k l[i]) vs[i] (by simp [Ks.nth, hk]) (List.getElem?_eq_getElem hv) with y | ⟨w, y, _⟩
          · exact y.2
          · rw [show (Ks.k l').look ws (.k l[i]) = lookK l' ws l[i] from rfl, z] at y; cases y
        · rw [hn] at z2; cases z2
      | some j =>
        obtain ⟨hjlt, _, _⟩ := Array.findIdx?_eq_some_iff_getElem.mp hj
        have hv' : valueAt vb l[i] = some es2[j].val := by
          rw [← hfind, findBy_of_findIdx?, hj]
          simp [Array.getElem?_eq_getElem hjlt]
        rcases look with ⟨_, z⟩ | ⟨v, w, z1, z2, z3⟩
        · rw [hv'] at z; cases z
        · rw [hv'] at z2; cases z2
          rcases what (.k l[i]) vs[i] (by simp [Ks.nth, hk]) (List.getElem?_eq_getElem hv) with y | ⟨w, y, eq⟩
          · rw [show (Ks.k l').look ws (.k l[i]) = lookK l' ws l[i] from rfl, z1] at y; cases y.1
          · rw [show (Ks.k l').look ws (.k l[i]) = lookK l' ws l[i] from rfl, z1] at y; cases y
            exact ⟨hjlt, eq _ _ (by rw [hval]; exact ru) z3⟩
  | t l =>
    cases ls with
    | k _ => cases al
    | t l' =>
      have hl : l.length = vs.length := l1
      have hl' : l'.length = ws.length := l2
      obtain ⟨_, _, xa, ka, oa, esa, epa, ga, _, da, hea, hisa, _⟩ := dt_rd I.hok h1
      obtain ⟨_, _, xb, kb, ob, esb, epb, gb, _, db, heb, hisb, hnb⟩ := dt_rd I.hok h2
      rw [g1] at ga; cases ga
      rw [g2] at gb; cases gb
      rw [d1] at da; cases da
      rw [d2] at db; cases db
      have sz : es.size = xa.length := size_of_entries hea
      have sv : xa.length = vs.length := by rw [← Paired.length ka, List.length_zip, hl, Nat.min_self]
      have szb : es2.size = xb.length := size_of_entries heb
      have hk : i < l.length := by omega
      have hv : i < vs.length := by omega
      obtain ⟨y, hy, e1, e2, e3⟩ := paired_get ka (zip_get (List.getElem?_eq_getElem hk) (List.getElem?_eq_getElem hv))
      have ent := entry_at hea i
      rw [hy, Array.getElem?_eq_getElem hi] at ent
      have ent : es[i] = entryOfKey (tupleKind (mixKind X.prog X.w)) y := Option.some.inj ent
      have keyok : (tupleKind (mixKind X.prog X.w)).is s.heap l[i] y.2.1 := key_of I.hok e2
      have look := rel_look (KT.val kb l[i])
      rw [lookK_val] at look
      have ehash : es[i].hash = (tupleKind (mixKind X.prog X.w)).hash l[i] := by rw [ent, show l[i] = y.1 from e1]; rfl
      have ekey : es[i].key = .ref y.2.1 := by rw [ent]; rfl
      have evl : es[i].val = y.2.2 := by rw [ent]; rfl
      cases hat : atKey xb l[i] with
      | none =>
        refine ⟨none, fun E Q q => ?_, ?_⟩
        · rw [ehash, ekey]
          refine wpAny_dictFind_heap (knd := tupleKind (mixKind X.prog X.w)) hu keyok g2 d2 heb hisb hnb (fun _ => q) fun j p hj => ?_
          exfalso
          have := atKey_of_get hnb hj
          rw [hat] at this; cases this
        · rcases look with ⟨z, _⟩ | ⟨v, w, z1, z2, z3⟩
          · rcases what (.t l[i]) vs[i] (by simp [Ks.nth, hk]) (List.getElem?_eq_getElem hv) with w | ⟨w, w1, _⟩
            · exact w.2
            · rw [show (Ks.t l').look ws (.t l[i]) = lookK l' ws l[i] from rfl, z] at w1; cases w1
          · rw [hat] at z2; cases z2
      | some p =>
        obtain ⟨j, hj⟩ := get_of_atKey hat
        have hjl : j < es2.size := by rw [szb]; exact (List.getElem?_eq_some_iff.mp hj).1
        have entb := entry_at heb j
        rw [hj, Array.getElem?_eq_getElem hjl] at entb
        have entb : es2[j] = entryOfKey (tupleKind (mixKind X.prog X.w)) (l[i], p) := Option.some.inj entb
        refine ⟨some j, fun E Q q => ?_, hjl, ?_⟩
        · rw [ehash, ekey]
          refine wpAny_dictFind_heap (knd := tupleKind (mixKind X.prog X.w)) hu keyok g2 d2 heb hisb hnb (fun no => absurd hj (no j p)) fun j' p' hj' => ?_
          have : j' = j := same_place hnb hj' hj
          rw [this]; exact q
        · rcases look with ⟨_, z⟩ | ⟨v, w, z1, z2, z3⟩
          · rw [hat] at z; cases z
          · rw [hat] at z2; cases z2
            rcases what (.t l[i]) vs[i] (by simp [Ks.nth, hk]) (List.getElem?_eq_getElem hv) with y | ⟨w, y, eq⟩
            · rw [show (Ks.t l').look ws (.t l[i]) = lookK l' ws l[i] from rfl, z1] at y; cases y.1
            · rw [show (Ks.t l').look ws (.t l[i]) = lookK l' ws l[i] from rfl, z1] at y; cases y
              exact eq _ _ (by rw [evl]; exact e3) (by rw [entb]; exact z3)
where
  same_place {xb : List (List Key × Addr × Value)} {k : List Key} {j j' : Nat} {p p' : Addr × Value} (hn : (xb.map (·.1)).Nodup) (h : xb[j]? = some (k, p)) (h' : xb[j']? = some (k, p')) : j = j' := by
    have e1 : (xb.map (·.1))[j]? = some k := by rw [List.getElem?_map, h]; rfl
    have e2 : (xb.map (·.1))[j']? = some k := by rw [List.getElem?_map, h']; rfl
    obtain ⟨p1, q1⟩ := List.getElem?_eq_some_iff.mp e1
    obtain ⟨p2, q2⟩ := List.getElem?_eq_some_iff.mp e2
    exact (List.getElem_inj (h₀ := p1) (h₁ := p2) hn).mp (q1.trans q2.symm)
  get_of_atKey {xb : List (List Key × Addr × Value)} {k : List Key} {p : Addr × Value} (h : atKey xb k = some p) : ∃ j, xb[j]? = some (k, p) := by
    simp only [atKey, Option.map_eq_some_iff] at h
    obtain ⟨x, h1, rfl⟩ := h
    have h2 := List.mem_of_find?_eq_some h1
    have h3 : x.1 = k := by simpa using List.find?_some h1
    obtain ⟨j, hj⟩ := List.getElem?_of_mem h2
    exact ⟨j, by rw [hj, ← h3]⟩
  atKey_of_get {xb : List (List Key × Addr × Value)} {k : List Key} {j : Nat} {p : Addr × Value} (hn : (xb.map (·.1)).Nodup) (h : xb[j]? = some (k, p)) : (atKey xb k).isSome = true := by
    have hm : (k, p) ∈ xb := List.mem_of_getElem? h
    simp only [atKey, Option.isSome_map, List.find?_isSome]
    exact ⟨(k, p), hm, by simp⟩
end
end VI
end
section
namespace VI
open PySem PySem.Spec PyProof.Rows L2
open PySem.SeqAt (EqIn EqAt rcIn_lists rcIn_tuples)
inductive Sh where
  | tu (xs : List D) | li (xs : List D) | di (ks : Ks) (xs : List D)
def shO (h : Bs) (d : D) : Option Sh := match d with
  | .tup xs => some (.tu xs)
  | .tpl xs => some (.tu xs)
  | .lst xs => some (.li xs)
  | .dct ks xs => some (.di ks xs)
  | .ref b => (match h.bs[b]? with
    | some (.lst _ xs) => some (.li xs)
    | some (.dct _ ks xs) => some (.di ks xs)
    | some (.dfz ks xs) => some (.di ks xs)
    | _ => none)
  | _ => none
def entsZ {κ : Type} (f : κ → Ko) : List κ → List D → List (Ko × D)
  | k :: ks, x :: xs => (f k, x) :: entsZ f ks xs
  | _, _ => []
def Ks.ents (ks : Ks) (xs : List D) : List (Ko × D) := match ks with
  | .k l => entsZ Ko.k l xs
  | .t l => entsZ Ko.t l xs
def Ks.nd : Ks → Prop
  | .k l => l.Nodup
  | .t l => l.Nodup
def zipD : List D → List D → List (D × D)
  | x :: xs, y :: ys => (x, y) :: zipD xs ys
  | _, _ => []
def eqS (f : D → D → Option Bool) (h : Bs) (d e : D) : Option Bool := match shO h d, shO h e with
  | some (.tu xs), some (.tu ys) => (mapO (fun p => f p.1 p.2) (zipD xs ys)).map fun bs => bs.all id && xs.length == ys.length
  | some (.li xs), some (.li ys) => if xs.length = ys.length then (mapO (fun p => f p.1 p.2) (zipD xs ys)).map fun bs => bs.all id else some false
  | some (.di ks xs), some (.di ls ys) => if ks.len = ls.len then (if ks.alike ls then (mapO (fun (p : Ko × D) => match ls.look ys p.1 with | none => some false | some y => f p.2 y) (ks.ents xs)).map fun bs => bs.all id else if ks.len = 0 then some true else none) else some false
  | _, _ => none
def eqT : Nat → Bs → D → D → Option Bool
  | 0, _, _, _ => none
  | n + 1, h, d, e => match py pyN h d, py pyN h e with
    | some p, some q => some (PyData.eqv p q)
    | _, _ => eqS (eqT n h) h d e
theorem zipD_get : ∀ {xs ys : List D} {i : Nat} {p : D × D}, (zipD xs ys)[i]? = some p ↔ xs[i]? = some p.1 ∧ ys[i]? = some p.2
  | [], ys, i, p => by simp [zipD]
  | x :: xs, [], i, p => by simp [zipD]
  | x :: xs, y :: ys, 0, p => by
    simp only [zipD, List.getElem?_cons_zero, Option.some.injEq]
    exact ⟨fun e => by rw [← e]; exact ⟨rfl, rfl⟩, fun e => Prod.ext e.1 e.2⟩
  | x :: xs, y :: ys, i + 1, p => by simp only [zipD, List.getElem?_cons_succ]; exact zipD_get
theorem zipD_len : ∀ (xs ys : List D), (zipD xs ys).length = min xs.length ys.length
  | [], _ => by simp [zipD]
  | _ :: _, [] => by simp [zipD]
  | x :: xs, y :: ys => by simp [zipD, zipD_len xs ys]
theorem ents_zip {κ : Type} {f : κ → Ko} : ∀ {l : List κ} {xs : List D} {i : Nat} {k : Ko} {x : D}, (entsZ f l xs)[i]? = some (k, x) ↔ (l[i]?).map f = some k ∧ xs[i]? = some x
  | [], xs, i, k, x => by simp [entsZ]
  | a :: l, [], i, k, x => by simp [entsZ]
  | a :: l, y :: xs, 0, k, x => by simp [entsZ]
  | a :: l, y :: xs, i + 1, k, x => by simp only [entsZ, List.getElem?_cons_succ]; exact ents_zip
theorem ents_zlen {κ : Type} {f : κ → Ko} : ∀ (l : List κ) (xs : List D), (entsZ f l xs).length = min l.length xs.length
  | [], _ => by simp [entsZ]
  | _ :: _, [] => by simp [entsZ]
  | a :: l, x :: xs => by simp [entsZ, ents_zlen l xs]
theorem ents_get {ks : Ks} {xs : List D} {i : Nat} {k : Ko} {x : D} : (ks.ents xs)[i]? = some (k, x) ↔ ks.nth i = some k ∧ xs[i]? = some x := by cases ks <;> exact ents_zip
theorem ents_len (ks : Ks) (xs : List D) : (ks.ents xs).length = min ks.len xs.length := by cases ks <;> exact ents_zlen _ _
theorem mapO_lenD {α β : Type} {f : α → Option β} : ∀ {l : List α} {ys : List β}, mapO f l = some ys → ys.length = l.length
  | [], ys, e => by simp only [mapO] at e; cases e; rfl
  | x :: l, ys, e => by obtain ⟨y, zs, e1, e2, rfl⟩ := mapO_some e; simp [mapO_lenD e2]
theorem mapO_atD {α β : Type} {f : α → Option β} : ∀ {l : List α} {ys : List β} {i : Nat} {x : α}, mapO f l = some ys → l[i]? = some x → ∃ y, ys[i]? = some y ∧ f x = some y
  | [], _, _, _, _, e => by simp at e
  | z :: l, ys, 0, x, e, g => by
    obtain ⟨y, zs, e1, e2, rfl⟩ := mapO_some e
    simp at g; subst g
    exact ⟨y, rfl, e1⟩
  | z :: l, ys, i + 1, x, e, g => by
    obtain ⟨y, zs, e1, e2, rfl⟩ := mapO_some e
    exact mapO_atD (i := i) e2 (by simpa using g)
theorem all_range (bs : List Bool) : ∀ n, n = bs.length → (List.range n).all (fun j => bs.getD j true) = bs.all id := by
  intro n hn
  subst hn
  apply Bool.eq_iff_iff.mpr
  simp only [List.all_eq_true, List.mem_range, id]
  constructor
  · intro h b hb
    obtain ⟨j, hj⟩ := List.getElem?_of_mem hb
    have := h j (List.getElem?_eq_some_iff.mp hj).1
    rw [List.getD_eq_getElem?_getD, hj] at this
    exact this
  · intro h j hj
    rw [List.getD_eq_getElem?_getD, List.getElem?_eq_getElem hj]
    exact h _ (List.getElem_mem hj)
section
variable {X : Cx} {T : Tb} {W : WX} {pins : List (Addr × Obj)} {μ μ' : Mu} {H H' : Hp} {h : Bs} {σ : Sg} {s : Shared}
theorem some_val (v : V) : ∃ u, RelV v u := by
  cases v with
  | non => exact ⟨_, rfl⟩
  | bl b => exact ⟨_, rfl⟩
  | int i => exact ⟨_, 0, rfl⟩
  | str x => exact ⟨_, 0, rfl⟩
  | byt b => exact ⟨_, 0, rfl⟩
  | flt b => exact ⟨_, 0, rfl⟩
  | ref a => exact ⟨_, rfl⟩
  | ty n => exact ⟨_, rfl⟩
def ShAt (T : Tb) (μ : Mu) (H : Hp) (a : Addr) : Sh → Prop
  | .tu xs => ∃ vs, Rd H a (.tup vs) ∧ Reps T μ H xs vs
  | .li xs => ∃ vs, H a = some (.lst vs) ∧ Reps T μ H xs vs
  | .di ks xs => ∃ vs, Rd H a (kvO ks vs) ∧ ks.len = vs.length ∧ Reps T μ H xs vs
theorem Rel.shO (r : Rel T μ h H) {d : D} {v : V} {z : Sh} (q : Rep T μ H d v) (e : VI.shO h d = some z) : ∃ a, v = .ref a ∧ ShAt T μ H a z := by
  cases d with
  | tup xs => simp only [VI.shO] at e; cases e; obtain ⟨a, vs, e1, e2, _, e3⟩ := q.tupOf; exact ⟨a, e1, vs, .inl e2, e3⟩
  | tpl xs => simp only [VI.shO] at e; cases e; obtain ⟨a, o, vs, e1, e2, _, _, e3⟩ := q.tplOf; exact ⟨a, e1, vs, .inr ⟨o, e2⟩, e3⟩
  | lst xs => simp only [VI.shO] at e; cases e; obtain ⟨a, vs, e1, e2, e3⟩ := r.lstS (xs := xs) q rfl; exact ⟨a, e1, vs, e2, e3⟩
  | dct ks xs => simp only [VI.shO] at e; cases e; obtain ⟨a, vs, e1, e2, e3, e4⟩ := r.dctO (ks := ks) (xs := xs) q rfl; exact ⟨a, e1, vs, e2, e3, e4⟩
  | ref b =>
    simp only [VI.shO] at e
    split at e
    · rename_i lk xs hb
      cases e
      obtain ⟨a, vs, e1, e2, e3⟩ := r.lstS (d := .ref b) (xs := xs) q (by simp [VI.lstS, hb])
      exact ⟨a, e1, vs, e2, e3⟩
    · rename_i lk ks xs hb
      cases e
      obtain ⟨a, vs, e1, e2, e3, e4⟩ := r.dctO (d := .ref b) (ks := ks) (xs := xs) q (by simp [VI.dctO, hb])
      exact ⟨a, e1, vs, e2, e3, e4⟩
    · rename_i ks xs hb
      cases e
      obtain ⟨a, vs, e1, e2, e3, e4⟩ := r.dctO (d := .ref b) (ks := ks) (xs := xs) q (by simp [VI.dctO, hb])
      exact ⟨a, e1, vs, e2, e3, e4⟩
    · cases e
  | _ => simp [VI.shO] at e
theorem rd_one {a : Addr} {u w : HO} (hu : ∀ o z, u ≠ .frz o z) (hw : ∀ o z, w ≠ .frz o z) (h1 : Rd H a u) (h2 : Rd H a w) : u = w := by
  rcases h1 with h1 | ⟨o, h1⟩ <;> rcases h2 with h2 | ⟨o', h2⟩ <;> rw [h1] at h2
  · exact Option.some.inj h2
  · exact absurd (Option.some.inj h2) (hu _ _)
  · exact absurd (Option.some.inj h2).symm (hw _ _)
  · exact (HO.frz.inj (Option.some.inj h2)).2
theorem zip_eq {α β : Type} : ∀ {l l' : List α} {vs ws : List β}, l.length = vs.length → l'.length = ws.length → l.zip vs = l'.zip ws → l = l' ∧ vs = ws
  | [], l', [], ws, _, h2, e => by
    cases l' with
    | nil => cases ws with
      | nil => exact ⟨rfl, rfl⟩
      | cons _ _ => simp at h2
    | cons _ _ => cases ws with
      | nil => simp at h2
      | cons _ _ => simp at e
  | x :: l, l', v :: vs, ws, h1, h2, e => by
    cases l' with
    | nil => simp at e
    | cons y l' => cases ws with
      | nil => simp at h2
      | cons w ws =>
        simp only [List.zip_cons_cons, List.cons.injEq, Prod.mk.injEq] at e
        obtain ⟨a, b⟩ := zip_eq (by simpa using h1) (by simpa using h2) e.2
        exact ⟨by rw [e.1.1, a], by rw [e.1.2, b]⟩
  | [], _, _ :: _, _, h1, _, _ => by simp at h1
  | _ :: _, _, [], _, h1, _, _ => by simp at h1
theorem kvO_eq {ks ls : Ks} {vs ws : List V} (l1 : ks.len = vs.length) (l2 : ls.len = ws.length) (e : kvO ks vs = kvO ls ws) : ks = ls ∧ vs = ws := by
  cases ks with
  | k l => cases ls with
    | k l' =>
      obtain ⟨a, b⟩ := zip_eq l1 l2 (HO.dK.inj e)
      exact ⟨by rw [a], b⟩
    | t l' => exact nomatch (show HO.dK _ = HO.dT _ from e)
  | t l => cases ls with
    | k l' => exact nomatch (show HO.dT _ = HO.dK _ from e)
    | t l' =>
      obtain ⟨a, b⟩ := zip_eq l1 l2 (HO.dT.inj e)
      exact ⟨by rw [a], b⟩
theorem kvO_nf {ks : Ks} {vs : List V} : ∀ o z, kvO ks vs ≠ .frz o z := fun o z e => by cases ks <;> exact nomatch e
theorem look_own {κ : Type} [DecidableEq κ] : ∀ {l : List κ} {ys : List D} {i : Nat} {k : κ} {y : D}, l.Nodup → l[i]? = some k → lookK l ys k = some y → ys[i]? = some y
  | [], _, _, _, _, _, e, _ => by simp at e
  | a :: l, [], _, _, _, _, _, e => by simp [lookK] at e
  | a :: l, z :: ys, 0, k, y, hn, e, g => by
    simp at e; subst e
    simp [lookK] at g; subst g; rfl
  | a :: l, z :: ys, i + 1, k, y, hn, e, g => by
    have e : l[i]? = some k := by simpa using e
    have hm : k ∈ l := List.mem_of_getElem? e
    have hne : ¬ a = k := fun q => (List.nodup_cons.mp hn).1 (q ▸ hm)
    rw [lookK, if_neg hne] at g
    simpa using look_own (List.nodup_cons.mp hn).2 e g
theorem look_has {κ : Type} [DecidableEq κ] : ∀ {l : List κ} {ys : List D} {i : Nat} {k : κ}, l.length = ys.length → l[i]? = some k → lookK l ys k ≠ none
  | [], _, _, _, _, e => by simp at e
  | a :: l, [], _, _, hl, _ => by simp at hl
  | a :: l, z :: ys, i, k, hl, e => by
    rw [lookK]
    split
    · simp
    · rename_i hne
      cases i with
      | zero => simp at e; exact absurd e hne
      | succ i => exact look_has (by simpa using hl) (by simpa using e)
theorem keys_nodup (I : Inv X pins σ H s) {a : Addr} {ks : Ks} {vs : List V} (hd : Rd H a (kvO ks vs)) (l : ks.len = vs.length) : ks.nd := by
  cases ks with
  | k l' =>
    have hl : l'.length = vs.length := l
    obtain ⟨_, _, ws, kv, dd⟩ := dk_rd I.hok hd
    have e := kv.keys
    rw [List.map_fst_zip (by omega)] at e
    obtain ⟨_, _, _, _, _, _, _, _, hn⟩ := dd
    show l'.Nodup
    rw [e]; exact hn
  | t l' =>
    have hl : l'.length = vs.length := l
    obtain ⟨_, _, xs, kt, dd⟩ := dt_rd I.hok hd
    have e := kt_map (f := id) kt
    rw [show (l'.zip vs).map (fun p => id p.1) = l' from List.map_fst_zip (by omega)] at e
    show l'.Nodup
    rw [← e]; exact dd.nodup
theorem ents_own {ks : Ks} {xs ys : List D} (hn : ks.nd) (ly : ks.len = ys.length) {i : Nat} {k : Ko} {x : D} (e : (ks.ents xs)[i]? = some (k, x)) : ∃ y, ks.look ys k = some y ∧ ys[i]? = some y := by
  obtain ⟨e1, e2⟩ := ents_get.mp e
  cases ks with
  | k l =>
    simp only [Ks.nth, Option.map_eq_some_iff] at e1
    obtain ⟨k', e1, rfl⟩ := e1
    cases z : lookK l ys k' with
    | none => exact absurd z (look_has ly e1)
    | some y => exact ⟨y, z, look_own hn e1 z⟩
  | t l =>
    simp only [Ks.nth, Option.map_eq_some_iff] at e1
    obtain ⟨k', e1, rfl⟩ := e1
    cases z : lookK l ys k' with
    | none => exact absurd z (look_has ly e1)
    | some y => exact ⟨y, z, look_own hn e1 z⟩
theorem rd_dict (ok : HOk X.prog X.w H s.heap) {a : Addr} {ks : Ks} {vs : List V} (l : ks.len = vs.length) (e : Rd H a (kvO ks vs)) : (a == sysModules) = false ∧ ∃ o es ep, s.heap.get? a = some o ∧ o.ExactDict ∧ o.data = .dict es ep ∧ es.size = ks.len := by
  cases ks with
  | k m =>
    have hl : m.length = vs.length := l
    obtain ⟨_, lo, ws, kv, o, es, ep, g, x, dd, _, pr, _⟩ := dk_rd ok e
    refine ⟨lo, o, es, ep, g, x, dd, ?_⟩
    have z1 : es.size = ws.length := by rw [← pr.length]; exact Array.length_toList.symm
    have z2 : ws.length = m.length := by rw [← kv.length, List.length_zip, hl, Nat.min_self]
    exact z1.trans z2
  | t m =>
    have hl : m.length = vs.length := l
    obtain ⟨_, lo, ws, kt, o, es, ep, g, x, dd, he, _, _⟩ := dt_rd ok e
    refine ⟨lo, o, es, ep, g, x, dd, ?_⟩
    have z1 : es.size = ws.length := size_of_entries he
    have z2 : ws.length = m.length := by rw [← Paired.length kt, List.length_zip, hl, Nat.min_self]
    exact z1.trans z2
theorem all_true {α : Type} {f : α → Option Bool} {l : List α} {bs : List Bool} (e : mapO f l = some bs) (w : ∀ x ∈ l, ∀ b, f x = some b → b = true) : bs.all id = true := by
  induction l generalizing bs with
  | nil => simp only [mapO] at e; cases e; rfl
  | cons x l ih =>
    obtain ⟨y, zs, e1, e2, rfl⟩ := mapO_some e
    have a := w x (by simp) y e1
    have b := ih e2 fun z hz => w z (by simp [hz])
    simp [a]
    simpa using b
theorem eqT_same (r : Rel T μ h H) (hK : X.K = T.K) (I : Inv X pins σ H s) : ∀ (n : Nat) (d e : D) (v : V) (b : Bool), Rep T μ H d v → Rep T μ H e v → eqT n h d e = some b → b = true
  | 0, _, _, _, _, _, _, e => by cases e
  | n + 1, d, e, v, b, rd, re, q => by
    have ih := eqT_same r hK I n
    have pair : ∀ {xs ys : List D} {ws : List V} {bs : List Bool}, Reps T μ H xs ws → Reps T μ H ys ws → mapO (fun p => eqT n h p.1 p.2) (zipD xs ys) = some bs → bs.all id = true := by
      intro xs ys ws bs q1 q2 z
      refine all_true z ?_
      rintro ⟨x, y⟩ hm b' e'
      obtain ⟨i, hi⟩ := List.getElem?_of_mem hm
      obtain ⟨g1, g2⟩ := zipD_get.mp hi
      obtain ⟨v1, k1, k2⟩ := q1.get g1
      obtain ⟨v2, k3, k4⟩ := q2.get g2
      rw [k1] at k3; cases k3
      exact ih x y v1 b' k2 k4 e'
    simp only [eqT] at q
    split at q
    · rename_i p p' hp hp'
      cases q
      have k1 := py_ok r _ d v p rd hp
      have k2 := py_ok r _ e v p' re hp'
      obtain ⟨u, ru⟩ := some_val v
      obtain ⟨as, r1⟩ := Dp.reads I p v u (by rw [hK]; exact k1.1) ru
      obtain ⟨bs, r2⟩ := Dp.reads I p' v u (by rw [hK]; exact k2.1) ru
      rw [SeqAt.plain_unique p p' u as bs (PyData.plain_of_canLay0 _ k1.2.2) r1 r2]
      exact SeqAt.eqv_refl_plain _ (PyData.plain_of_canLay0 _ k2.2.2)
    · unfold eqS at q
      split at q
      · rename_i xs ys s1 s2
        obtain ⟨a, rfl, vs, d1, q1⟩ := r.shO rd s1
        obtain ⟨a', ea, ws, d2, q2⟩ := r.shO re s2
        cases ea
        cases HO.tup.inj (rd_one (fun _ _ x => nomatch x) (fun _ _ x => nomatch x) d1 d2)
        simp only [Option.map_eq_some_iff] at q
        obtain ⟨bs, z, rfl⟩ := q
        rw [pair q1 q2 z, q1.length, q2.length]; simp
      · rename_i xs ys s1 s2
        obtain ⟨a, rfl, vs, d1, q1⟩ := r.shO rd s1
        obtain ⟨a', ea, ws, d2, q2⟩ := r.shO re s2
        cases ea
        rw [d1] at d2
        cases d2
        rw [if_pos (by rw [q1.length, q2.length])] at q
        simp only [Option.map_eq_some_iff] at q
        obtain ⟨bs, z, rfl⟩ := q
        exact pair q1 q2 z
      · rename_i ks xs ls ys s1 s2
        obtain ⟨a, rfl, vs, d1, l1, q1⟩ := r.shO rd s1
        obtain ⟨a', ea, ws, d2, l2, q2⟩ := r.shO re s2
        cases ea
        obtain ⟨rfl, rfl⟩ := kvO_eq l1 l2 (rd_one kvO_nf kvO_nf d1 d2)
        rw [if_pos rfl] at q
        split at q
        · simp only [Option.map_eq_some_iff] at q
          obtain ⟨bs, z, rfl⟩ := q
          refine all_true z ?_
          rintro ⟨k, x⟩ hm b' e'
          obtain ⟨i, hi⟩ := List.getElem?_of_mem hm
          obtain ⟨y, lk, hy⟩ := ents_own (ys := ys) (keys_nodup I d1 l1) (by rw [l1, q2.length]) hi
          simp only [lk] at e'
          obtain ⟨v1, k1, k2⟩ := q1.get (ents_get.mp hi).2
          obtain ⟨v2, k3, k4⟩ := q2.get hy
          rw [k1] at k3; cases k3
          exact ih x y v1 b' k2 k4 e'
        · split at q
          · cases q; rfl
          · cases q
      · cases q
theorem rcT (r : Rel T μ h H) (I : Inv X pins σ H s) {f : D → D → Option Bool} {A : Around} {d e : D} {x y : V} {b : Bool} (ih : ∀ (d e : D) (x y : V) (u v : Value) (b : Bool), Rep T μ H d x → Rep T μ H e y → RelV x u → RelV y v → f d e = some b → EqIn X.prog X.w A.in1 s u v b)
    (rd : Rep T μ H d x) (re : Rep T μ H e y) (q : eqS f h d e = some b) (hu : A.units + 2 < cLine) : ∃ a a', x = .ref a ∧ y = .ref a' ∧ ∀ (E : Value → Shared → Prop) (Q : Value → Shared → Prop), Q (.bool b) s → wpAny (model X.prog X.w) A (richCompare .Eq (.ref a) (.ref a')) Q E s := by
  have pair : ∀ {xs ys : List D} {vs ws : List V} {us us' : List Value} {bs : List Bool}, Reps T μ H xs vs → Reps T μ H ys ws → Vals vs us → Vals ws us' → mapO (fun p => f p.1 p.2) (zipD xs ys) = some bs →
      bs.length = min us.toArray.size us'.toArray.size ∧ ∀ j (h1 : j < us.toArray.size) (h2 : j < us'.toArray.size), EqIn X.prog X.w A.in1 s us.toArray[j] us'.toArray[j] (bs.getD j true) := by
    intro xs ys vs ws us us' bs q1 q2 r1 r2 z
    have e1 : us.length = xs.length := by rw [← r1.length, q1.length]
    have e2 : us'.length = ys.length := by rw [← r2.length, q2.length]
    refine ⟨by rw [mapO_lenD z, zipD_len]; simp [e1, e2], fun j h1 h2 => ?_⟩
    have h1 : j < us.length := by simpa using h1
    have h2 : j < us'.length := by simpa using h2
    have g1 : xs[j]? = some xs[j] := List.getElem?_eq_getElem (by omega)
    have g2 : ys[j]? = some ys[j] := List.getElem?_eq_getElem (by omega)
    obtain ⟨b', hb, eb⟩ := mapO_atD z (zipD_get (p := (xs[j], ys[j])).mpr ⟨g1, g2⟩)
    obtain ⟨v1, k1, k2⟩ := q1.get g1
    obtain ⟨v2, k3, k4⟩ := q2.get g2
    obtain ⟨w1, m1, m2⟩ := r1.get k1
    obtain ⟨w2, m3, m4⟩ := r2.get k3
    rw [List.getElem?_eq_getElem h1] at m1; cases m1
    rw [List.getElem?_eq_getElem h2] at m3; cases m3
    rw [List.getD_eq_getElem?_getD, hb]
    exact ih _ _ _ _ _ _ _ k2 k4 m2 m4 eb
  unfold eqS at q
  split at q
  · rename_i xs ys s1 s2
    obtain ⟨a, rfl, vs, d1, q1⟩ := r.shO rd s1
    obtain ⟨a', rfl, ws, d2, q2⟩ := r.shO re s2
    simp only [Option.map_eq_some_iff] at q
    obtain ⟨bs, z, rfl⟩ := q
    have t1 : SqT X.K H a vs := by rcases d1 with d1 | ⟨o, d1⟩; exact SqT.of d1; exact SqT.fz d1
    have t2 : SqT X.K H a' ws := by rcases d2 with d2 | ⟨o, d2⟩; exact SqT.of d2; exact SqT.fz d2
    obtain ⟨us, w1, i1, _⟩ := I.tuple t1
    obtain ⟨us', w2, i2, _⟩ := I.tuple t2
    obtain ⟨bl, all⟩ := pair q1 q2 w1 w2 z
    refine ⟨a, a', rfl, rfl, fun E Q hq => ?_⟩
    refine rcIn_tuples i1 i2 (by omega) all ?_
    rw [all_range bs _ bl.symm]
    have e1 : us.length = xs.length := by rw [← w1.length, q1.length]
    have e2 : us'.length = ys.length := by rw [← w2.length, q2.length]
    simpa [e1, e2] using hq
  · rename_i xs ys s1 s2
    obtain ⟨a, rfl, vs, d1, q1⟩ := r.shO rd s1
    obtain ⟨a', rfl, ws, d2, q2⟩ := r.shO re s2
    obtain ⟨us, w1, i1, _⟩ := I.list (SqL.of d1)
    obtain ⟨us', w2, i2, _⟩ := I.list (SqL.of d2)
    have e1 : us.length = xs.length := by rw [← w1.length, q1.length]
    have e2 : us'.length = ys.length := by rw [← w2.length, q2.length]
    refine ⟨a, a', rfl, rfl, fun E Q hq => ?_⟩
    split at q
    · rename_i hl
      simp only [Option.map_eq_some_iff] at q
      obtain ⟨bs, z, rfl⟩ := q
      obtain ⟨bl, all⟩ := pair q1 q2 w1 w2 z
      refine rcIn_lists (i1.isList) (i2.isList) (by simp [e1, e2, hl]) (by omega) all ?_
      have : us.toArray.size = bs.length := by rw [bl]; simp [e1, e2, hl]
      rw [all_range bs _ this]
      exact hq
    · rename_i hl
      cases q
      exact SeqAt.RcAt.lists_lengths (i1.isList) (i2.isList) (by simpa [e1, e2] using hl) (by omega) _ _ E Q hq
  · rename_i ks xs ls ys s1 s2
    obtain ⟨a, rfl, vs, d1, l1, q1⟩ := r.shO rd s1
    obtain ⟨a', rfl, ws, d2, l2, q2⟩ := r.shO re s2
    obtain ⟨lo1, o1, es1, ep1, g1, x1, da1, sz1⟩ := rd_dict I.hok l1 d1
    obtain ⟨lo2, o2, es2, ep2, g2, x2, da2, sz2⟩ := rd_dict I.hok l2 d2
    refine ⟨a, a', rfl, rfl, fun E Q hq => ?_⟩
    split at q
    · rename_i hl
      split at q
      · rename_i al
        simp only [Option.map_eq_some_iff] at q
        obtain ⟨bs, z, rfl⟩ := q
        have hx : xs.length = ks.len := by rw [l1, q1.length]
        have bl : bs.length = es1.size := by rw [mapO_lenD z, ents_len, sz1, hx, Nat.min_self]
        refine eq_raw (c := fun i => bs.getD i true) lo1 lo2 g1 x1 da1 g2 x2 da2 (by omega) (fun _ i hi => hit_kv I d1 l1 d2 l2 al g1 da1 g2 da2 (by show A.units + 1 < cLine; omega) hi ?_) ?_
        · intro k v' hk hv
          have hv' : i < xs.length := by rw [q1.length]; exact (List.getElem?_eq_some_iff.mp hv).1
          have gx : xs[i]? = some xs[i] := List.getElem?_eq_getElem hv'
          obtain ⟨b', hb, eb⟩ := mapO_atD z (ents_get.mpr ⟨hk, gx⟩)
          rw [List.getD_eq_getElem?_getD, hb]
          cases lk : ls.look ys k with
          | none =>
            simp only [lk] at eb
            cases eb
            exact .inl ⟨look_reps0 q2 lk, rfl⟩
          | some y' =>
            simp only [lk] at eb
            obtain ⟨w, lw, rw'⟩ := look_reps q2 lk
            obtain ⟨v1, k1, k2⟩ := q1.get gx
            rw [hv] at k1; cases k1
            exact .inr ⟨w, lw, fun u1 u2 t1 t2 => ih _ _ _ _ _ _ _ k2 rw' t1 t2 eb⟩
        · rw [all_range bs _ bl.symm]
          have : (es1.size == es2.size) = true := by simp [sz1, sz2, hl]
          rw [this, Bool.true_and]
          exact hq
      · split at q
        · rename_i hz
          cases q
          refine eq_raw (c := fun i => true) lo1 lo2 g1 x1 da1 g2 x2 da2 (by omega) (fun _ i hi => absurd hi (by omega)) ?_
          have : (es1.size == es2.size) = true := by simp [sz1, sz2, hl]
          rw [this, show (List.range es1.size).all (fun _ => true) = true by simp]
          exact hq
        · cases q
    · rename_i hl
      cases q
      refine eq_raw (c := fun i => true) lo1 lo2 g1 x1 da1 g2 x2 da2 (by omega) (fun e i hi => absurd e (by omega)) ?_
      have : (es1.size == es2.size) = false := by simp [sz1, sz2, hl]
      rw [this]
      simpa using hq
  · cases q
theorem eqT_in (r : Rel T μ h H) (hK : X.K = T.K) (I : Inv X pins σ H s) : ∀ (n : Nat) (A : Around) (d e : D) (x y : V) (u v : Value) (b : Bool), Rep T μ H d x → Rep T μ H e y → RelV x u → RelV y v → eqT n h d e = some b → A.units + n + 14 < cLine → EqIn X.prog X.w A s u v b
  | 0, _, _, _, _, _, _, _, _, _, _, _, _, e, _ => by cases e
  | n + 1, A, d, e, x, y, u, v, b, rd, re, ru, rv, q, hu => by
    have ih := eqT_in r hK I n A.in1
    have hu1 : A.in1.units + n + 14 < cLine := by show A.units + 1 + _ + 14 < cLine; omega
    by_cases same : x = y
    · subst same
      have := eqT_same r hK I (n + 1) d e x b rd re q
      subst this
      by_cases ref : ∃ a, x = .ref a
      · obtain ⟨a, rfl⟩ := ref
        cases ru; cases rv
        exact (SeqAt.EqAt.same _).inModel _ _
      · simp only [eqT] at q
        split at q
        · rename_i p p' hp hp'
          have k1 := py_ok r _ d x p rd hp
          have k2 := py_ok r _ e x p' re hp'
          obtain ⟨as, r1⟩ := Dp.reads I p x u (by rw [hK]; exact k1.1) ru
          obtain ⟨bs, r2⟩ := Dp.reads I p' x v (by rw [hK]; exact k2.1) rv
          have := SeqAt.eqAt_plain p p' A s u v as bs r1 r2 (PyData.plain_of_canLay0 _ k1.2.2) (PyData.plain_of_canLay0 _ k2.2.2) (by have := k1.2.1; simp only [pyN] at this; omega)
          rw [Option.some.inj q] at this
          exact this.inModel _ _
        · exfalso
          unfold eqS at q
          split at q
          · rename_i s1 s2; obtain ⟨a, z, _⟩ := r.shO rd s1; exact ref ⟨a, z⟩
          · rename_i s1 s2; obtain ⟨a, z, _⟩ := r.shO rd s1; exact ref ⟨a, z⟩
          · rename_i s1 s2; obtain ⟨a, z, _⟩ := r.shO rd s1; exact ref ⟨a, z⟩
          · cases q
    simp only [eqT] at q
    split at q
    · rename_i p p' hp hp'
      have k1 := py_ok r _ d x p rd hp
      have k2 := py_ok r _ e y p' re hp'
      obtain ⟨as, r1⟩ := Dp.reads I p x u (by rw [hK]; exact k1.1) ru
      obtain ⟨bs, r2⟩ := Dp.reads I p' y v (by rw [hK]; exact k2.1) rv
      have := SeqAt.eqAt_plain p p' A s u v as bs r1 r2 (PyData.plain_of_canLay0 _ k1.2.2) (PyData.plain_of_canLay0 _ k2.2.2) (by have := k1.2.1; simp only [pyN] at this; omega)
      cases q
      exact this.inModel _ _
    · obtain ⟨a, a', rfl, rfl, w⟩ := rcT r I (fun d e x y u v b q1 q2 q3 q4 q5 => ih d e x y u v b q1 q2 q3 q4 q5 hu1) rd re q (by omega)
      cases ru; cases rv
      exact EqIn.of_refs (fun e => same (by rw [e])) w
end
end VI
end
section
namespace VI
open PySem PySem.Spec PyProof.Rows L2
def pick (c : D → D → Bs → Bool) (f g : D → D → Bs → R D) (d e : D) (h : Bs) : R D := if c d e h then f d e h else g d e h
theorem pick_calm {c : D → D → Bs → Bool} {f g : D → D → Bs → R D} (cf : ∀ d e h, Calm (f d e h)) (cg : ∀ d e h, Calm (g d e h)) (d e : D) (h : Bs) : Calm (pick c f g d e h) := by
  unfold pick; split
  · exact cf _ _ _
  · exact cg _ _ _
theorem sOp_pick {c : D → D → Bs → Bool} {f g : D → D → Bs → R D} {sa sb : SV} (ρ : Ev) (h : Bs) : sOp (pick c f g) sa sb ρ h = sOp f sa sb ρ h ∨ sOp (pick c f g) sa sb ρ h = sOp g sa sb ρ h := by
  unfold sOp
  cases sa ρ h with
  | ok d h1 =>
    show (sb ρ h1).bind _ = (sb ρ h1).bind _ ∨ (sb ρ h1).bind _ = (sb ρ h1).bind _
    cases sb ρ h1 with
    | ok e h2 =>
      show pick c f g d e h2 = f d e h2 ∨ pick c f g d e h2 = g d e h2
      unfold pick; split
      · exact .inl rfl
      · exact .inr rfl
    | ex x h2 => exact .inl rfl
    | no => exact .inl rfl
  | ex x h1 => exact .inl rfl
  | no => exact .inl rfl
def isDk (d : D) (h : Bs) : Bool := (dctO h d).isSome
abbrev ixX := pick (fun d _ h => isDk d h) dgetD ixD
section
variable {X : Cx} {T : Tb} {W : WX} {e a b : Expr} {s s' sa sb : SV} {op : CmpOp}
theorem PE.pick {c : D → D → Bs → Bool} {f g : D → D → Bs → R D} (h1 : PE X e (tV T W (sOp f sa sb))) (h2 : PE X e (tV T W (sOp g sa sb))) : PE X e (tV T W (sOp (VI.pick c f g) sa sb)) :=
  PE.imp (PE.or h1 h2) fun σ H Q ⟨μ, ρ, h, r, e, o⟩ => by
    rcases sOp_pick (c := c) (f := f) (g := g) (sa := sa) (sb := sb) ρ h with z | z
    · exact .inl ⟨μ, ρ, h, r, e, z ▸ o⟩
    · exact .inr ⟨μ, ρ, h, r, e, z ▸ o⟩
theorem PC.or {t t' : TE} (h : PC X op a b t) (h' : PC X op a b t') : PC X op a b (fun σ H Q => t σ H Q ∨ t' σ H Q) := ⟨fun pins s σ H Q I w => by
  rcases w with w | w
  · exact h.run pins s σ H Q I w
  · exact h'.run pins s σ H Q I w⟩
theorem PC.imp' {t t' : TE} (h : PC X op a b t) (i : ∀ σ H Q, t' σ H Q → t σ H Q) : PC X op a b t' := ⟨fun pins s σ H Q I w => h.run pins s σ H Q I (i σ H Q w)⟩
theorem PC.pick {c : D → D → Bs → Bool} {f g : D → D → Bs → R D} (h1 : PC X op a b (tV T W (sOp f sa sb))) (h2 : PC X op a b (tV T W (sOp g sa sb))) : PC X op a b (tV T W (sOp (VI.pick c f g) sa sb)) :=
  PC.imp' (PC.or h1 h2) fun σ H Q ⟨μ, ρ, h, r, e, o⟩ => by
    rcases sOp_pick (c := c) (f := f) (g := g) (sa := sa) (sb := sb) ρ h with z | z
    · exact .inl ⟨μ, ρ, h, r, e, z ▸ o⟩
    · exact .inr ⟨μ, ρ, h, r, e, z ▸ o⟩
theorem OpR.or {f : Value → Value → Sem Value} {r r' : R2} (h : OpR X f r) (h' : OpR X f r') : OpR X f (fun x y H Q => r x y H Q ∨ r' x y H Q) := fun pins s σ H x y v u Q I rx ry w => by
  rcases w with w | w
  · exact h pins s σ H x y v u Q I rx ry w
  · exact h' pins s σ H x y v u Q I rx ry w
theorem OpR.pick {o : Value → Value → Sem Value} {c : D → D → Bs → Bool} {f g : D → D → Bs → R D} (h1 : OpR X o (rD2 T f)) (h2 : OpR X o (rD2 T g)) : OpR X o (rD2 T (VI.pick c f g)) :=
  OpR.imp (OpR.or h1 h2) fun x y H Q ⟨μ, h, d, e, r, rd, re, o⟩ => by
    unfold VI.pick at o
    split at o
    · exact .inl ⟨μ, h, d, e, r, rd, re, o⟩
    · exact .inr ⟨μ, h, d, e, r, rd, re, o⟩
def eqG (d e : D) (h : Bs) : R D := match eqS (eqT 10 h) h d e with
  | some b => .ok (.bl b) h
  | none => .no
theorem eqG_calm (d e : D) (h : Bs) : Calm (eqG d e h) := by
  intro x h' z; unfold eqG at z; split at z <;> cases z
theorem op_eqG (hK : X.K = T.K) (hu : X.A.units + 64 < cLine) : OpR X (compareOp .Eq) (rD2 T eqG) := by
  intro pins s σ H x y v u Q I rx ry ⟨μ, h, d, e, r, rd, re, o⟩
  unfold eqG at o
  split at o
  · rename_i b q
    obtain ⟨a, a', rfl, rfl, w⟩ := rcT (A := X.A) r I (fun d e x y u v b q1 q2 q3 q4 q5 => eqT_in r hK I 10 X.A.in1 d e x y u v b q1 q2 q3 q4 q5 (by show X.A.units + 1 + 10 + 14 < cLine; omega)) rd re q (by omega)
    cases rx; cases ry
    exact w _ _ ⟨.bl b, H, I, rfl, o μ H _ Stp.refl r (by simp only [Rep])⟩
  · exact o.elim
def plainB (d e : D) (h : Bs) : Bool := (py pyN h d).isSome && (py pyN h e).isSome
abbrev eqX := pick plainB (eqD false) eqG
theorem C_eqX : CF .Eq eqX := ⟨pick_calm (fun _ _ _ => eqD_calm) eqG_calm, fun h => OpR.pick (ov_eq h.K (by have := h.units; omega)) (op_eqG h.K (by have := h.units; omega))⟩
def pickC (c : List D → Bs → Bool) (f g : List D → Bs → R D) (ds : List D) (h : Bs) : R D := if c ds h then f ds h else g ds h
theorem CallR.pick {v : Value} {c : List D → Bs → Bool} {f g : List D → Bs → R D} (h1 : CallR X v (rDn T f)) (h2 : CallR X v (rDn T g)) : CallR X v (rDn T (pickC c f g)) :=
  CallR.imp (CallR.or h1 h2) fun xs H Q ⟨μ, h, ds, r, rd, o⟩ => by
    unfold pickC at o
    split at o
    · exact .inl ⟨μ, h, ds, r, rd, o⟩
    · exact .inr ⟨μ, h, ds, r, rd, o⟩
def isDks (ds : List D) (h : Bs) : Bool := match ds with
  | [d] => isDk d h
  | _ => false
abbrev lenX := pickC isDks dlenD lenD
abbrev listX (bx : Bool) := pickC isDks (dlistD bx) (listD bx)
end
section
variable {Z : Cfg} {t : Tx} {k : Nat} {N : List Str} {sc : Scope} {raw : Option Scope} {X : Cx} {W : WX} {pos p : Pos} {a b c e : Expr} {sa sb s3 s : SV} {x : Str}
theorem PI.imp' {tg iter : Expr} {t t' : TI} (h : PI X tg iter t) (i : ∀ σ H Q, t' σ H Q → t σ H Q) : PI X tg iter t' := ⟨fun pins s σ H Q I w => h.run pins s σ H Q I (i σ H Q w)⟩
end
end VI
end
section
namespace VI
open PySem PySem.Spec PyProof.Rows L2
section
variable {X : Cx} {T : Tb} {W : WX} {H : Hp} {tg : Expr}
end
section
variable {Z : Cfg} {t : Tx} {k : Nat} {N : List Str} {sc : Scope} {raw : Option Scope} {X : Cx} {W : WX} {pos p : Pos} {a b c e : Expr} {sa sb s3 s : SV} {x : Str}
end
end VI
end
section
namespace VI
open PySem PySem.Spec PyProof.Rows L2
section
variable {T : Tb} {W : WX} {μ μ' : Mu} {H H' : Hp} {h : Bs} {σ : Sg} {ρ : Ev} {p : Addr}
end
section
variable {Z : Cfg} {t : Tx} {k : Nat}
end
end VI
end
section
namespace VI
open PySem PySem.Spec PyProof.Rows L2
section
variable {X : Cx} {T : Tb} {W : WX} {μ μ' : Mu} {H H' : Hp} {h : Bs} {σ : Sg} {ρ : Ev}
end
section
variable {Z : Cfg} {t : Tx} {k : Nat} {N : List Str} {sc : Scope} {raw : Option Scope} {X : Cx} {W : WX} {pos p : Pos} {a b : Expr}
end
end VI
end
section
namespace VI
open PySem PySem.Spec PyProof.Rows L2
def Ks.nil : Ks → Ks
  | .k _ => .k []
  | .t _ => .t []
section
variable {X : Cx} {T : Tb} {W : WX} {μ μ' : Mu} {H H' : Hp} {h : Bs} {σ : Sg} {ρ : Ev} {pins : List (Addr × Obj)} {s : Shared} {o : Expr} {so : SV} {apos cpos : Pos} {td : TE}
end
end VI
end
section
namespace VI
open PySem PySem.Spec PyProof.Rows L2
namespace Std2
open Std
def number : SS := (ssCons (ssAsg (sIte (sOp (eqD true) (sVar 0) (sLst false saNil)) (sSl false (sVar 0) soNone (soSome (sK (.int 60)))) (sLst false (saCons (sK (.int 7)) saNil))) (sgName 2))
  (ssCons (ssAsg (sOp (addD false) (sOp ixD (sVar 2) (sOp modD (sVar 1) (sCall lenD (saCons (sVar 2) saNil)))) (sOp (mulD false) (sK (.int 31)) (sOp fdivD (sVar 1) (sCall lenD (saCons (sVar 2) saNil))))) (sgName 3))
  (ssCons (ssAsg (sOp (addD false) (sOp (mulD false) (sOp (addD false) (sOp (addD false) (sOp modD (sCall intD (saCons (sVar 3) saNil)) (sK (.int 1000003))) (sOp (mulD false) (sK (.int 977)) (sVar 1))) (sK (.int 13))) (sK (.int 48271))) (sOp modD (sCall intD (saCons (sOp fdivD (sVar 3) (sK (.int 1000003))) saNil)) (sK (.int 999983)))) (sgName 4))
  (ssCons (ssRet (sOp modD (sOp (mulD false) (sOp modD (sVar 4) (sK (.int 2147483647))) (sK (.int 65537))) (sK (.int 4294967291))))
  ssNil))))
def fNumber : List D → Bs → R D := runFn 2 5 number
def cells (ns : List Int) : List Int := if ns = [] then [7] else ns.take 60
theorem number_ok {ns : List Int} (hl : ns.length ≤ 63) {i : Int} (h0 : 0 ≤ i) (h1 : i < 2 ^ 64) (h : Bs) : ∃ z, fNumber [.scr ns, .int i] h = .ok (.int z) h := by
  have hc : ∀ h : Bs, (sIte (sOp (eqD true) (sVar 0) (sLst false saNil)) (sSl false (sVar 0) soNone (soSome (sK (.int 60)))) (sLst false (saCons (sK (.int 7)) saNil))) [some (.scr ns), some (.int i), none, none, none] h = .ok (.lst ((cells ns).map .int)) h := by
    intro h
    cases ns with
    | nil => rfl
    | cons n ms =>
      have e1 : (sOp (eqD true) (sVar 0) (sLst false saNil)) [some (.scr (n :: ms)), some (.int i), none, none, none] h = .ok (.bl true) h := rfl
      simp only [sIte, sTru, e1, bind_ok, truth]
      have e2 : cutD ((n :: ms).map D.int) none (some 60) = ((n :: ms).take 60).map D.int := by
        have := cut_hi (xs := (n :: ms).map D.int) (n := 60)
        rw [show ((60 : Nat) : Int) = 60 from rfl] at this
        rw [this, List.map_take]
      show newL false (cutD ((n :: ms).map D.int) none (some 60)) h = _
      rw [e2, newL_f (by rw [List.length_map, sizeLine_eq]; have := List.length_take_le 60 (n :: ms); omega)]
      rfl
  have q : 0 < (cells ns).length ∧ (cells ns).length ≤ 60 := by
    unfold cells
    split
    · simp
    · rename_i e
      have : 0 < ns.length := List.length_pos_iff.mpr e
      rw [List.length_take]
      omega
  obtain ⟨q1, q2⟩ := q
  obtain ⟨cs, hcs⟩ : ∃ cs, cs = cells ns := ⟨_, rfl⟩
  rw [← hcs] at q1 q2 hc
  obtain ⟨c, hix⟩ : ∃ c, L2.atI (cs.map D.int) (i % (cs.length : Int)) = some (.int c) := by
    obtain ⟨x, e, m⟩ := atI_mod (cs.map D.int) (by simpa using q1) i
    obtain ⟨c, _, rfl⟩ := List.mem_map.mp m
    exact ⟨c, by simpa using e⟩
  have hlog : ∀ a : Int, 0 ≤ a → a < 2 ^ 100 → a.natAbs.log2 ≤ 100 := fun a h1 h2 => log2_lt (by omega) h2
  have g1 : 0 ≤ i / (cs.length : Int) ∧ i / (cs.length : Int) ≤ i := ⟨Int.ediv_nonneg h0 (by omega), Int.ediv_le_self _ h0⟩
  have hlc : ((cs.length : Int)).natAbs.log2 < 9000 := Nat.lt_of_le_of_lt (hlog _ (by omega) (by omega)) (by decide)
  obtain ⟨cell, hcell⟩ : ∃ cell, cell = c + 31 * (i / (cs.length : Int)) := ⟨_, rfl⟩
  obtain ⟨low, hlow⟩ : ∃ z, z = cell % 1000003 := ⟨_, rfl⟩
  obtain ⟨high, hhigh⟩ : ∃ z, z = cell / 1000003 % 999983 := ⟨_, rfl⟩
  have b1 : 0 ≤ low ∧ low < 1000003 := by subst hlow; exact ⟨Int.emod_nonneg _ (by decide), Int.emod_lt_of_pos _ (by decide)⟩
  obtain ⟨mx, hmx⟩ : ∃ z, z = ((low + 977 * i + 13) * 48271 + high) % 2147483647 := ⟨_, rfl⟩
  have b4 : 0 ≤ mx ∧ mx < 2147483647 := by subst hmx; exact ⟨Int.emod_nonneg _ (by decide), Int.emod_lt_of_pos _ (by decide)⟩
  have m1 : ∀ h, mulD false (.int 31) (.int (i / (cs.length : Int))) h = .ok (.int (31 * (i / (cs.length : Int)))) h := fun h => mulI (by have := hlog (i / cs.length) g1.1 (by omega); have := hlog 31 (by decide) (by decide); omega)
  have m2 : ∀ h, mulD false (.int 977) (.int i) h = .ok (.int (977 * i)) h := fun h => mulI (by have := hlog i h0 (by omega); have := hlog 977 (by decide) (by decide); omega)
  have m3 : ∀ h, mulD false (.int (low + 977 * i + 13)) (.int 48271) h = .ok (.int ((low + 977 * i + 13) * 48271)) h := fun h => mulI (by have := hlog (low + 977 * i + 13) (by omega) (by omega); have := hlog 48271 (by decide) (by decide); omega)
  have m7 : ∀ h, mulD false (.int mx) (.int 65537) h = .ok (.int (mx * 65537)) h := fun h => mulI (by have := hlog mx (by omega) (by omega); have := hlog 65537 (by decide) (by decide); omega)
  refine ⟨mx * 65537 % 4294967291, ?_⟩
  refine run_rt (d := .int _) rfl ?_ rfl
  show number [some (.scr ns), some (.int i), none, none, none] (inB h) = _
  unfold number
  simp only [ssCons, ssAsg, hc, toF_ok, Fbind_nx, sgName, toF'_ok, List.set_cons_succ, List.set_cons_zero, sOp, sVar, List.getElem?_cons_succ, List.getElem?_cons_zero, bind_ok, sCall, saCons, saNil, sK, intD, lenD, seqOf, lstOf, List.length_map, modI (j := (cs.length : Int)) (by omega), ixD, hix,
    fdivI (j := (cs.length : Int)) ⟨by omega, hlc⟩, m1, addD]
  rw [← hcell]
  simp only [sOp, sVar, List.getElem?_cons_succ, List.getElem?_cons_zero, bind_ok, sCall, saCons, saNil, sK, intD, modI (j := 1000003) (by decide), fdivI (j := 1000003) (by decide), modI (j := 999983) (by decide), m2, addD]
  rw [← hlow, ← hhigh]
  simp only [m3, bind_ok, addD, toF_ok, toF'_ok, Fbind_nx, sgName, List.set_cons_succ, List.set_cons_zero, List.getElem?_cons_succ, List.getElem?_cons_zero, ssRet, sOp, sVar, sK, modI (j := 2147483647) (by decide)]
  refine ret_ok (op_ok (h1 := inB h) (h2 := inB h) (op_ok (h1 := inB h) (h2 := inB h) (op_ok (h1 := inB h) (h2 := inB h) rfl rfl (by rw [modI (j := 2147483647) (by decide), ← hmx])) rfl (m7 _)) rfl (modI (by decide)))
end Std2
end VI
end
section
namespace VI
open PySem PySem.Spec PyProof.Rows L2
section
variable {prog : Program} {w : World} {A : Around} {E : Value → Shared → Prop} {s : Shared}
theorem rev_pick (xs : Array Value) : ((List.range xs.size).filterMap fun (m : Nat) => xs[(((xs.size : Int) - 1) + (m : Int) * (-1)).toNat]?).toArray = xs.toList.reverse.toArray := by
  congr 1
  have e : ∀ m, m ∈ List.range xs.size → xs[(((xs.size : Int) - 1) + (m : Int) * (-1)).toNat]? = xs.toList.reverse[m]? := by
    intro m hm
    have hm := List.mem_range.mp hm
    rw [List.getElem?_reverse (by rw [Array.length_toList]; exact hm), Array.length_toList, Array.getElem?_toList]
    congr 1
    omega
  have e2 : (List.range xs.size).filterMap (fun (m : Nat) => xs[(((xs.size : Int) - 1) + (m : Int) * (-1)).toNat]?) = (List.range xs.size).filterMap fun m => xs.toList.reverse[m]? := by
    have cg : ∀ (l : List Nat) (f g : Nat → Option Value), (∀ m ∈ l, f m = g m) → l.filterMap f = l.filterMap g := by
      intro l f g
      induction l with
      | nil => intro _; rfl
      | cons x l ih =>
        intro q
        rw [List.filterMap_cons, List.filterMap_cons, q x List.mem_cons_self, ih fun m hm => q m (List.mem_cons_of_mem _ hm)]
    exact cg _ _ _ e
  rw [e2]
  have key : ∀ l : List Value, (List.range l.length).filterMap (fun m => l[m]?) = l := by
    intro l
    induction l with
    | nil => rfl
    | cons x l ih =>
      rw [List.length_cons, List.range_succ_eq_map, List.filterMap_cons, List.filterMap_map]
      simp only [List.getElem?_cons_zero]
      congr 1
  have hk := key xs.toList.reverse
  rw [List.length_reverse, Array.length_toList] at hk
  exact hk
theorem applied_rev {sl : Addr} {vl vu vs : Value} {n : Nat} {Q : Int × Int × Nat → Shared → Prop} (hs : s.heap.IsSliceOf sl vl vu vs) (pl : IsPart vl none) (pu : IsPart vu none) (ps : IsPart vs (some (-1)))
    (h : Q ((n : Int) - 1, -1, n) s) : wpAny (model prog w) A (Builtin.Slice.sliceApplied (.ref sl) (pure (n : Int))) Q E s := by
  obtain ⟨os, hos, hcs, hds⟩ := id hs
  unfold Builtin.Slice.sliceApplied Builtin.Slice.sliceFields
  refine wpAny_bind (wpAny_bind (wpAny_field hos hds (x := vl) rfl (wpAny_bind (wpAny_field hos hds (x := vu) rfl (wpAny_bind (wpAny_field hos hds (x := vs) rfl (wpAny_pure ?_)))))))
  refine wpAny_bind (HT.slicePart_ ps ?_)
  show wpAny _ _ (if ((-1 : Int) == 0) = true then _ else _) _ _ s
  rw [if_neg (by decide)]
  refine wpAny_bind (HT.slicePart_ pl (wpAny_bind (HT.slicePart_ pu (wpAny_bind (wpAny_pure ?_)))))
  show wpAny _ _ (match Builtin.Slice.sliceAdjust none none (-1) (n : Int) with | (lo, hi) => pure (lo, (-1 : Int), Builtin.Slice.slicePlaces lo hi (-1))) _ _ s
  have e : Builtin.Slice.sliceAdjust none none (-1) (n : Int) = ((n : Int) - 1, -1) := by
    unfold Builtin.Slice.sliceAdjust
    simp
  rw [e]
  have e2 : Builtin.Slice.slicePlaces ((n : Int) - 1) (-1) (-1) = n := by
    unfold Builtin.Slice.slicePlaces
    have h1 : ¬ ((-1 : Int) > 0) := by omega
    simp only [h1, if_false, Int.neg_neg, Int.ediv_one]
    split <;> omega
  show wpAny _ _ (pure ((n : Int) - 1, (-1 : Int), Builtin.Slice.slicePlaces ((n : Int) - 1) (-1) (-1))) _ _ s
  rw [e2]
  exact wpAny_pure h
theorem getItem_tuple_rev {t sl : Addr} {items : Array Value} {vl vu vs : Value} {Q : Value → Shared → Prop} (ht : IsTup s.heap t items) (hs : s.heap.IsSliceOf sl vl vu vs) (pl : IsPart vl none) (pu : IsPart vu none) (ps : IsPart vs (some (-1)))
    (h : Q (.ref s.heap.objs.size) { s with heap := s.heap.push { cls := .type "tuple", data := .seq items.toList.reverse.toArray } })
    (hsz : items.size ≤ sizeLine) : wpAny (model prog w) A (getItem (.ref t) (.ref sl)) Q E s := by
  have htake : sizeOk (.seq items.toList.reverse.toArray) := by
    show items.toList.reverse.toArray.size ≤ sizeLine
    rw [List.size_toArray, List.length_reverse, Array.length_toList]
    exact hsz
  obtain ⟨os, hos, hcs, hds⟩ := id hs
  have hTs : s.TypeIs (.ref sl) "slice" := ⟨os, hos, hcs⟩
  unfold getItem
  try with_reducible refine wpAny_holding ?_
  first | refine wpAny_bind (wpAny_pure ?_) | skip
  refine wpAny_bind (wpAny_sequenceKey ht.typeIs (by decide) ?_)
  refine wpAny_bind (wpAny_callSpecial?_slot (name := Str.ofString "__getitem__") ht.typeIs PyProof.Rows.slot_tuple_getitem
    (wpAny_call_entry PyProof.Rows.slot_tuple_getitem ht.typeIs entry_tuple_getitem ?_ (args_tuple_getitem _ _)))
  show wpAny _ _ (Builtin.Tuple.tupleItemsOf (.ref t) >>= _) _ _ s
  refine wpAny_bind (tupleItemsOf_ ht ?_)
  refine wpAny_bind (wpAny_typeOf hTs ?_)
  rw [if_pos (by decide)]
  refine wpAny_bind (applied_rev hs pl pu ps ?_)
  have hno : ¬ ((((items.size : Int) - 1) == 0 && (-1 : Int) == 1 && items.size == items.size) = true) := by
    intro q
    rw [Bool.and_eq_true, Bool.and_eq_true] at q
    exact absurd q.1.2 (by decide)
  show wpAny _ _ (if (((items.size : Int) - 1) == 0 && (-1 : Int) == 1 && items.size == items.size) = true then _ else _) _ _ s
  rw [if_neg hno, rev_pick]
  first
    | exact wpAny_bind (m := Builtin.Tuple.tupleExact _) (wpAny_newObj_type (wpAny_pure ⟨_, rfl, wpAny_pure h⟩) htake)
    | exact wpAny_bind (m := Builtin.Tuple.tupleExact _) (wpAny_newObj_type (wpAny_bind (wpAny_pure (wpAny_pure ⟨_, rfl, wpAny_pure h⟩))) htake)
    | exact wpAny_bind (wpAny_bind (m := Builtin.Tuple.tupleExact _) (wpAny_newObj_type (wpAny_pure (wpAny_pure ⟨_, rfl, wpAny_pure h⟩)) htake))
    | exact wpAny_bind (wpAny_bind (m := Builtin.Tuple.tupleExact _) (wpAny_newObj_type (wpAny_pure ⟨_, rfl, wpAny_pure h⟩) htake))
end
section
variable {X : Cx}
def tRevT (K : PySem.W.Frag) (te : TE) : TE := fun σ H Q => te σ H fun x H1 => ∃ a xs, x = .ref a ∧ SqT K H1 a xs ∧ ToP H1 xs.reverse Q
theorem pe_revT {e : Expr} {te : TE} {k : Nat} {p1 p2 p3 pos : Pos} (he : PE X e te) : PE X (.Subscript e (.Slice none none (some (.UnaryOp .USub (.Constant (.int 1) k p1) p2)) p3) pos) (tRevT X.K te) := by
  refine ⟨fun pins s σ H Q I h => ?_⟩
  refine Subscript_ (thn (he.run pins s σ H _ I h) fun v s1 ⟨x, H1, I1, r1, q1⟩ => ?_)
  obtain ⟨a, xs, ex, hx, q⟩ := q1
  subst ex
  cases r1
  have hst : PO X (some (.UnaryOp .USub (.Constant (.int 1) k p1) p2)) (tPart (tUn (rU fun i => .int (-i)) (tC (.int 1)))) := po_some (pe_un un_neg pe_int)
  refine wpAny_Slice (thn (po_none.run pins s1 σ H1 (fun o H2 => o = none ∧ H2 = H1) I1 ⟨rfl, rfl⟩) fun vl s2 ⟨l, H2, I2, pl, el, e2⟩ => ?_)
  subst el e2
  refine thn (po_none.run pins s2 σ H2 (fun o H3 => o = none ∧ H3 = H2) I2 ⟨rfl, rfl⟩) fun vu s3 ⟨u, H3, I3, pu, eu, e3⟩ => ?_
  subst eu e3
  refine thn (hst.run pins s3 σ H3 (fun o H4 => o = some (-1) ∧ H4 = H3) I3 ⟨1, rfl, -1, rfl, rfl, rfl⟩) fun vs s4 ⟨o, H4, I4, ps, eo, e4⟩ => ?_
  subst eo e4
  have I5 : Inv X pins σ H4 { s4 with heap := s4.heap.push { cls := .type "slice", data := .fields #[vl, vu, vs] } } := I4.kept (t' := s4.toks) fun b ob q => Heap.get?_push_of_some _ q
  obtain ⟨its, r, ht, hz⟩ := I5.tuple hx
  have hlen := r.length
  show wpAny (model X.prog X.w) X.A (subscriptTail e (.Slice none none (some (.UnaryOp .USub (.Constant (.int 1) k p1) p2)) p3) (.ref a) (.ref s4.heap.objs.size)) (EP X pins σ Q) X.xe { s4 with heap := s4.heap.push { cls := .type "slice", data := .fields #[vl, vu, vs] } }
  refine tail_any (ops := [.ref a, .ref s4.heap.objs.size]) ht.typeIs (PyProof.Rows.slot_tuple_getitem.lookup) ?_ (by with_unfolding_all rfl)
  refine getItem_tuple_rev ht (Heap.IsSliceOf.new _ vl vu vs) pl pu ps ?_ (by rw [List.size_toArray]; omega)
  exact laidP I5 (by rw [List.length_reverse]; exact hz) r.reverse q
variable {T : Tb} {W : WX}
def revX (bx : Bool) (d : D) (h : Bs) : R D := match d with
  | .tpl xs => newP xs.reverse h
  | _ => revD bx d h
theorem pv_revX {bx : Bool} {e : Expr} {k : Nat} {p1 p2 p3 pos : Pos} {s : SV} (hK : X.K = T.K) (he : PE X e (tV T W s)) : PE X (.Subscript e (.Slice none none (some (.UnaryOp .USub (.Constant (.int 1) k p1) p2)) p3) pos) (tV T W (sUn (revX bx) s)) := by
  refine ⟨fun pins s' σ H Q I ⟨μ, ρ, h, r, e, o⟩ => ?_⟩
  have h1 := pv_rev (bx := bx) (k := k) (p1 := p1) (p2 := p2) (p3 := p3) (pos := pos) hK he
  have h2 := pe_revT (k := k) (p1 := p1) (p2 := p2) (p3 := p3) (pos := pos) he
  cases q : s ρ h with
  | no => exact h1.run pins s' σ H Q I ⟨μ, ρ, h, r, e, by unfold sUn at o ⊢; rw [q] at o ⊢; exact o⟩
  | ex x h' => exact h1.run pins s' σ H Q I ⟨μ, ρ, h, r, e, by unfold sUn at o ⊢; rw [q] at o ⊢; exact o⟩
  | ok d h' =>
    by_cases hd : ∃ xs, d = .tpl xs
    · obtain ⟨xs, rfl⟩ := hd
      refine h2.run pins s' σ H Q I ⟨μ, ρ, h, r, e, ?_⟩
      have o1 := OutV.bind (show OutV T W σ μ H Q ((s ρ h).bind fun d h => revX bx d h) from o)
      rw [q] at o1 ⊢
      intro μ1 H1 v s1 r1 rv
      obtain ⟨a, ob, vs, e1, e2, e3, e4, e5⟩ := rv.tplOf
      have o2 : OutV T W σ μ1 H1 Q (newP xs.reverse h') := by
        unfold sUn at o
        rw [q] at o
        exact OutV.step (show OutV T W σ μ H Q (newP xs.reverse h') from o) s1
      exact ⟨a, vs, e1, SqT.fz e2, (newP_ok r1 e5.reverse o2).2⟩
    · refine h1.run pins s' σ H Q I ⟨μ, ρ, h, r, e, ?_⟩
      unfold sUn at o ⊢
      rw [q] at o ⊢
      have e5 : revX bx d h' = revD bx d h' := by
        cases d with
        | tpl xs => exact absurd ⟨xs, rfl⟩ hd
        | _ => rfl
      show OutV T W σ μ H Q (revD bx d h')
      rw [← e5]
      exact o
end
end VI
end
section
namespace VI
open PySem PySem.Spec PyProof.Rows L2
section
variable {ρ : Ev} {h h1 h2 : Bs} {a b : Bool} {sa sb sc : SV}
theorem or_ok (e1 : sa ρ h = .ok (.bl a) h) (e2 : a = false → sb ρ h = .ok (.bl b) h) : sOr sa sb ρ h = .ok (.bl (a || b)) h := by
  unfold sOr sTru
  rw [e1]
  cases a with
  | true => rfl
  | false => rw [Bool.false_or]; simp -implicitDefEqProofs only [bind_ok, truth, e2 rfl, Bool.false_eq_true, if_false]
theorem and_ok (e1 : sa ρ h = .ok (.bl a) h) (e2 : a = true → sb ρ h = .ok (.bl b) h) : sAnd sa sb ρ h = .ok (.bl (a && b)) h := by
  unfold sAnd sTru
  rw [e1]
  cases a with
  | false => rfl
  | true => rw [Bool.true_and]; simp -implicitDefEqProofs only [bind_ok, truth, e2 rfl, if_true]
theorem not_ok (e1 : sa ρ h = .ok (.bl a) h1) : sNot sa ρ h = .ok (.bl (!a)) h1 := by
  simp -implicitDefEqProofs only [sNot, sTru, e1, bind_ok, truth]
theorem tru_ok (e1 : sa ρ h = .ok (.bl a) h1) : sTru sa ρ h = .ok a h1 := by
  simp -implicitDefEqProofs only [sTru, e1, bind_ok, truth]
theorem if_ok {t u : SS} (e : sa ρ h = .ok (.bl a) h1) : ssIf sa t u ρ h = if a then t ρ h1 else u ρ h1 := by
  cases a with
  | true => rw [if_t e]; rfl
  | false => rw [if_f e]; rfl
theorem lst_ok {sx : SA} {xs : List D} (e1 : sx ρ h = .ok xs h1) (hl : xs.length ≤ sizeLine) : sLst false sx ρ h = .ok (.lst xs) h1 := by
  simp -implicitDefEqProofs only [sLst, e1, bind_ok, newL_f hl]
theorem any_bls {bs : List Bool} : anyD' [.lst (bs.map .bl)] h = .ok (.bl (bs.any id)) h := by
  simp only [anyD, lstOf, blsD_map]
theorem for_rt {it : SI} {g : SG} {b : SS} {d : D} {xs : List D} (e1 : it ρ h = .ok (xs, none) h1) (e2 : loopS g b xs ρ h1 = .rt d h2) : ssFor it g b ρ h = .rt d h2 := by
  simp -implicitDefEqProofs only [ssFor, e1, toF_ok, lockO_none, e2]
  rfl
theorem cons_rt {s t : SS} {d : D} (e : s ρ h = .rt d h1) : ssCons s t ρ h = .rt d h1 := by
  simp -implicitDefEqProofs only [ssCons, e, Fbind_rt]
theorem loop_rt {g : SG} {body : SS} {d r : D} {ds : List D} {ρ1 : Ev} (e1 : g d ρ h = .ok ρ1 h1) (e2 : body ρ1 h1 = .rt r h2) : loopS g body (d :: ds) ρ h = .rt r h2 := by
  simp -implicitDefEqProofs only [loopS, e1, e2]
theorem lc2_ok {own own1 : List Nat} {it it1 : SI} {g g1 : SG} {tt tt1 : SB} {el : SV} {xs ys : List D} (e1 : it ρ h = .ok (xs, none) h) (e2 : lcS2 g tt it1 own1 g1 tt1 el (wipeE ρ own) xs h = .ok ys h) (hl : ys.length ≤ sizeLine) : sLc2 false own own1 it g tt it1 g1 tt1 el ρ h = .ok (.lst ys) h := by
  simp -implicitDefEqProofs only [sLc2, e1, bind_ok, lockO_none, e2, unlR_ok, unlO_none, newL_f hl]
end
def pT (p : Int × Int) : D := .tup [.int p.1, .int p.2]
theorem zip_ints : ∀ (X c : List Int), zipL (X.map .int) (c.map .int) = (X.zip c).map pT
  | [], _ => by simp [zipL]
  | _ :: _, [] => by simp [zipL]
  | x :: X, y :: c => by
    simp only [List.map_cons, zipL, zip_ints X c, List.zip_cons_cons]
    rfl
end VI
end
section
namespace VI
open PySem PySem.Spec PyProof.Rows L2
section
variable {X : Cx} {T : Tb} {W : WX} {μ : Mu} {H : Hp}
theorem Reps.is3 {x y z : D} {vs : List V} (h : Reps T μ H [x, y, z] vs) : ∃ u v w, vs = [u, v, w] ∧ Rep T μ H x u ∧ Rep T μ H y v ∧ Rep T μ H z w := by
  simp only [Reps] at h
  obtain ⟨u, r, rfl, h1, v, r2, rfl, h2, w, r3, rfl, h3, rfl⟩ := h
  exact ⟨u, v, w, rfl, h1, h2, h3⟩
theorem psv_par3 {i j l : Nat} {x y z : Str} {a b c : Expr} {px py pz pt pos : Pos} {kt k2 pt2} {sA : SA} (hc : X.calm = true) (hN : X.N.Nodup) (hi : X.N[i]? = some x) (hj : X.N[j]? = some y) (hl : X.N[l]? = some z) (hij : i ≠ j) (hil : i ≠ l) (hjl : j ≠ l)
    (hx : X.env.scope.names.lookup x = some .local) (hy : X.env.scope.names.lookup y = some .local) (hz : X.env.scope.names.lookup z = some .local) (ha : PA X [a, b, c] (tA' T W sA))
    (hw : swappedStores [.Tuple [.Name x px, .Name y py, .Name z pz] kt pt] (.Tuple [a, b, c] k2 pt2) X.env = pure (some [x, y, z])) :
    PS X (.Assign [.Tuple [.Name x px, .Name y py, .Name z pz] kt pt] (.Tuple [a, b, c] k2 pt2) pos) (tS' T W (ssAsg (sTup sA) (sgTup 3 (sgCons (sgName i) (sgCons (sgName j) (sgCons (sgName l) sgNil)))))) :=
  PS.imp (ps_par3 hc hN hi hj hl hij hil hjl hx hy hz ha hw rfl) fun D σ H ⟨μ, ρ, h, r, e, o⟩ => by
    refine ⟨μ, ρ, h, r, e, ?_⟩
    unfold ssAsg sTup at o
    cases q : sA ρ h with
    | no => rw [q] at o; exact o
    | ex x h1 => rw [q] at o; exact fun μ1 H1 c d s r1 rx => o μ1 H1 σ c d s r1 (e.step s) rx
    | ok ds h1 =>
      rw [q] at o
      simp only [R.bind, newT] at o
      split at o
      · simp only [R.toF, sgTup] at o
        split at o
        · rename_i hl
          match ds, hl, o with
          | [d1, d2, d3], _, o =>
            intro μ1 H1 vs s1 r1 rv
            obtain ⟨u, v, w, rfl, rv1, rv2, rv3⟩ := rv.is3
            exact ⟨u, v, w, rfl, o μ1 H1 _ s1 r1 ((((e.step s1).set rv1).set rv2).set rv3)⟩
        · exact o.elim
      · exact o.elim
end
section
variable {Z : Cfg} {t : Tx} {k : Nat} {N : List Str} {sc : Scope} {raw : Option Scope} {X : Cx} {W : WX} {x y z : Str} {a b c : Expr}
theorem s_par3 {i j l : Nat} {px py pz pt pos : Pos} {kt k2 pt2} {s : SA} (h : XO Z t k N sc raw X W) (gx : locC N sc raw i x = true) (gy : locC N sc raw j y = true) (gz : locC N sc raw l z = true)
    (hl : (decide (i ≠ j) && decide (i ≠ l) && decide (j ≠ l) && decide (sc.names.lookup x = some .local) && decide (sc.names.lookup y = some .local) && decide (sc.names.lookup z = some .local)) = true)
    (hw : swC [.Name x px, .Name y py, .Name z pz] [a, b, c] sc = some (some [x, y, z])) (ha : PA X [a, b, c] (tA' Z.T W s)) :
    PS X (.Assign [.Tuple [.Name x px, .Name y py, .Name z pz] kt pt] (.Tuple [a, b, c] k2 pt2) pos) (tS' Z.T W (ssAsg (sTup s) (sgTup 3 (sgCons (sgName i) (sgCons (sgName j) (sgCons (sgName l) sgNil)))))) := by
  simp only [Bool.and_eq_true, decide_eq_true_eq] at hl
  obtain ⟨⟨⟨⟨⟨a1, a2⟩, a3⟩, a4⟩, a5⟩, a6⟩ := hl
  exact psv_par3 h.calm h.nd' (h.loc gx).1 (h.loc gy).1 (h.loc gz).1 a1 a2 a3 (by rw [h.sc]; exact a4) (by rw [h.sc]; exact a5) (by rw [h.sc]; exact a6) ha (sw_of h.sc h.kd hw)
end
end VI
end
section
namespace VI
open PySem PySem.Spec PyProof.Rows L2
abbrev pI (l : List Int) : D := .tpl (l.map .int)
def at' (l : List Int) (i : Nat) : Int := l.getD i 0
theorem at_get {l : List Int} {i : Nat} (h : i < l.length) : l[i]? = some (at' l i) := by
  unfold at'
  rw [List.getD_eq_getElem?_getD, List.getElem?_eq_getElem h]
  rfl
theorem at_mem {l : List Int} {i : Nat} (h : i < l.length) : at' l i ∈ l := List.mem_of_getElem? (at_get h)
theorem atI_nat {l : List Int} {i : Nat} (h : i < l.length) : atI (l.map D.int) (i : Int) = some (.int (at' l i)) := by
  unfold atI
  rw [List.length_map, show ixN l.length (i : Int) = some i by unfold ixN; rw [if_pos (by omega), if_pos (by omega)]; simp]
  show (List.map D.int l)[i]? = _
  simp only [List.getElem?_map, at_get h, Option.map_some]
section
variable {h : Bs}
theorem ixS {d : D} {l : List Int} {i : Nat} (e : seqOf h d = some (l.map .int)) (hi : i < l.length) : ixD d (.int i) h = .ok (.int (at' l i)) h := by
  simp only [ixD, e, atI_nat hi]
def IsX (d : D) (X : List Int) : Prop := d = pI X ∨ d = lI X
theorem IsX.seq {d : D} {X : List Int} (i : IsX d X) : seqOf h d = some (X.map .int) := by
  rcases i with rfl | rfl <;> rfl
theorem IsX.len {d : D} {X : List Int} (i : IsX d X) : lenD [d] h = .ok (.int X.length) h := by
  rcases i with rfl | rfl <;> simp only [lenD, seqOf, lstOf, List.length_map]
theorem IsX.sum {d : D} {X : List Int} (i : IsX d X) : sumD [d] h = .ok (.int X.sum) h := by
  rcases i with rfl | rfl <;> simp only [sumD, seqOf, lstOf, intsD_map]
def minI : List Int → Int
  | [] => 0
  | x :: xs => minFold x xs
theorem IsX.min {d : D} {X : List Int} (i : IsX d X) (hX : X ≠ []) : minDS [d] h = .ok (.int (minI X)) h := by
  match X, hX with
  | x :: xs, _ =>
    rcases i with rfl | rfl <;> simp only [minDS, mmD, seqOf, lstOf, intsD_map] <;> rfl
theorem rng_ok {n : Nat} (hn : n < 2 ^ 24) : itRng1 [.int n] h = .ok ((List.range n).map (fun (i : Nat) => D.int i), none) h := by
  unfold itRng1
  show (if _ then R.ok (rngItems 0 ((n : Int)).toNat, none) h else .no) = _
  rw [if_pos (by constructor <;> omega), show ((n : Int)).toNat = n by omega]
  unfold rngItems
  congr 2
  refine List.map_congr_left fun i _ => ?_
  show D.int (0 + (i : Int)) = _
  rw [Int.zero_add]
theorem isi_int (K : PySem.W.Frag) (ct : Ct) (x : Int) (u : Nat) (hu : u < 3) : isiD (tbC ct K) u (.int x) h = .ok (.bl (2 == u)) h := by
  have : u = 0 ∨ u = 1 ∨ u = 2 := by omega
  rcases this with rfl | rfl | rfl <;> rfl
def isNum (T : Tb) : SS := (ssCons (ssRet (sAnd (sUn (isiD T 2) (sVar 0)) (sAnd (sNot (sUn (isiD T 1) (sVar 0))) (sChn leS leS (sVar 1) (sVar 0) (sVar 2))))) ssNil)
theorem num_ok {K : PySem.W.Frag} {ct : Ct} {x a b : Int} : runFn 3 3 (isNum (tbC ct K)) [.int x, .int a, .int b] h = .ok (.bl (decide (a ≤ x) && decide (x ≤ b))) h := by
  refine run_rt rfl ?_ rfl
  have hsl : slots 3 [.int x, .int a, .int b] = [some (.int x), some (.int a), some (.int b)] := rfl
  rw [hsl]
  unfold isNum
  have e1 : (2 == 2) = true := rfl
  have e2 : (2 == 1) = false := rfl
  simp -implicitDefEqProofs only [ssCons, ssRet, sAnd, sNot, sTru, sUn, sVar, List.getElem?_cons_succ, List.getElem?_cons_zero, bind_ok, isi_int K ct x 2 (by decide), isi_int K ct x 1 (by decide), e1, e2, truth, if_true, Bool.not_false, sChn, leS, cmpS]
  by_cases q : a ≤ x
  · simp -implicitDefEqProofs only [q, decide_true, bind_ok, truth, toF_ok, Fbind_rt, Bool.true_and]
  · simp -implicitDefEqProofs only [q, decide_false, bind_ok, truth, toF_ok, Fbind_rt, Bool.false_and]
theorem chn_ok {sa sb sc : SV} {ρ : Ev} {x y z : Int} (e1 : sa ρ h = .ok (.int x) h) (e2 : sb ρ h = .ok (.int y) h) (e3 : sc ρ h = .ok (.int z) h) : sChn leS leS sa sb sc ρ h = .ok (.bl (decide (x ≤ y) && decide (y ≤ z))) h := by
  simp -implicitDefEqProofs only [sChn, e1, e2, bind_ok, leS, cmpS, truth]
  by_cases q : x ≤ y
  · simp -implicitDefEqProofs only [q, decide_true, bind_ok, truth, e3, Bool.true_and]
  · simp -implicitDefEqProofs only [q, decide_false, bind_ok, truth, Bool.false_and]
end
end VI
end
section
namespace VI
open PySem PySem.Spec PyProof.Rows L2 VI.Std
section
variable {b : Nat} {ns : List Int} {k : Int} {h : Bs}
theorem slOk {bx : Bool} {s : SV} {l u : SO} {ρ : Ev} {d : D} {lo hi : Option Int} {r : R D} (e1 : s ρ h = .ok d h) (e2 : l ρ h = .ok lo h) (e3 : u ρ h = .ok hi h) (e4 : slD bx d lo hi h = r) : sSl bx s l u ρ h = r := by
  simp -implicitDefEqProofs only [sSl, e1, e2, e3, e4, bind_ok]
theorem soOk {s : SV} {ρ : Ev} {i : Int} (e : s ρ h = .ok (.int i) h) : soSome s ρ h = .ok (some i) h := by
  simp -implicitDefEqProofs only [soSome, e, bind_ok]
theorem eq_lI {l m : List Int} {neg : Bool} : eqD neg (lI l) (lI m) h = .ok (.bl (if neg then !decide (l = m) else decide (l = m))) h := by
  simp only [eqD, show py pyN h (lI l) = some (.list (l.map .int)) from py_lI l, show py pyN h (lI m) = some (.list (m.map .int)) from py_lI m, PyData.eqv, eqvAll_ints]
end
end VI
end
section
namespace VI
open PySem PySem.Spec PyProof.Rows L2
abbrev lenB (y : Str) (p1 p2 p3 p4 pos : Pos) (k : Nat) : Expr := .Tuple [.Call (.Name "len" p1) [.Name y p2] [] p3, .Name y p4] k pos
section
variable {X : Cx} {σ : Sg} {H : Hp} {s : Shared} {pins : List (Addr × Obj)}
end
section
variable {X : Cx} {T : Tb} {W : WX} {μ μ' : Mu} {H H' : Hp} {h : Bs} {σ : Sg} {ρ : Ev}
end
end VI
end
section
namespace VI
open PySem PySem.Spec PyProof.Rows L2
structure LX (Z : Cfg) (ti : Nat) (X : Cx) : Prop where
  code : ∃ c, X.env.code = .ref c ∧ LamX.TabB Z.base Z.mg c (Z.T.tab ti).1
  qual : X.env.qual ++ "<lambda>" = (Z.T.tab ti).2
section
variable {Z : Cfg} {t : Tx} {k : Nat} {N : List Str} {sc : Scope} {raw : Option Scope} {X : Cx} {W : WX} {pos p : Pos} {a : Expr} {sa : SV} {x y : Str}
end
def tabsA (c : Ct) (K : PySem.W.Frag) : List Addr := c.tab.map fun p => (He.cT K p.1).2
structure SaysT (c : Ct) (fa : List He.Fa) (fn : List He.DefD) (h : Heap) (K : PySem.W.Frag) : Prop where
  says : SaysC c fa fn K
  hd : ∀ p ∈ c.tab, PySem.W.codeHdIn K (He.cT K p.1).1 (He.cT K p.1).2 = true
  out : ∀ p ∈ c.tab, K.lookup (He.cT K p.1).2 = none
  empty : ∀ p ∈ c.tab, h.get? (He.cT K p.1).2 = some { cls := .none, data := .fields #[] }
  nd : (tabsA c K).Nodup
end VI
end
section
namespace VI
open PySem PySem.Spec PyProof.Rows L2
section
variable {X : Cx} {T : Tb} {μ μ' : Mu} {H H' : Hp} {h : Bs} {σ : Sg} {ρ : Ev}
end
section
variable {prog : Program} {w : World} {A : Around} {E : Value → Shared → Prop} {s : Shared} {K : PySem.W.Frag} {x C f : Addr} {ox : Obj} {od : Option Obj} {b tb : Value}
theorem bound_ne {M : Model} {es : List Value} {Q : Option Value → Shared → Prop} (XK : K.In s.heap) (J : PySem.W.InstAt s.heap x ox C od) (hn : PySem.W.findIn K (.ref C) "__ne__" = some (some (.builtin "object.__ne__")))
    (g : wpAny M A (call (.builtin "object.__ne__") (.ref x :: es)) (fun v => Q (some v)) E s) : wpAny M A (callSpecialIfBound? (.ref x) "__ne__" es) Q E s := by
  have g2 : wpAny M A (call (.builtin "object.__ne__") ([.ref x] ++ es) >>= fun v => pure (some v)) Q E s := wpAny_bind (wpAny_mono g (fun _ _ z => wpAny_pure z) fun _ _ z => z)
  simp only [callSpecialIfBound?, bindSpecialIfBound?]
  refine wpAny_holding (wpAny_bind (wpAny_bind (wpAny_bind (J.type.here ((PySem.W.looks_findIn XK hn).here (wpAny_bind (wpAny_askSetting (wpAny_ite ?_))))))))
  split
  · exact wpAny_bind (wpAny_of_eq (F.cmp_object.ne.bind _) (wpAny_pure (by exact g2)))
  · exact wpAny_tryCatch (wpAny_bind (wpAny_of_eq (F.cmp_object.ne.bind _) (wpAny_pure (by exact g2))))
theorem entry_ne {Q : Fin → Shared → Prop} (XK : K.In s.heap) (J : PySem.W.InstAt s.heap x ox C od) (hu : A.units < cLine) (hs : PySem.W.findIn K (.ref C) "__eq__" = some (some (.ref f))) (hf : PySem.W.isFn K (.ref f) = true)
    (hc : wpAny (model prog w) A (call (.ref f) [.ref x, b]) (fun v s' => ∃ t : Bool, v = .bool t ∧ Q (.done (.ret (.bool (!t)))) s') E s) : wpAny (model prog w) A (Builtin.«object.__ne__» ⟨[.ref x, b], []⟩) Q E s := by
  unfold Builtin.«object.__ne__»
  repeat (first
    | with_reducible refine wpAny_cRoomFor hu ?_
    | (refine wpAny_bind (m := callSpecialIfBound? (.ref x) (Str.ofString "__eq__") [b]) (PySem.W.ifBound_K XK J hs hf (wpAny_mono hc (fun r s' hr => by
          obtain ⟨t, rfl, hq⟩ := hr
          repeat (first | exact hq | exact wpAny_pure hq | (refine wpAny_bind (m := truthy (.bool t)) (wpAny_truthy_bool ?_)) | wp_step)) fun _ _ e => e)))
    | wp_step)
theorem try_ne {Q : Option Value → Shared → Prop} (XK : K.In s.heap) (J : PySem.W.InstAt s.heap x ox C od) (hu : A.units + 1 < cLine) (hm : PySem.W.mroIn K C (.type "object") = some true) (hn : PySem.W.findIn K (.ref C) "__ne__" = some (some (.builtin "object.__ne__")))
    (hs : PySem.W.findIn K (.ref C) "__eq__" = some (some (.ref f))) (hf : PySem.W.isFn K (.ref f) = true) (hc : wpAny (model prog w) A.in1 (call (.ref f) [.ref x, b]) (fun v s' => ∃ t : Bool, v = .bool t ∧ Q (some (.bool (!t))) s') E s) :
    wpAny (model prog w) A (tryCompare (.ref x) "__ne__" b) Q E s := by
  unfold tryCompare
  refine wpAny_bind (bound_ne XK J hn (wpAny_call (codeAny_call_builtin F.cmp_object.ne.plain F.cmpEntry_ne (PySem.W.check_slot F.cmpKind_ne F.cmpSplit_ne (J.type.andThen (PySem.W.looks_mroIn XK hm)) (F.cmpArgs_ne _ _) (entry_ne XK J hu hs hf (wpAny_mono hc (fun v s' z => ?_) fun _ _ e => e))))))
  obtain ⟨t, rfl, hq⟩ := z
  first | exact ⟨t, rfl, wpAny_pure hq⟩ | exact ⟨t, rfl, wpAny_pure (wpAny_pure hq)⟩ | exact ⟨t, rfl, hq⟩
theorem rich_ne {Q : Value → Shared → Prop} (XK : K.In s.heap) (J : PySem.W.InstAt s.heap x ox C od) (Jb : PySem.W.Looks (model prog w) s.heap (typeOf b) (.ref C)) (hu : A.units + 1 < cLine) (hm : PySem.W.mroIn K C (.type "object") = some true) (hn : PySem.W.findIn K (.ref C) "__ne__" = some (some (.builtin "object.__ne__")))
    (hs : PySem.W.findIn K (.ref C) "__eq__" = some (some (.ref f))) (hf : PySem.W.isFn K (.ref f) = true) (hc : wpAny (model prog w) A.in1 (call (.ref f) [.ref x, b]) (fun v s' => ∃ t : Bool, v = .bool t ∧ Q (.bool (!t)) s') E s) :
    wpAny (model prog w) A (richCompare .NotEq (.ref x) b) Q E s := by
  have one : wpAny (model prog w) A (tryCompare (.ref x) "__ne__" b) (fun r s' => ∃ v, r = some v ∧ Q v s') E s :=
    try_ne XK J hu hm hn hs hf (wpAny_mono hc (fun v s' z => by obtain ⟨t, rfl, hq⟩ := z; exact ⟨t, rfl, _, rfl, hq⟩) fun _ _ e => e)
  unfold richCompare
  simp only [oneThing_ref, cmpInfo_NotEq]
  refine wpAny_holding (wpAny_bind (wpAny_cRoomFor (by omega) (wpAny_bind (J.type.here (wpAny_bind (Jb.here ?_))))))
  split
  · rename_i q
    simp at q
  · refine wpAny_bind (wpAny_pure ?_)
    simp only [Bool.false_eq_true, if_false]
    exact wpAny_bind (wpAny_mono one (fun r s' z => by obtain ⟨v, rfl, hq⟩ := z; exact wpAny_pure hq) fun _ _ e => e)
end
section
variable {X : Cx} {T : Tb} {W : WX} {μ μ' : Mu} {H H' : Hp} {h : Bs} {σ : Sg} {ρ : Ev}
def neO (l : MTab) (d e : D) (h : Bs) : R D := match insOf h d with
  | some (c, _, _) => (match insOf h e with
    | some (c', _, _) => if c = c' ∧ True then (match l.lookup c with
      | some cf => (match cf [d, e] h with
        | .ok (.bl b) h' => .ok (.bl (!b)) h'
        | _ => .no)
      | none => .no) else .no
    | none => .no)
  | none => eqD true d e h
theorem neO_calm {l : MTab} {d e : D} : Calm (neO l d e h) := by
  intro x h' z; unfold neO at z
  split at z
  · split at z
    · split at z
      · split at z
        · split at z <;> cases z
        · cases z
      · cases z
    · cases z
  · exact eqD_calm x h' z
theorem ov_neO {k : Nat} {l : MTab} (ok : T.Ok) (hK : X.K = T.K) (hr : Room (k + 1) X.A) (M : MtX X T "__eq__" k l) : OpR X (compareOp .NotEq) (rD2 T (neO l)) := by
  intro pins s σ H x y v u Q I rx ry ⟨μ, h, d, e, r, rd, re, o⟩
  unfold neO at o
  split at o
  · rename_i c fs ys hi1
    split at o
    · rename_i c' fs' ys' hi2
      split at o
      · rename_i hcc
        obtain ⟨hcc, _⟩ := hcc
        subst hcc
        split at o
        · rename_i cf hcf
          obtain ⟨a, C, dx, vs, rfl, e2, e3, e4, e5⟩ := r.insOf rd hi1
          obtain ⟨a', C', dx', vs', rfl, e2', e3', e4', e5'⟩ := r.insOf re hi2
          rw [e2] at e2'; cases e2'
          obtain ⟨C', f, fd, ps, f1, f3, F, hb, hfn⟩ := M c cf hcf
          rw [e2] at f1; cases f1
          obtain rfl : v = Value.ref a := rx
          obtain rfl : u = Value.ref a' := ry
          obtain ⟨mA, J, _⟩ := ins_get I.hok e3
          obtain ⟨od, J, _⟩ := J.look
          obtain ⟨mA', J', _⟩ := ins_get I.hok e3'
          obtain ⟨od', J', _⟩ := J'.look
          obtain ⟨n1, n2⟩ := ok.ne c C e2
          show wpAny (model X.prog X.w) X.A (richCompare .NotEq (.ref a) (.ref a')) (EP X pins σ Q) X.xe s
          have hu := hr.un
          refine rich_ne (K := X.K) I.kIn J J'.type (by omega) (by rw [hK]; exact n1) (by rw [hK]; exact n2) f3.at_ f3.fn ?_
          have sp : spF T cf [.ref a, .ref a'] H (fun v H' => ∃ b : Bool, v = .bl b ∧ Q (.bl (!b)) H') (fun _ _ _ => False) := by
            refine ⟨μ, h, [d, e], r, Reps.cons rd (Reps.one re), ?_⟩
            cases q : cf [d, e] h with
            | no => rw [q] at o; exact o.elim
            | ex x h' => rw [q] at o; exact o.elim
            | ok z h' =>
              rw [q] at o
              cases z <;> first | exact o.elim | skip
              rename_i b
              intro μ' H' v st r' rv'
              simp only [Rep] at rv'
              exact ⟨b, rv', o μ' H' _ st r' (by simp only [Rep])⟩
          refine wpAny_mono (run_sub (A := X.A.in1) (vs := [.ref a, .ref a']) F hr.in1 rfl hb I (.cons rfl (.cons rfl .nil)) sp) (fun u s' z => ?_) fun _ _ x => x
          obtain ⟨v, H', I', rv', b, rfl, hq⟩ := z
          obtain rfl : u = Value.bool b := rv'
          exact ⟨b, rfl, .bl (!b), H', I', rfl, hq⟩
        · exact o.elim
      · exact o.elim
    · exact o.elim
  · exact ov_ne hK (by have := hr.un; omega) pins s σ H x y v u Q I rx ry ⟨μ, h, d, e, r, rd, re, o⟩
end
section
variable {Z : Cfg} {t : Tx} {k j : Nat} {N : List Str} {sc : Scope} {raw : Option Scope} {X : Cx} {W : WX} {pos p : Pos} {a b c : Expr} {sa sb s3 : SV} {l : MTab}
theorem t_neO (h : XO Z t k N sc raw X W) (M : MtL Z "__eq__" j l) (hj : Nat.ble (j + 1) k = true) (hb' : behindInMarks .NotEq b = false) (ha : PE X a (tV Z.T W sa)) (hb : PE X b (tV Z.T W sb)) : PT X (.Compare a [.NotEq] [b] pos) (tB' Z.T W (sTru (sOp (neO l) sa sb))) :=
  pvt_cmp (pc_v (fun _ _ _ => neO_calm) (ov_neO h.z.ok h.K (h.room.mono (Nat.le_of_ble_eq_true hj)) (M.x h)) ha hb) hb'
end
end VI
end
section
namespace VI
open PySem PySem.Spec PyProof.Rows L2
section
variable {X : Cx}
def tRevU (K : PySem.W.Frag) (te : TE) : TE := fun σ H Q => te σ H fun x H1 => ∃ a xs, x = .ref a ∧ SqT K H1 a xs ∧ ∀ p, H1 p = none → Q (.ref p) (upd H1 p (.tup xs.reverse))
theorem pe_revU {e : Expr} {te : TE} {k : Nat} {p1 p2 p3 pos : Pos} (he : PE X e te) : PE X (.Subscript e (.Slice none none (some (.UnaryOp .USub (.Constant (.int 1) k p1) p2)) p3) pos) (tRevU X.K te) := by
  refine ⟨fun pins s σ H Q I h => Subscript_ (thn (he.run pins s σ H _ I h) fun v s1 ⟨x, H1, I1, r1, q1⟩ => ?_)⟩
  obtain ⟨a, xs, ex, hx, q⟩ := q1
  subst ex
  cases r1
  have hst : PO X (some (.UnaryOp .USub (.Constant (.int 1) k p1) p2)) (tPart (tUn (rU fun i => .int (-i)) (tC (.int 1)))) := po_some (pe_un un_neg pe_int)
  refine wpAny_Slice (thn (po_none.run pins s1 σ H1 (fun o H2 => o = none ∧ H2 = H1) I1 ⟨rfl, rfl⟩) fun vl s2 ⟨l, H2, I2, pl, el, e2⟩ => ?_)
  subst el e2
  refine thn (po_none.run pins s2 σ H2 (fun o H3 => o = none ∧ H3 = H2) I2 ⟨rfl, rfl⟩) fun vu s3 ⟨u, H3, I3, pu, eu, e3⟩ => ?_
  subst eu e3
  refine thn (hst.run pins s3 σ H3 (fun o H4 => o = some (-1) ∧ H4 = H3) I3 ⟨1, rfl, -1, rfl, rfl, rfl⟩) fun vs s4 ⟨o, H4, I4, ps, eo, e4⟩ => ?_
  subst eo e4
  have I5 : Inv X pins σ H4 { s4 with heap := s4.heap.push { cls := .type "slice", data := .fields #[vl, vu, vs] } } := I4.kept (t' := s4.toks) fun b ob q => Heap.get?_push_of_some _ q
  obtain ⟨its, r, ht, hz⟩ := I5.tuple hx
  have hlen := r.length
  show wpAny (model X.prog X.w) X.A (subscriptTail e (.Slice none none (some (.UnaryOp .USub (.Constant (.int 1) k p1) p2)) p3) (.ref a) (.ref s4.heap.objs.size)) (EP X pins σ Q) X.xe { s4 with heap := s4.heap.push { cls := .type "slice", data := .fields #[vl, vu, vs] } }
  refine tail_any (ops := [.ref a, .ref s4.heap.objs.size]) ht.typeIs (PyProof.Rows.slot_tuple_getitem.lookup) ?_ (by with_unfolding_all rfl)
  refine getItem_tuple_rev ht (Heap.IsSliceOf.new _ vl vu vs) pl pu ps ?_ (by rw [List.size_toArray]; omega)
  refine ⟨.ref _, upd H4 _ (.tup xs.reverse), I5.laid (t' := s4.toks) (fun _ _ z => Heap.get?_push_of_some _ z) (Nat.le_refl _) ⟨by rw [List.length_reverse]; exact hz, its.reverse, r.reverse, ?_⟩, rfl, q _ (I5.hok.fresh (Nat.le_refl _))⟩
  have e : its.toArray.toList.reverse = its.reverse := by simp
  rw [e]
  exact IsTup.new _ _
variable {T : Tb} {W : WX}
def revY (bx : Bool) (d : D) (h : Bs) : R D := match d with
  | .tup xs => newT xs.reverse h
  | _ => revX bx d h
theorem pv_revY {bx : Bool} {e : Expr} {k : Nat} {p1 p2 p3 pos : Pos} {s : SV} (hK : X.K = T.K) (he : PE X e (tV T W s)) : PE X (.Subscript e (.Slice none none (some (.UnaryOp .USub (.Constant (.int 1) k p1) p2)) p3) pos) (tV T W (sUn (revY bx) s)) := by
  refine ⟨fun pins s' σ H Q I ⟨μ, ρ, h, r, e, o⟩ => ?_⟩
  have h1 := pv_revX (bx := bx) (k := k) (p1 := p1) (p2 := p2) (p3 := p3) (pos := pos) hK he
  have h2 := pe_revU (k := k) (p1 := p1) (p2 := p2) (p3 := p3) (pos := pos) he
  cases q : s ρ h with
  | no => exact h1.run pins s' σ H Q I ⟨μ, ρ, h, r, e, by unfold sUn at o ⊢; rw [q] at o ⊢; exact o⟩
  | ex x h' => exact h1.run pins s' σ H Q I ⟨μ, ρ, h, r, e, by unfold sUn at o ⊢; rw [q] at o ⊢; exact o⟩
  | ok d h' =>
    by_cases hd : ∃ xs, d = .tup xs
    · obtain ⟨xs, rfl⟩ := hd
      refine h2.run pins s' σ H Q I ⟨μ, ρ, h, r, e, ?_⟩
      have o1 := OutV.bind (show OutV T W σ μ H Q ((s ρ h).bind fun d h => revY bx d h) from o)
      rw [q] at o1 ⊢
      intro μ1 H1 v s1 r1 rv
      obtain ⟨a, vs, e1, e2, e4, e5⟩ := rv.tupOf
      have o2 : OutV T W σ μ1 H1 Q (newT xs.reverse h') := by
        unfold sUn at o
        rw [q] at o
        exact OutV.step (show OutV T W σ μ H Q (newT xs.reverse h') from o) s1
      exact ⟨a, vs, e1, .inl (.inl e2), (newT_ok r1 e5.reverse o2).2⟩
    · refine h1.run pins s' σ H Q I ⟨μ, ρ, h, r, e, ?_⟩
      unfold sUn at o ⊢
      rw [q] at o ⊢
      have e5 : revY bx d h' = revX bx d h' := by
        cases d with
        | tup xs => exact absurd ⟨xs, rfl⟩ hd
        | _ => rfl
      show OutV T W σ μ H Q (revX bx d h')
      rw [← e5]
      exact o
end
end VI
end
section
namespace VI
open PySem PySem.Spec PyProof.Rows L2
theorem kit_apart {K : PySem.W.Frag} {C C' : Addr} (e : PySem.W.kitOne K (.ref C') (.ref C) = some false) : PySem.W.notFirst K C (.ref C') = true := by
  unfold PySem.W.kitOne at e
  split at e
  · cases e
  · unfold PySem.W.kitCls at e
    simp only at e
    split at e
    · unfold PySem.W.notFirst
      rw [e]; simp
    · cases e
theorem ty_own {T : Tb} {c : Nat} {C : Addr} (e : T.cls c = some C) : T.tyV (7 + c) (.ref C) := by
  unfold Tb.tyV
  rw [if_neg (by omega), show 7 + c - 7 = c by omega]
  exact ⟨C, e, rfl⟩
section
variable {prog : Program} {w : World} {A : Around} {E : Value → Shared → Prop} {s : Shared} {K : PySem.W.Frag} {x C f : Addr} {ox : Obj} {od : Option Obj} {b tb : Value}
theorem rich_neW {Q : Value → Shared → Prop} (XK : K.In s.heap) (J : PySem.W.InstAt s.heap x ox C od) (Jb : PySem.W.Looks (model prog w) s.heap (typeOf b) tb) (hq : PySem.W.notFirst K C tb = true) (hu : A.units + 1 < cLine) (hm : PySem.W.mroIn K C (.type "object") = some true) (hn : PySem.W.findIn K (.ref C) "__ne__" = some (some (.builtin "object.__ne__")))
    (hs : PySem.W.findIn K (.ref C) "__eq__" = some (some (.ref f))) (hf : PySem.W.isFn K (.ref f) = true) (hc : wpAny (model prog w) A.in1 (call (.ref f) [.ref x, b]) (fun v s' => ∃ t : Bool, v = .bool t ∧ Q (.bool (!t)) s') E s) :
    wpAny (model prog w) A (richCompare .NotEq (.ref x) b) Q E s := by
  have one : wpAny (model prog w) A (tryCompare (.ref x) "__ne__" b) (fun r s' => ∃ v, r = some v ∧ Q v s') E s :=
    try_ne XK J hu hm hn hs hf (wpAny_mono hc (fun v s' z => by obtain ⟨t, rfl, hq⟩ := z; exact ⟨t, rfl, _, rfl, hq⟩) fun _ _ e => e)
  unfold richCompare
  simp only [oneThing_ref, cmpInfo_NotEq]
  refine wpAny_holding (wpAny_bind (wpAny_cRoomFor (by omega) (wpAny_bind (J.type.here (wpAny_bind (Jb.here ?_))))))
  split
  · rename_i q
    have e : PySem.W.subIn K tb (.ref C) = some false := by
      rcases Bool.or_eq_true_iff.mp hq with e | e
      · rw [beq_iff_eq.mp e] at q; simp at q
      · exact beq_iff_eq.mp e
    refine wpAny_bind ((PySem.W.looks_subIn XK e).here ?_)
    simp only [Bool.false_eq_true, if_false]
    exact wpAny_bind (wpAny_mono one (fun r s' z => by obtain ⟨v, rfl, hq⟩ := z; exact wpAny_pure hq) fun _ _ e => e)
  · refine wpAny_bind (wpAny_pure ?_)
    simp only [Bool.false_eq_true, if_false]
    exact wpAny_bind (wpAny_mono one (fun r s' z => by obtain ⟨v, rfl, hq⟩ := z; exact wpAny_pure hq) fun _ _ e => e)
end
def eqAp (T : Tb) (neg : Bool) (l : MTab) (d e : D) (h : Bs) : R D := match insOf h d with
  | some (c, _, _) => (match insOf h e with
    | some (c', _, _) => if T.kit (7 + c') (7 + c) = some false then (match l.lookup c with
      | some cf => (match cf [d, e] h with
        | .ok (.bl b) h' => .ok (.bl (if neg then !b else b)) h'
        | _ => .no)
      | none => .no) else .no
    | none => .no)
  | none => .no
theorem eqAp_calm {T : Tb} {neg : Bool} {l : MTab} {d e : D} {h : Bs} : Calm (eqAp T neg l d e h) := by
  intro x h' z; unfold eqAp at z
  repeat' split at z
  all_goals cases z
section
variable {X : Cx} {T : Tb} {W : WX} {μ μ' : Mu} {H H' : Hp} {h : Bs} {σ : Sg} {ρ : Ev}
theorem ov_eqAp {k : Nat} {l : MTab} (ok : T.Ok) (hK : X.K = T.K) (hr : Room (k + 1) X.A) (M : MtX X T "__eq__" k l) (neg : Bool) : OpR X (compareOp (if neg then .NotEq else .Eq)) (rD2 T (eqAp T neg l)) := by
  intro pins s σ H x y v u Q I rx ry ⟨μ, h, d, e, r, rd, re, o⟩
  unfold eqAp at o
  split at o
  · rename_i c fs ys hi1
    split at o
    · rename_i c' fs' ys' hi2
      split at o
      · rename_i hk
        split at o
        · rename_i cf hcf
          obtain ⟨a, C, dx, vs, rfl, e2, e3, e4, e5⟩ := r.insOf rd hi1
          obtain ⟨a', C', dx', vs', rfl, e2', e3', e4', e5'⟩ := r.insOf re hi2
          obtain ⟨C1, f, fd, ps, f1, f3, F, hb, hfn⟩ := M c cf hcf
          rw [e2] at f1; cases f1
          obtain rfl : v = Value.ref a := rx
          obtain rfl : u = Value.ref a' := ry
          obtain ⟨mA, J, _⟩ := ins_get I.hok e3
          obtain ⟨od, J, _⟩ := J.look
          obtain ⟨mA', J', _⟩ := ins_get I.hok e3'
          obtain ⟨od', J', _⟩ := J'.look
          have ap : PySem.W.notFirst X.K C (.ref C') = true := by
            rw [hK]; exact kit_apart (ok.kit _ _ _ _ _ hk (ty_own e2') (ty_own e2))
          obtain ⟨n1, n2⟩ := ok.ne c C e2
          have hu := hr.un
          have sp : spF T cf [.ref a, .ref a'] H (fun v H' => ∃ b : Bool, v = .bl b ∧ Q (.bl (if neg then !b else b)) H') (fun _ _ _ => False) := by
            refine ⟨μ, h, [d, e], r, Reps.cons rd (Reps.one re), ?_⟩
            cases q : cf [d, e] h with
            | no => rw [q] at o; exact o.elim
            | ex x h' => rw [q] at o; exact o.elim
            | ok z h' =>
              rw [q] at o
              cases z <;> first | exact o.elim | skip
              rename_i b
              intro μ' H' v st r' rv'
              simp only [Rep] at rv'
              exact ⟨b, rv', o μ' H' _ st r' (by simp only [Rep])⟩
          cases neg with
          | true =>
            show wpAny (model X.prog X.w) X.A (richCompare .NotEq (.ref a) (.ref a')) (EP X pins σ Q) X.xe s
            refine rich_neW (K := X.K) I.kIn J J'.type ap (by omega) (by rw [hK]; exact n1) (by rw [hK]; exact n2) f3.at_ f3.fn ?_
            refine wpAny_mono (run_sub (A := X.A.in1) (vs := [.ref a, .ref a']) F hr.in1 rfl hb I (.cons rfl (.cons rfl .nil)) sp) (fun u s' z => ?_) fun _ _ x => x
            obtain ⟨v, H', I', rv', b, rfl, hq⟩ := z
            obtain rfl : u = Value.bool b := rv'
            exact ⟨b, rfl, .bl (!b), H', I', rfl, hq⟩
          | false =>
            show wpAny (model X.prog X.w) X.A (richCompare .Eq (.ref a) (.ref a')) (EP X pins σ Q) X.xe s
            obtain ⟨m, hF⟩ := I.fr
            refine PySem.W.cmp_K (op := .Eq) (tb := .ref C') (by omega) hF I.ok.mod.kin J J'.type ap f3.at_ f3.fn ?_
            refine wpAny_mono (run_sub (vs := [.ref a, .ref a']) F (hr.mono (Nat.le_succ _)) rfl hb I (.cons rfl (.cons rfl .nil)) sp) (fun u s' z => ?_) fun _ _ x => x
            obtain ⟨v, H', I', rv', b, rfl, hq⟩ := z
            obtain rfl : u = Value.bool b := rv'
            exact ⟨.bl b, H', I', rfl, hq⟩
        · exact o.elim
      · exact o.elim
    · exact o.elim
  · exact o.elim
def twoB (T : Tb) (d e : D) (h : Bs) : Bool := match insOf h d, insOf h e with
  | some (c, _, _), some (c', _, _) => decide (c ≠ c') && decide (T.kit (7 + c') (7 + c) = some false)
  | _, _ => false
def objB (d _ : D) (h : Bs) : Bool := (insOf h d).isSome
abbrev eqW (T : Tb) (l : MTab) := pick (twoB T) (eqAp T false l) (pick objB (eqO l) eqX)
end
section
variable {Z : Cfg} {t : Tx} {k j : Nat} {N : List Str} {sc : Scope} {raw : Option Scope} {X : Cx} {W : WX} {pos p : Pos} {a b c : Expr} {sa sb s3 : SV} {l : MTab}
theorem p_eqW (h : XO Z t k N sc raw X W) (M : MtL Z "__eq__" j l) (hj : Nat.ble (j + 1) k = true) (ha : PE X a (tV Z.T W sa)) (hb : PE X b (tV Z.T W sb)) : PC X .Eq a b (tV Z.T W (sOp (eqW Z.T l) sa sb)) := by
  have hr := h.room.mono (Nat.le_of_ble_eq_true hj)
  exact pc_v (pick_calm (fun _ _ _ => eqAp_calm) (pick_calm (fun _ _ _ => eqO_calm) C_eqX.cf)) (OpR.pick (ov_eqAp h.z.ok h.K hr (M.x h) false) (OpR.pick (ov_eqO h.K (hr.mono (Nat.le_succ _)) (M.x h)) (C_eqX.run h))) ha hb
theorem v_eqW (h : XO Z t k N sc raw X W) (M : MtL Z "__eq__" j l) (hj : Nat.ble (j + 1) k = true) (hb' : behindInMarks .Eq b = false) (ha : PE X a (tV Z.T W sa)) (hb : PE X b (tV Z.T W sb)) : PE X (.Compare a [.Eq] [b] pos) (tV Z.T W (sOp (eqW Z.T l) sa sb)) := pv_cmp (p_eqW h M hj ha hb) hb'
end
end VI
end
section
namespace VI
open PySem PySem.Spec PyProof.Rows L2
section
variable {X : Cx} {T : Tb} {W : WX} {μ μ' : Mu} {H H' : Hp} {h : Bs} {σ : Sg} {ρ : Ev}
end
end VI
end
section
namespace VI
open PySem PySem.Spec PyProof.Rows L2
section
variable {X : Cx} {pins : List (Addr × Obj)} {σ : Sg} {H : Hp} {sI s' : Shared} {B : Heap} {a : Addr} {oe : Obj} {vs : Array Value}
end
section
variable {X : Cx} {x n : Str} {c : Value} {i : Nat} {body suite : List Stmt} {b₀ : Stmt} {np pos pos' : Pos} {tb : WX → TS} {ts : TS} {Wout : WX}
end
section
variable {X : Cx} {T : Tb} {W : WX} {μ μ' : Mu} {H H' : Hp} {h : Bs} {σ : Sg} {ρ : Ev}
end
structure XH (Z : Cfg) (t : Tx) (k : Nat) (N₀ : List Str) (sc₀ : Scope) (raw : Option Scope) (X : Cx) : Prop where
  z : Z.Ok t
  prog : X.prog = Z.P
  w : X.w = Z.w
  K : X.K = Z.T.K
  mg : X.mg = Z.mg
  base : X.base = Z.base
  N : X.N = N₀
  nd : N₀.Nodup
  sc : X.env.scope = sc₀
  kd : sc₀.kind = .function
  fn : ∀ x, fnC raw x = true → X.fn x = true
  room : L2H.RoomH k X.A
section
variable {Z : Cfg} {t : Tx} {k : Nat} {N : List Str} {sc : Scope} {raw : Option Scope} {X : Cx} {W : WX} {pos p : Pos} {a b c : Expr} {sa sb s3 : SV} {x : Str}
theorem XO.suite (h : XO Z t k N sc raw X W) (a : Addr) (pn : List (Addr × Obj)) : XH Z t k N sc raw (X.suite a pn) :=
  ⟨h.z, h.prog, h.w, h.K, h.mg, h.base, h.N, h.nd, h.sc, h.kd, h.fn, ⟨h.room.dp, h.room.un⟩⟩
theorem XH.gl (h : XH Z t k N sc raw X) (g : glC sc x = true) : Gl X x ∧ (x == ("__debug__" : Str)) = false ∧ x ≠ "__name__" := by
  unfold glC at g
  simp only [Bool.and_eq_true, Bool.not_eq_true', beq_eq_false_iff_ne] at g
  obtain ⟨⟨g1, g2⟩, g3⟩ := g
  refine ⟨?_, by simpa using g2, g3⟩
  unfold Gl Env.kindOf
  rw [h.sc]
  split at g1
  · assumption
  · cases g1
theorem XH.vis (h : XH Z t k N sc raw X) {i : Nat} (g : visC N sc i x = true) : X.N[i]? = some x ∧ Vis X.env.scope x ∧ (x == ("__debug__" : Str)) = false ∧ (x == ("__classdict__" : Str)) = false := by
  unfold visC at g
  simp only [Bool.and_eq_true, Bool.not_eq_true', decide_eq_true_eq] at g
  obtain ⟨⟨⟨g1, g2⟩, g3⟩, g4⟩ := g
  refine ⟨by rw [h.N]; exact g1, ?_, g3, g4⟩
  unfold Vis
  rw [h.sc]
  split at g2
  · exact .inl (by assumption)
  · exact .inr (.inl (by assumption))
  · exact .inr (.inr (by assumption))
  · cases g2
theorem XH.loc (h : XH Z t k N sc raw X) {i : Nat} (g : locC N sc raw i x = true) : X.N[i]? = some x ∧ Loc X.env.scope x ∧ (X.fn x = true ∨ X.env.scope.names.lookup x = some .local) := by
  unfold locC at g
  simp only [Bool.and_eq_true, decide_eq_true_eq] at g
  obtain ⟨g1, g2⟩ := g
  rw [h.N]
  unfold L2.Loc
  rw [h.sc]
  split at g2
  · rename_i e; exact ⟨g1, .inl e, .inr e⟩
  · rename_i e; exact ⟨g1, .inr e, .inl (h.fn x g2)⟩
  · cases g2
theorem XH.fr (h : XH Z t k N sc raw X) (g : t.fr.contains x = true) : X.mg x = none := by rw [h.mg]; exact h.z.fr x g
theorem XH.nd' (h : XH Z t k N sc raw X) : X.N.Nodup := by rw [h.N]; exact h.nd
end
end VI
end
section
namespace VI
open PySem PySem.Spec PyProof.Rows L2
section
variable {Z : Cfg} {t : Tx} {k : Nat} {N : List Str} {sc : Scope} {raw : Option Scope} {X : Cx} {W : WX} {pos p : Pos} {a b c : Expr} {sa sb s3 : SV} {x : Str}
end
section
variable {X : Cx} {σ : Sg} {H : Hp} {s : Shared} {pins : List (Addr × Obj)}
end
section
variable {Z : Cfg} {t : Tx} {k : Nat} {N : List Str} {sc : Scope} {X : Cx} {W : WX} {pos p : Pos} {x : Str}
end
end VI
end
section
namespace VI
open PySem PySem.Spec PyProof.Rows L2
def obsCA (as : List Addr) (c : Ct) (fa : List He.Fa) (fn : List He.DefD) (g : Addr → Option Obj) : He.AlD := obsC c fa fn (He.frG g as)
def hookCA (as : List Addr) (c : Ct) (fa : List He.Fa) (fn : List He.DefD) : PySem.W.Hook where
  α := He.AlD
  obs := fun s => obsCA as c fa fn s.heap.get?
  val := fun _ => He.valD fn
  says := fun _ h => ∃ K : PySem.W.Frag, K.In h ∧ SaysC c fa fn K
  of := fun _ _ e => ⟨_, He.frG_in, e⟩
  keeps := fun _ _ _ ⟨K, hK, q⟩ k => ⟨K, PySem.W.Frag.In.keeps hK k, q⟩
theorem obsCA_eq {as : List Addr} {c : Ct} {fa : List He.Fa} {fn : List He.DefD} {g : Addr → Option Obj} {s : Shared} (h : ∀ a, g a = s.heap.get? a) : obsCA as c fa fn g = (hookCA as c fa fn).obs s := by
  rw [show g = s.heap.get? from funext h] <;> rfl
end VI
noncomputable section
namespace VI
open PySem PySem.W PySem.Calls PyProof.Rows HandSHeadRun
theorem map3 {α β γ δ : Type} {e : Option α} {f : α → β} {g : α → γ} {k : α → δ} {a : β} {b : γ} {c : δ} (h1 : e.map f = some a) (h2 : e.map g = some b) (h3 : e.map k = some c) : e.map (fun s => (f s, g s, k s)) = some (a, b, c) := by
  cases e with
  | none => cases h1
  | some s =>
    simp only [Option.map_some, Option.some.injEq] at h1 h2 h3 ⊢
    rw [h1, h2, h3]
abbrev endQ (r : OpenRow) (M : Nat) (w : World) (os : OsState) : Option SharedT := endF (stepQ (denQ tabQ) r.prog w) M r.prog w os
def Run1 (r : OpenRow) (M : Nat) : Prop := ∀ (w : World) (os : OsState), (endQ r M w os).map (fun s => looksF r.prog (boot_heap w.params) s.abs) = some true
def Run2 (r : OpenRow) (q : Program) (M : Nat) (loose : List PySem.Str) : Prop := ∀ (w : World) (os : OsState), (endQ r M w os).map (fun s => seenQ q loose (importedModules r.prog.main.body) (fun s => xlAt q [] s && recOk r.toRowW.records s) s.abs) = some (openGood q loose)
def Run3 (r : OpenRow) (H : Hook) (ob : SharedT → H.α) (M : Nat) : Prop := ∀ (w : World) (os : OsState), (endQ r M w os).map ob = some (H.val w)
theorem run_of {r : OpenRow} {q : Program} {H : Hook} {ob : SharedT → H.α} {M : Nat} {loose : List PySem.Str} (h1 : Run1 r M) (h2 : Run2 r q M loose) (h3 : Run3 r H ob M) (w : World) : RunEq r q H ob M loose w := fun os => map3 (h1 w os) (h2 w os) (h3 w os)
end VI
end
end
section
noncomputable section
namespace VI
open PySem PySem.W PySem.Calls PyProof.Rows HandSHeadRun PySem.Spec L2
def obF (as : List Addr) (fa : List He.Fa) (fn : List He.DefD) (g : Addr → Option Obj) : Bool := (fa.all fun f => f.ok (He.frT g as)) && fn.all fun d => d.ok (He.frT g as)
def obL (as : List Addr) (fn : List He.DefD) (g : Addr → Option Obj) : List He.FnW := fn.map fun d => He.fnW (He.frT g as) d.at_
def RunB (r : OpenRow) (M : Nat) (f : (Addr → Option Obj) → Bool) : Prop := ∀ (w : World) (os : OsState), (endQ r M w os).map (fun s => f (HandSHeadRun.getT s)) = some true
def RunL (r : OpenRow) (M : Nat) (as : List Addr) (fn : List He.DefD) : Prop := ∀ (w : World) (os : OsState), (endQ r M w os).map (fun s => obL as fn (HandSHeadRun.getT s)) = some (fn.map He.DefD.val)
theorem RunL.app {r : OpenRow} {M : Nat} {as : List Addr} {a b : List He.DefD} (h1 : RunL r M as a) (h2 : RunL r M as b) : RunL r M as (a ++ b) := fun w os => by
  have h1 := h1 w os
  have h2 := h2 w os
  cases e : endQ r M w os with
  | none => rw [e] at h1; cases h1
  | some s =>
    rw [e] at h1 h2
    simp only [Option.map_some, Option.some.injEq, obL, List.map_append] at h1 h2 ⊢
    rw [h1, h2]
theorem RunB.fa {r : OpenRow} {M : Nat} {as : List Addr} {fa fa' : List He.Fa} {fn fn' : List He.DefD} (h1 : RunB r M (obF as fa fn)) (h2 : RunB r M (obF as fa' fn')) : RunB r M (obF as (fa ++ fa') (fn ++ fn')) := fun w os => by
  have h1 := h1 w os
  have h2 := h2 w os
  cases e : endQ r M w os with
  | none => rw [e] at h1; cases h1
  | some s =>
    rw [e] at h1 h2
    simp only [Option.map_some, Option.some.injEq, obF, Bool.and_eq_true, List.all_append] at h1 h2 ⊢
    exact ⟨⟨h1.1, h2.1⟩, h1.2, h2.2⟩
theorem RunL.td {r : OpenRow} {M : Nat} {as : List Addr} {fn : List He.DefD} (k : Nat) (h1 : RunL r M as (fn.take k)) (h2 : RunL r M as (fn.drop k)) : RunL r M as fn := by
  have := h1.app h2
  rwa [List.take_append_drop] at this
theorem RunB.td {r : OpenRow} {M : Nat} {as : List Addr} {fa : List He.Fa} {fn : List He.DefD} (k : Nat) (h0 : RunB r M (obF as fa [])) (h1 : RunB r M (obF as [] (fn.take k))) (h2 : RunB r M (obF as [] (fn.drop k))) : RunB r M (obF as fa fn) := by
  have := h0.fa (h1.fa h2)
  rwa [List.take_append_drop, List.append_nil, List.append_nil, List.nil_append] at this
end VI
end
end
section
namespace VI
open PySem PySem.Spec PyProof.Rows L2
def supBody (s1 f par : Str) (c : Expr) (p0 p1 p2 p3 p4 q0 q1 q2 q3 : Pos) : List Stmt :=
  [.Expr (.Call (.Attribute (.Call (.Name "super" p0) [] [] p1) "__init__" p2) [c] [] p3) p4, .Assign [.Attribute (.Name s1 q0) f q1] (.Name par q2) q3]
section
variable {K : PySem.W.Frag} {prog : Program} {w : World}
variable {X : Cx} {pins : List (Addr × Obj)} {σ : Sg} {H : Hp} {s : Shared}
variable {a C fI cda cc : Addr} {name qual : Str} {params : Arguments} {scope : Scope} {dV kV doc pm ct oc : Value} {an od : Option Addr} {osl : Array (Option Value)}
variable {f par : Str} {txt : Str} {jk : Nat} {pc p0 p1 p2 p3 p4 q0 q1 q2 q3 : Pos} {vs : Array Value} {file : Str} {tf : Tok} {ccl cl : Value} {cdd cld : Option Addr} {ccs csl : Array (Option Value)} {cdC : ClassData} {y : V} {u : Value}
structure SupF (K : PySem.W.Frag) (P : Program) (C fI cda cc : Addr) (qual : Str) (params : Arguments) (scope : Scope) (par f : Str) : Prop where
  code : PySem.W.codeIn K (.ref cda) qual = true
  file : ∃ ccl cdd vs ccs file tf, K.lookup cda = some ⟨ccl, cdd, .fields vs, ccs⟩ ∧ vs[2]? = some (.str file tf) ∧ ((P.main.file : Str) == file) = true
  cell : ∃ cl cld csl, K.lookup cc = some ⟨cl, cld, .cell (some (.ref C)), csl⟩
  sub : PySem.W.mroIn K C (.ref C) = some true
  sup : PySem.W.ks_superIn K C C "__init__" = some (some (.builtin "ValueError.__init__"))
  ve : PySem.W.subIn K (.ref C) (.type "ValueError") = some true
  any : PySem.W.nsIn K PySem.cStatics "thirdparty.any" = some none
  top : (P.main.scope.names.lookup ("super" : Str)).isSome = false
  hp : ∃ ar : Arg, (params.posonlyargs ++ params.args).head? = some ar ∧ ar.arg = "self"
  kind : scope.kind = .function
  co : scope.isCoroutine = false
  gen : scope.isGenerator = false
  nocell : ∀ x ∈ scope.names, x.2 ≠ .cell
  l1 : scope.names.lookup ("self" : Str) = some .local
  l2 : scope.names.lookup par = some .local
  l3 : scope.names.lookup ("super" : Str) = some .globalImplicit
  l4 : scope.names.lookup ("__class__" : Str) = some .free
  ne : par ≠ ("self" : Str)
  nd : (par == ("__debug__" : Str)) = false
  fld : PySem.W.findIn K (.ref C) f = some none
end
structure SupC (K : PySem.W.Frag) (P : Program) (C : Addr) (f : Str) : Prop where
  T : OexC K C
  fn : ∃ (fI cda cc : Addr) (name qual : Str) (params : Arguments) (scope : Scope) (dV kV doc pm ct oc : Value) (an od : Option Addr) (osl : Array (Option Value)) (par txt : Str) (jk : Nat) (pc p0 p1 p2 p3 p4 q0 q1 q2 q3 : Pos),
    PySem.W.findIn K (.ref C) "__init__" = some (some (.ref fI)) ∧ PySem.W.typeIn K (.ref fI) = some (.type "function") ∧ SupF K P C fI cda cc qual params scope par f ∧
    K.lookup fI = some ⟨oc, od, .func (PySem.W.ksFn name qual params (supBody "self" f par (.Constant (.str txt) jk pc) p0 p1 p2 p3 p4 q0 q1 q2 q3) scope dV kV doc pm an (.ref cda) ct cc), osl⟩ ∧ (p2.endLine == p3.line) = true ∧
    Binds K (PySem.W.ksFn name qual params (supBody "self" f par (.Constant (.str txt) jk pc) p0 p1 p2 p3 p4 q0 q1 q2 q3) scope dV kV doc pm an (.ref cda) ct cc) [("self" : Str), par] []
end VI
end
section
namespace VI
open PySem PySem.Spec PyProof.Rows L2
end VI
noncomputable section
namespace VI
open PySem PySem.W PySem.Calls PyProof.Rows HandSHeadRun PySem.Spec L2
end VI
end
end
section
namespace VI
open PySem PySem.Spec PyProof.Rows L2
section
variable {Z : Cfg} {t : Tx} {k : Nat} {N : List Str} {sc : Scope} {raw : Option Scope} {X : Cx} {W : WX} {pos apos : Pos} {a e : Expr} {sa se : SV}
end
end VI
end
section
namespace VI
open PySem PySem.Spec PyProof.Rows L2
section
variable {Z : Cfg} {t : Tx} {k : Nat} {N : List Str} {sc : Scope} {raw : Option Scope} {X : Cx} {W : WX} {pos p : Pos} {sa : SA}
end
end VI
end
section
namespace VI
open PySem PySem.Spec PyProof.Rows L2
section
variable {Z : Cfg} {t : Tx} {k : Nat} {N : List Str} {sc : Scope} {raw : Option Scope} {X : Cx} {W : WX} {pos : Pos} {a b : Expr} {sa sb : SV}
end
end VI
end
section
namespace VI
open PySem PySem.Spec PyProof.Rows L2
structure Sr where
  it : Addr
  fp : List Addr
  us : List Value
  St : Nat → Heap → Prop
def Sr.Dr (prog : Program) (w : World) (A : Around) (r : Sr) : Prop := Draws prog w A r.it r.fp r.us.length (fun i v => r.us[i]? = some v) r.St
structure ZG (z TI TO : Addr) (rs : List Sr) : Prop where
  TIz : TI ≠ z
  TOz : TO ≠ z
  TITO : TI ≠ TO
  TIi : ∀ r ∈ rs, TI ≠ r.it
  mem : ∀ r ∈ rs, r.it ∈ r.fp
  zf : ∀ r ∈ rs, z ∉ r.fp
  Tf : ∀ r ∈ rs, TO ∉ r.fp
  sep : ∀ (j k : Nat) (a b : Sr), j ≠ k → rs[j]? = some a → rs[k]? = some b → a.it ∉ b.fp
abbrev IsTupL (h : Heap) (T : Addr) (vs : List Value) : Prop := h.get? T = some { cls := .type "tuple", data := .seq vs.toArray }
def AtJ (rs : List Sr) (i j : Nat) (h : Heap) : Prop := ∀ (m : Nat) (r : Sr), rs[m]? = some r → r.St (if m < j then i + 1 else i) h
section
variable {prog : Program} {w : World} {A : Around} {E : Value → Shared → Prop} {s : Shared} {z TI TO : Addr} {rs : List Sr} {i j : Nat} {h h' : Heap}
theorem AtJ.next (S : ZG z TI TO rs) (D : ∀ r ∈ rs, r.Dr prog w A) (a : AtJ rs i j h) {r : Sr} (hr : rs[j]? = some r) (st : r.St (i + 1) h') (sb : Heap.SameBut r.it h h') : AtJ rs i (j + 1) h' := fun m b hb => by
  by_cases e : m = j
  · subst e
    rw [hr] at hb; cases hb
    simpa using st
  · have q := a m b hb
    have : (if m < j + 1 then i + 1 else i) = (if m < j then i + 1 else i) := by
      by_cases h1 : m < j
      · rw [if_pos h1, if_pos (by omega)]
      · rw [if_neg h1, if_neg (by omega)]
    rw [this]
    exact (D b (List.mem_of_getElem? hb)).over q sb (S.sep j m r b (Ne.symm e) hr hb)
theorem AtJ.frame (D : ∀ r ∈ rs, r.Dr prog w A) (a : AtJ rs i j h) (k : ∀ r ∈ rs, ∀ b ∈ r.fp, ∀ o, h.get? b = some o → h'.get? b = some o) : AtJ rs i j h' := fun m b hb =>
  (D b (List.mem_of_getElem? hb)).frame _ _ _ (a m b hb) (k b (List.mem_of_getElem? hb))
theorem AtJ.all (a : AtJ rs i rs.length h) : AtJ rs (i + 1) 0 h := fun m b hb => by
  have q := a m b hb
  rw [if_pos (List.getElem?_eq_some_iff.mp hb).1] at q
  simpa using q
end
end VI
end
section
namespace VI
open PySem PySem.Spec PyProof.Rows L2
section
variable {prog : Program} {w : World} {A : Around} {E : Value → Shared → Prop} {s : Shared} {z TI TO : Addr} {rs : List Sr} {i j : Nat} {h h' : Heap} {vs0 : List Value}
abbrev IsZipX (h : Heap) (z TI TO : Addr) (f0 : Value) (f : Bool) : Prop := h.get? z = some { cls := .type "zip", dict := none, data := .fields #[f0, .bool f, .bool false, .ref TI, .ref TO], slots := #[] }
def ZAt (h : Heap) (z TI TO : Addr) (rs : List Sr) : Prop := ∃ f0 f vs, (f0 = .none ∨ ∃ T : Addr, f0 = rawInt T) ∧ IsZipX h z TI TO f0 f ∧ vs.length = rs.length ∧ IsTupL h TO vs
theorem ZAt.keep {rs : List Sr} (x : ZAt h z TI TO rs) (k1 : ∀ o, h.get? z = some o → h'.get? z = some o) (k2 : ∀ o, h.get? TO = some o → h'.get? TO = some o) : ZAt h' z TI TO rs := by
  obtain ⟨f0, f, vs, a, b, c, d⟩ := x
  exact ⟨f0, f, vs, a, k1 _ b, c, k2 _ d⟩
theorem ZAt.ty (zz : ZAt s.heap z TI TO rs) : s.TypeIs (.ref z) "zip" := by
  obtain ⟨f0, f, vs0, fr, zz, _⟩ := zz
  exact ⟨_, zz, rfl⟩
end
end VI
end
section
namespace VI
open PySem PySem.Spec PyProof.Rows L2
inductive Al {α β : Type} (R : α → β → Prop) : List α → List β → Prop
  | nil : Al R [] []
  | cons {a b as bs} : R a b → Al R as bs → Al R (a :: as) (b :: bs)
namespace Al
variable {α β γ : Type} {R : α → β → Prop} {as : List α} {bs : List β}
theorem length (h : Al R as bs) : as.length = bs.length := by induction h with | nil => rfl | cons _ _ ih => simp [ih]
theorem get (h : Al R as bs) : ∀ {m : Nat} {a : α} {b : β}, as[m]? = some a → bs[m]? = some b → R a b := by
  induction h with
  | nil => intro m a b e; simp at e
  | cons r _ ih =>
    intro m a b e f
    cases m with
    | zero => simp at e f; subst e f; exact r
    | succ m => exact ih (by simpa using e) (by simpa using f)
theorem mono {R' : α → β → Prop} (h : Al R as bs) (f : ∀ a b, R a b → R' a b) : Al R' as bs := by
  induction h with
  | nil => exact .nil
  | cons r _ ih => exact .cons (f _ _ r) ih
end Al
def ItQ (tp : Bool) (h : Heap) (it a : Addr) (i : Nat) : Prop := match tp with
  | true => h.IsTupleIter it a i
  | false => h.IsListIter it a i
def SeQ (tp : Bool) (h : Heap) (a : Addr) (us : List Value) : Prop := match tp with
  | true => h.IsTuple a us.toArray
  | false => h.IsList a us.toArray
def srQ (tp : Bool) (it a : Addr) (us : List Value) : Sr := ⟨it, [it, a], us, fun i h => ItQ tp h it a i ∧ SeQ tp h a us⟩
theorem ItQ.at {tp : Bool} {h h' : Heap} {it a : Addr} {i : Nat} (q : ItQ tp h it a i) (k : ∀ o, h.get? it = some o → h'.get? it = some o) : ItQ tp h' it a i := by
  cases tp with
  | false => exact Heap.IsListIter.at q k
  | true => exact Heap.IsTupleIter.at q k
theorem ItQ.obj {tp : Bool} {h : Heap} {it a : Addr} {i : Nat} (q : ItQ tp h it a i) : ∃ o, h.get? it = some o ∧ ∀ v, o.data ≠ .cell v := by
  cases tp with
  | false => obtain ⟨o, e, _, d⟩ := q; exact ⟨o, e, fun v q => by rw [d] at q; cases q⟩
  | true => obtain ⟨o, e, _, d⟩ := q; exact ⟨o, e, fun v q => by rw [d] at q; cases q⟩
section
variable {X : Cx} {pins : List (Addr × Obj)} {σ : Sg} {H : Hp} {s : Shared}
end
def srsK : Nat → List (Bool × Addr) → List (List Value) → List Sr
  | N, p :: ss, us :: uss => srQ p.1 N p.2 us :: srsK (N + 1) ss uss
  | _, _, _ => []
theorem srsK_length : ∀ (N : Nat) (ss : List (Bool × Addr)) (uss : List (List Value)), ss.length = uss.length → (srsK N ss uss).length = ss.length
  | N, p :: ss, us :: uss, h => by simp [srsK, srsK_length (N + 1) ss uss (by simpa using h)]
  | _, [], _, _ => rfl
  | _, _ :: _, [], h => by simp at h
end VI
end
section
namespace VI
open PySem PySem.Spec PyProof.Rows L2
section
variable {X : Cx} {T : Tb} {W : WX} {μ μ' : Mu} {H H' : Hp} {h : Bs} {σ : Sg} {ρ : Ev}
end
end VI
end
section
namespace PySem
open Sem (wp)
set_option maxHeartbeats 2000000 in
section
variable {prog : Program} {w : World} {A : Around} {E : Value → Shared → Prop} {s : Shared}
end
end PySem
namespace VI
open PySem PySem.Spec PyProof.Rows L2
section
variable {prog : Program} {w : World} {A : Around} {E : Value → Shared → Prop} {s : Shared} {p1 p2 p3 p4 : Bool × Addr} {u1 u2 u3 u4 : List Value}
end
section
variable {X : Cx} {T : Tb} {W : WX} {μ μ' : Mu} {H H' : Hp} {h : Bs} {σ : Sg} {ρ : Ev}
end
section
variable {Z : Cfg} {t : Tx} {k : Nat} {N : List Str} {sc : Scope} {raw : Option Scope} {X : Cx} {W : WX} {pos p : Pos} {a b c : Expr}
end
end VI
end
section
namespace VI
open PySem PySem.Spec PyProof.Rows L2
structure LZN (H H' : Hp) (L : Addr) (xss : List (List V)) (vs : List V) (n : Nat) : Prop where
  ext : ∀ a o, H a = some o → H' a = some o
  no : H L = none
  at_ : H' L = some (.lst vs)
  len : vs.length = n
  item : ∀ j, j < n → ∃ a ws, vs[j]? = some (.ref a) ∧ H a = none ∧ Al (fun (xs : List V) x => xs[j]? = some x) xss ws ∧ H' a = some (.tup ws)
section
variable {X : Cx} {pins : List (Addr × Obj)} {σ : Sg} {N L : Nat} {ss : List (Bool × Addr)} {uss : List (List Value)} {xss : List (List V)} {H0 : Hp} {A : Around} {R : Result → Shared → Prop} {n : Nat}
end
section
variable {X : Cx} {T : Tb} {W : WX} {μ μ' : Mu} {H H' : Hp} {h : Bs} {σ : Sg} {ρ : Ev}
end
section
variable {Z : Cfg} {t : Tx} {k : Nat} {N : List Str} {sc : Scope} {raw : Option Scope} {X : Cx} {W : WX} {pos p p2 pos2 : Pos} {a b c d : Expr} {sa : SA}
end
end VI
end
section
namespace VI
open PySem PySem.Spec PyProof.Rows L2
section
variable {prog : Program} {w : World} {A : Around} {E : Value → Shared → Prop} {s : Shared} {e z TI TO : Addr} {rs : List Sr} {i : Nat} {c : Int} {old f0 : Value}
end
end VI
end
section
namespace VI
open PySem PySem.Spec PyProof.Rows L2
def ZAtN (h : Heap) (N n : Nat) : Prop := ∃ f0 f vs, (f0 = .none ∨ ∃ T : Addr, f0 = rawInt T) ∧ IsZipX h (N + n + 2) (N + n) (N + n + 1) f0 f ∧ vs.length = n ∧ IsTupL h (N + n + 1) vs
theorem ZAtN.to {h : Heap} {N : Nat} {ss : List (Bool × Addr)} (x : ZAtN h N ss.length) {uss : List (List Value)} (hl : ss.length = uss.length) : ZAt h (N + ss.length + 2) (N + ss.length) (N + ss.length + 1) (srsK N ss uss) := by
  obtain ⟨f0, f, vs, a, b, c, d⟩ := x
  exact ⟨f0, f, vs, a, b, by rw [srsK_length N ss uss hl]; exact c, d⟩
theorem ZAtN.of {h : Heap} {N : Nat} {ss : List (Bool × Addr)} {uss : List (List Value)} (hl : ss.length = uss.length) (x : ZAt h (N + ss.length + 2) (N + ss.length) (N + ss.length + 1) (srsK N ss uss)) : ZAtN h N ss.length := by
  obtain ⟨f0, f, vs, a, b, c, d⟩ := x
  exact ⟨f0, f, vs, a, b, by rw [srsK_length N ss uss hl] at c; exact c, d⟩
theorem ZAtN.keep {h h' : Heap} {N n : Nat} (x : ZAtN h N n) (k : ∀ q, q < n + 3 → ∀ o, h.get? (N + q) = some o → h'.get? (N + q) = some o) : ZAtN h' N n := by
  obtain ⟨f0, f, vs, a, b, c, d⟩ := x
  exact ⟨f0, f, vs, a, k (n + 2) (by omega) _ b, c, k (n + 1) (by omega) _ d⟩
section
variable {prog : Program} {w : World} {A : Around} {E : Value → Shared → Prop} {s : Shared} {e z TI TO : Addr} {rs : List Sr} {i : Nat} {c : Int} {old f0 : Value}
end
section
variable {X : Cx} {T : Tb} {W : WX} {μ μ' : Mu} {H H' : Hp} {h : Bs} {σ : Sg} {ρ : Ev}
end
section
variable {Z : Cfg} {t : Tx} {k : Nat} {N : List Str} {sc : Scope} {raw : Option Scope} {X : Cx} {W : WX} {pos p p2 pos2 : Pos} {a b : Expr}
end
end VI
end
section
namespace VI
open PySem PySem.Spec PyProof.Rows L2
section
variable {P : Program} {w : World} {A : Around} {E : Value → Shared → Prop} {s : Shared}
abbrev eS (w : World) : Obj := { cls := .type "set", dict := none, data := .set #[] 0 (.fresh 0 0 (!w.params.followText "set-order")) }
theorem set_ofList {l : Addr} {its : Array Value} {ns : List Int} {Q : Value → Shared → Prop} (hd : A.handled = none) (L : s.heap.IsList l its) (I : IntsAre its.toList ns) (room : ns.length + 1 < scanBound)
    (q : ∀ (h' : Heap) (tk c : Nat), SetR w h' s.heap.objs.size (fun j => decide (j ∈ ns)) c → c ≤ ns.length → (∀ b o, s.heap.get? b = some o → h'.get? b = some o) → Q (.ref s.heap.objs.size) { s with heap := h', toks := tk }) :
    wpAny (model P w) A (call (.type "set") [.ref l]) Q E s := by
  have n1 : its.size = ns.length := Array.length_toList.symm.trans I.length
  obtain ⟨mc, mt, m0⟩ := F.called_set.mro
  have m1 := F.called_set.made
  have m2 := F.called_set.sub
  have m3 := F.called_set.notType
  have m4 := F.called_set.canCreate
  have m5 := F.typeCall_set_1 (.ref l)
  refine wpAny_call (codeAny_of_tree ?_)
  change wpAny _ A.in1 (callAny (Value.type "set") ⟨[.ref l], []⟩) _ _ s
  apply wpAny_pure
  refine ⟨Code.quiet_builtin _ (by decide +kernel), codeAny_builtin F.entry_type_call ?_⟩
  rw [Around.under_plain (weight_type_call_type "set" [Value.ref l] []) rfl]
  repeat any_goals first | assumption | wp_step
  refine codeAny_mono (code_set_led1 (.ref l) (E := E) (Q₁ := fun x s1 => x = .ref s.heap.objs.size ∧ s1 = { s with heap := s.heap.push (eS w) }) ⟨rfl, rfl⟩) fun r s1 hr => ?_
  match r, hr with
  | .error _, hr => exact hr
  | .ok (.ret x), hr =>
    obtain ⟨rfl, rfl⟩ := hr
    have g0 : (s.heap.push (eS w)).get? s.heap.objs.size = some (eS w) := Heap.get?_push_size _ rfl
    have ty : Shared.TypeIs { s with heap := s.heap.push (eS w) } (.ref s.heap.objs.size) "set" := ⟨_, g0, rfl⟩
    have m6 := F.called_set.init.lookup
    have m7 := F.called_set.init.bind (.ref s.heap.objs.size)
    repeat any_goals first | assumption | wp_step
    refine codeAny_mono (codeAny_call_builtin (R := wants (fun r s2 => r = .none ∧ ∃ h' tk c, s2 = { s with heap := h', toks := tk } ∧ SetR w h' s.heap.objs.size (fun j => decide (j ∈ ns)) c ∧ c ≤ ns.length ∧ ∀ b o, s.heap.get? b = some o → h'.get? b = some o) E)
      F.called_set.init.plain F.entry_set_init (check_set_init_1 ty ?_)) fun r2 s2 h2 => ?_
    · obtain ⟨⟨oc, od, ox, os⟩, L1, L2, nl, L3⟩ := L
      simp only at L2 L3
      subst L2 L3
      have lt : l < s.heap.objs.size := Heap.lt_size L1
      have L4 : (s.heap.push (eS w)).get? l = some { cls := .type "list", dict := od, data := .seq its nl, slots := os } := Heap.get?_push_of_some _ L1
      have u1 := F.sub_list_set
      have u2 := F.sub_list_frozenset
      have u3 : (Value.type "list" == Value.type "dict") = false := by decide
      have L5 : (s.heap.push (eS w)).IsList l its := ⟨_, L4, rfl, nl, rfl⟩
      unfold Builtin.«set.__init__» noKeywords Builtin.Frozenset.updateFrom
      generalize hp : pyIter = PI
      wp_walk
      subst hp
      refine wpAny_pyIter_list L5 (wpAny_bind (wpAny_runValue ?_))
      have hz : (s.heap.push (eS w)).objs.size = s.heap.objs.size + 1 := Heap.size_push ..
      have d1 : l ≠ (s.heap.push (eS w)).objs.size := by
        rw [hz]
        exact Nat.ne_of_lt (Nat.lt_succ_of_lt lt)
      have d2 : s.heap.objs.size ∉ [(s.heap.push (eS w)).objs.size, l] := by
        rw [hz]
        intro z
        rcases List.mem_cons.mp z with z | z
        · exact Nat.ne_of_lt (Nat.lt_succ_self _) z
        · exact Nat.ne_of_gt lt (List.mem_singleton.mp z)
      refine set_update_ints (Walks.list (A := A.in1.in1.in1) (by simp [hd]) _ l d1 its).toS s.heap.objs.size d2 ns n1 room (fun i v hv => ?_) its.size 0 _ rfl (Nat.zero_le _) ⟨⟨_, Heap.get?_push_size _ rfl, rfl, rfl⟩, L5.push _⟩ ⟨0, Nat.zero_le _, setR_new_at (Heap.get?_push_of_some _ g0)⟩ fun s' c mv hc R => ?_
      · have hi : i < ns.length := n1 ▸ (Array.getElem?_eq_some_iff.mp hv).1
        obtain ⟨t, e⟩ := IntsAre.int_at I i v (by rw [Array.getElem?_toList]; exact hv)
        exact ⟨ns[i], t, List.getElem?_eq_getElem hi, by rw [e, List.getD_eq_getElem?_getD, List.getElem?_eq_getElem hi] <;> rfl⟩
      · obtain ⟨h', g', d', t', o'⟩ := s'
        cases (show g' = s.gens from mv.gens)
        cases (show d' = s.drawn from mv.drawn)
        cases (show o' = s.os from mv.os)
        change wpAny (model P w) A.in1.in1 (pure ()) _ _ _
        apply wpAny_pure
        change wpAny (model P w) A.in1.in1 (ret Value.none) _ _ _
        refine wpAny_pure ⟨rfl, h', t', c, rfl, R, n1 ▸ hc, fun b o e => ?_⟩
        have lb := Heap.lt_size e
        refine mv.heap b o (fun z => ?_) (Heap.get?_push_of_some _ (Heap.get?_push_of_some _ e))
        rcases List.mem_cons.mp z with z | z
        · exact Nat.ne_of_lt lb z
        · exact Nat.ne_of_lt (Nat.lt_succ_of_lt lb) ((List.mem_singleton.mp z).trans hz)
    · match r2, h2 with
      | .error _, h2 => exact h2
      | .ok (.ret _), h2 =>
        obtain ⟨rfl, h', tk, c, rfl, R, hc, k⟩ := h2
        repeat any_goals first | assumption | wp_step
        exact q _ _ _ R hc k
variable {X : Cx} {Z : Cfg} {t : Tx} {k : Nat} {N : List Str} {sc : Scope} {raw : Option Scope} {W : WX}
def srtSetL (bx : Bool) (d : D) (h : Bs) : R D := match d with
  | .lst xs => (match intsD xs with
    | some ns => if ns.length < 64 then newL bx ((sortI (dedI ns)).map .int) h else .no
    | none => .no)
  | _ => .no
def tSl (ta : TE) : TE := fun σ H Q => ta σ H fun x H1 => ∃ (l : Addr) (ns : List Int), x = .ref l ∧ H1 l = some (.lst (ns.map V.int)) ∧ ns.length < 64 ∧ ∀ p, H1 p = none → Q (.ref p) (upd H1 p (.lst ((sortI (dedI ns)).map V.int)))
theorem pe_sl {a : Expr} {p pos p2 q : Pos} {ta : TE} (hg : Gl X "sorted") (hm : X.mg "sorted" = none) (hg2 : Gl X "set") (hm2 : X.mg "set" = none) (ha : PE X a ta) (hc : X.calm = true)
    (na : starEach [a] X.env = (false, eval a X.env) :: starEach [] X.env) : PE X (.Call (.Name "sorted" p) [.Call (.Name "set" p2) [a] [] q] [] pos) (tSl ta) := by
  refine ⟨fun pins s σ H Q I h => Call_ (ld_blt I hg hm boot_sorted ?_)⟩
  refine callWith_builtin1 (args_cons (Call_ (ld_blt I hg2 hm2 PyProof.Rows.boot_set (callWith_type1 (args_cons (thn (ha.run pins s σ H _ I h) fun v s1 ⟨x, H1, J, r, y⟩ => args_nil ?_) na) na rfl))) rfl) rfl rfl
  obtain ⟨l, ns, rfl, el, room, y⟩ := y
  cases r
  obtain ⟨its, rv, pl, _⟩ := J.list (.inl (.inl el))
  refine set_ofList (J.ok.hd hc) pl.isList (ns := ns) (by simpa using rv.ints) (by unfold scanBound; omega) fun hp tk c R cl ke => args_nil ?_
  have J2 : Inv X pins σ H1 { s1 with heap := hp, toks := tk } := J.kept ke
  refine sorted_set R (J2.ok.hd hc) (by omega) fun s2 b out c2 ms k2 eg eo lb gb ib srt mem len => ?_
  obtain rfl := set_is srt mem
  have fr : H1 b = none := J2.hok.fresh lb
  have sz : ((sortI (dedI ns)).map V.int).length ≤ sizeLine := by rw [List.length_map, len, sizeLine_eq]; omega
  have J3 := J2.call (h' := s2.heap) (g' := s2.gens) (d' := s2.drawn) (t' := s2.toks) (H' := upd H1 b (.lst ((sortI (dedI ns)).map V.int))) (ch := []) (Un.laid k2 lb fr) (J2.hok.laid k2 lb ⟨sz, out.toList, c2, vals_of_ints ib, gb⟩) (by rw [eg]; exact J2.bare) (fun _ z => nomatch z)
  have es : s2 = { s1 with heap := s2.heap, gens := s2.gens, drawn := s2.drawn, toks := s2.toks } := by
    obtain ⟨_, _, _, _, _⟩ := s2
    obtain ⟨_, _, _, _, _⟩ := s1
    cases eo
    rfl
  exact es ▸ ⟨.ref b, _, J3, rfl, y b fr⟩
theorem v_sl' {bx : Bool} {a : Expr} {p pos p2 q : Pos} {sa : SV} (h : XO Z t k N sc raw X W) (g : (glC sc "sorted" && t.fr.contains "sorted" && glC sc "set" && t.fr.contains "set" && noStars [a]) = true) (ha : PE X a (tV Z.T W sa)) :
    PE X (.Call (.Name "sorted" p) [.Call (.Name "set" p2) [a] [] q] [] pos) (tV Z.T W (sUn (srtSetL bx) sa)) := by
  simp only [Bool.and_eq_true] at g
  refine PE.imp (pe_sl (h.gl g.1.1.1.1).1 (h.fr g.1.1.1.2) (h.gl g.1.1.2).1 (h.fr g.1.2) ha h.calm (na_one g.2)) fun σ H Q ⟨μ, ρ, hh, r, e, o⟩ => ⟨μ, ρ, hh, r, e, OutV.mono (OutV.bind o) ?_⟩
  rintro v H1 ⟨μ1, d, h1, s1, r1, rv, o1⟩
  unfold srtSetL at o1
  split at o1
  · split at o1
    · split at o1
      · rename_i xs _ ns hn hl
        simp only [Rep] at rv
        obtain ⟨l, vs, e1, e2, _, e3⟩ := rv
        rw [intsD_eq hn] at e3
        rw [e3.intsOf] at e2
        exact ⟨l, ns, e1, e2, hl, (newL_ok r1 (Reps.ints _) o1).2⟩
      · exact o1.elim
    · exact o1.elim
  · exact o1.elim
end
end VI
end
section
namespace VI
open PySem PySem.Spec PyProof.Rows L2
section
variable {X : Cx} {Z : Cfg} {t : Tx} {k : Nat} {N : List Str} {sc : Scope} {raw : Option Scope} {W : WX}
end
end VI
end
section
namespace VI
open PySem PySem.Spec PyProof.Rows L2
abbrev GX := Mu → Hp → Sg → Prop
structure GOk (G : GX) (own : List Nat) : Prop where
  stp : ∀ {μ H σ μ' H' σ'}, G μ H σ → Stp μ H μ' H' → L2.wipe σ' own = L2.wipe σ own → G μ' H' σ'
  lk : ∀ {μ H σ l}, G μ H σ → G (lockMu μ l) H σ
section
variable {X : Cx} {T : Tb} {W : WX} {μ μ' : Mu} {H H' : Hp} {h : Bs} {σ : Sg} {ρ : Ev} {G : GX}
end
end VI
end
section
namespace VI
open PySem PySem.Spec PyProof.Rows L2
structure LamP (sc scope : Scope) (y : Str) : Prop where
  kind : scope.kind = .function
  co : scope.isCoroutine = false
  gen : scope.isGenerator = false
  nocell : ∀ z ∈ scope.names, z.2 ≠ .cell
  loc : ∀ z ∈ scope.names, z.2 = .local → z.1 = y
  par : scope.names.lookup y = some .local
  free : ∀ z ∈ scope.names, z.2 = .free → sc.names.lookup z.1 = some .cell ∨ sc.names.lookup z.1 = some .free
theorem LamP.has {X : Cx} {scope : Scope} {y : Str} (L : LamP X.env.scope scope y) (ok : X.Ok) : ∀ z ∈ scope.names, z.2 = .free → ∃ c, X.env.cells.lookup z.1 = some c := fun z hz e => by
  rcases L.free z hz e with k | k
  · exact ok.has _ (.inl k)
  · exact ok.has _ (.inr k)
section
variable {X Xc : Cx} {pins : List (Addr × Obj)} {σ : L2.St} {H HZ : Hp} {s s1 : Shared}
theorem none_low {base base' : Heap} (low : ∀ b o, base.get? b = some o → base'.get? b = some o) {b : Addr} (e : base'.get? b = none) : base.get? b = none := by
  cases q : base.get? b with
  | none => rfl
  | some u => rw [low b u q] at e; cases e
theorem funs_low {h base base' : Heap} (low : ∀ b o, base.get? b = some o → base'.get? b = some o) : ∀ {l : List Env}, h.FunFrames base' l → h.FunFrames base l
  | [], _ => True.intro
  | _ :: _, ⟨k, ⟨b, o, e1, e2, e3⟩, r⟩ => ⟨k, ⟨b, o, e1, none_low low e2, e3⟩, funs_low low r⟩
theorem Env0.low {P : Program} {w : World} {K : PySem.W.Frag} {mg : Str → Option Value} {base base' : Heap} {A : Around} {outer : List Env} (e : Env0 P w K mg base' A outer s1 HZ) (m : Mod K mg base) (low : ∀ b o, base.get? b = some o → base'.get? b = some o)
    (sz : base.objs.size ≤ base'.objs.size) : Env0 P w K mg base A outer s1 HZ := ⟨e.frames, m, fun b o q => e.bs b o (low b o q), Nat.le_trans sz e.bsz, funs_low low e.funs, e.frf, e.hok, e.bare⟩
structure LamAt (X Xc : Cx) (s : Shared) (scope : Scope) (params : Arguments) (body : Expr) (f c' : Addr) (pm ctv : Value) : Prop where
  prog : Xc.prog = X.prog
  w : Xc.w = X.w
  K : Xc.K = X.K
  mg : Xc.mg = X.mg
  bf : Xc.base.get? f = some (PySem.W.kla_obj "<lambda>" (X.env.qual ++ "<lambda>") params body scope (cloFrom X.env.cells scope.names []) pm c' ctv)
  bc : ∀ z c o, X.env.cells.lookup z = some c → s.heap.get? c = some o → Xc.base.get? c = some o
  low : ∀ b o, X.base.get? b = some o → Xc.base.get? b = some o
  sz : X.base.objs.size ≤ Xc.base.objs.size
end
end VI
end
section
namespace VI
open PySem PySem.Spec PyProof.Rows L2
def Cfg.at' (Z : Cfg) (b : Heap) : Cfg := { Z with base := b }
theorem Cfg.Ok.at' {Z : Cfg} {t : Tx} {b : Heap} (z : Z.Ok t) : (Z.at' b).Ok t := ⟨z.ok, z.fr, z.co, z.cl, z.att, z.ex⟩
theorem FnG.at' {Z : Cfg} {b : Heap} {x : Str} {k : Nat} {cf : List D → Bs → R D} (F : FnG Z x k cf) (m : Mod Z.T.K Z.mg Z.base) (low : ∀ a o, Z.base.get? a = some o → b.get? a = some o) (sz : Z.base.objs.size ≤ b.objs.size) : FnG (Z.at' b) x k cf := by
  obtain ⟨f, fd, ps, G, e1, e2, e3⟩ := F
  exact ⟨f, fd, ps, ⟨G.len, fun A outer s H args us vs Q E hr e0 hb rv sp => G.run A outer s H args us vs Q E hr (Env0.low e0 m low sz) hb rv sp⟩, e1, e2, e3⟩
section
variable {X : Cx} {pins : List (Addr × Obj)} {σ : L2.St} {H : Hp} {s : Shared}
end
end VI
end
section
namespace VI
open PySem PySem.Spec PyProof.Rows L2
def GL (T : Tb) (c' : Addr) (q : Str) (f : Addr) (ρX : Ev) (σX : Sg) (i : Nat) : GX := fun μ H σ => RepE T μ H ρX σX ∧ H c' = some (LamX.CodeO c' q) ∧ c' ∉ μ.ad ∧ σ[i]? = some (some (.ref f))
section
variable {T : Tb} {μ μ' : Mu} {h : Bs} {H H' : Hp} {ρ : Ev} {σ : Sg}
theorem GL.ok {c' f : Addr} {q : Str} {ρX : Ev} {σX : Sg} {i : Nat} {own : List Nat} (ho : own.contains i = false) : GOk (GL T c' q f ρX σX i) own where
  stp := fun {μ H σ μ' H' σ'} ⟨g1, g2, g3, g4⟩ s w => by
    refine ⟨g1.step s, s.keep _ _ g2 g3, fun z => ?_, ?_⟩
    · rcases s.new _ z with k | k
      · exact g3 k
      · rw [g2] at k; cases k
    · have ni : i ∉ own := by simpa using ho
      rw [← wipe_out ni (σ := σ'), w, wipe_out ni]
      exact g4
  lk := fun {μ H σ l} ⟨g1, g2, g3, g4⟩ => ⟨g1.ad lockMu_ad lockMu_pr, g2, by rw [lockMu_ad]; exact g3, g4⟩
theorem RepE.snoc {d : D} {v : V} (e : RepE T μ H ρ σ) (r : Rep T μ H d v) : RepE T μ H (ρ ++ [some d]) (σ ++ [some v]) := by
  refine ⟨by simp [e.1], fun i x q => ?_⟩
  by_cases hi : i < ρ.length
  · rw [List.getElem?_append_left hi] at q
    obtain ⟨w, e1, r1⟩ := e.2 i x q
    exact ⟨w, by rw [List.getElem?_append_left (by rw [← e.1]; exact hi)]; exact e1, r1⟩
  · rw [List.getElem?_append_right (Nat.le_of_not_lt hi)] at q
    have i0 : i - ρ.length = 0 := by
      cases n : i - ρ.length with
      | zero => rfl
      | succ n => rw [n] at q; simp at q
    rw [i0] at q
    simp only [List.getElem?_cons_zero, Option.some.injEq] at q
    subst q
    refine ⟨v, ?_, r⟩
    rw [List.getElem?_append_right (by rw [← e.1]; exact Nat.le_of_not_lt hi), ← e.1, i0]
    rfl
end
section
variable {Z : Cfg} {t : Tx} {k : Nat} {N : List Str} {sc : Scope} {X : Cx} {W : WX} {pos p : Pos} {x : Str}
end
end VI
end
section
namespace VI
open PySem PySem.Spec PyProof.Rows L2
section
variable {Z : Cfg} {t : Tx} {k : Nat} {N : List Str} {sc : Scope} {X : Cx} {W : WX} {x : Str}
theorem XO.mono {raw : Option Scope} {j : Nat} (h : XO Z t k N sc raw X W) (hj : Nat.ble j k = true) : XO Z t j N sc raw X W := { h with room := h.room.mono (Nat.le_of_ble_eq_true hj) }
end
end VI
end
section
namespace VI.Lay
open PySem PySem.Spec PyProof.Rows L2 VI VI.Std
section
variable (T : Tb)
def fNum : List D → Bs → R D := runFn 3 3 (isNum T)
def sSet : SS := (ssCons (ssIf (sOr (sNot (sUn (isiD T 4) (sVar 0))) (sNot (sCall allD' (saCons (sLc false [4] (siSeq (sVar 0)) (sgName 4) (fun _ h => .ok true h) (sCall (fNum T) (saCons (sVar 4) (saCons (sK (.int 0)) (saCons (sOp subD (sVar 1) (sK (.int 1))) saNil))))) saNil))))
  (ssCons (ssRet (sK (.bl false)))
  ssNil)
  ssNil)
  (ssCons (ssRet (sCall allD' (saCons (sLc false [2, 3] (siArg itZipX (saCons (sVar 0) (saCons (sSl false (sVar 0) (soSome (sK (.int 1))) soNone) saNil))) (sgTup 2 (sgCons (sgName 2) (sgCons (sgName 3) sgNil))) (fun _ h => .ok true h) (sOp ltS (sVar 2) (sVar 3))) saNil)))
  ssNil))
def fSet : List D → Bs → R D := runFn 2 5 (sSet T)
def sItem : SS := (ssCons (ssIf (sOr (sNot (sUn (isiD T 4) (sVar 0))) (sOr (sOp (eqD true) (sCall lenD (saCons (sVar 0) saNil)) (sK (.int 2))) (sNot (sCall (fSet T) (saCons (sOp ixD (sVar 0) (sK (.int 0))) (saCons (sVar 1) saNil))))))
  (ssCons (ssRet (sK (.bl false)))
  ssNil)
  ssNil)
  (ssCons (ssRet (sCall (fNum T) (saCons (sOp ixD (sVar 0) (sK (.int 1))) (saCons (sK (.int 1)) (saCons (sCall lenD (saCons (sOp ixD (sVar 0) (sK (.int 0))) saNil)) saNil)))))
  ssNil))
def fItem : List D → Bs → R D := runFn 2 2 (sItem T)
def sCommon : SS := (ssCons (ssRet (sCall tupleD (saCons (sLc false [2] (siSeq (sVar 0)) (sgName 2) (sTru (sOp (inD false) (sVar 2) (sVar 1))) (sVar 2)) saNil)))
  ssNil)
def fCommon : List D → Bs → R D := runFn 2 3 sCommon
end
section
variable {K : PySem.W.Frag} {ct : Ct} {h : Bs} {X Y : List Int} {n : Nat}
theorem lt_ok {x y : Int} : ltS (.int x) (.int y) h = .ok (.bl (decide (x < y))) h := rfl
theorem ge_ok {x y : Int} : geS (.int x) (.int y) h = .ok (.bl (decide (y ≤ x))) h := rfl
theorem zipT {xs ys : List D} : itZipX [.tup xs, .tup ys] h = .ok (zipL xs ys, none) h := rfl
theorem slT_lo {n : Nat} (hl : X.length ≤ sizeLine) : slD false (tI X) (some (n : Int)) none h = .ok (tI (X.drop n)) h := by
  show newT (cutD _ _ _) h = _
  rw [cut_from, ← List.map_drop, newT_f (by rw [List.length_map, List.length_drop]; omega)]
theorem lenTI : lenD [tI X] h = .ok (.int X.length) h := by
  show R.ok (D.int ((X.map D.int).length : Nat)) h = _
  rw [List.length_map]
theorem all_emb {α : Type} {own : List Nat} {it : SI} {g : SG} {el : SV} {ρ : Ev} (E : α → D) (l : List α) (p : α → Bool) (e1 : it ρ h = .ok (l.map E, none) h) (H : ∀ a ∈ l, ∃ ρ1, g (E a) (wipeE ρ own) h = .ok ρ1 h ∧ el ρ1 h = .ok (.bl (p a)) h) (hl : l.length ≤ sizeLine) :
    (sCall allD' (saCons (sLc false own it g (fun _ h => .ok true h) el) saNil)) ρ h = .ok (.bl (l.all p)) h := by
  have c1 : sLc false own it g (fun _ h => .ok true h) el ρ h = .ok (.lst ((l.map p).map .bl)) h := by
    refine lc_ok e1 ?_ (by rw [List.length_map, List.length_map]; exact hl)
    rw [List.map_map]
    exact lc_emb1 E _ l H
  refine call_ok (cons_ok c1 rfl) ?_
  rw [all_bls, List.all_map]
  rfl
theorem any_emb {α : Type} {own : List Nat} {it : SI} {g : SG} {el : SV} {ρ : Ev} (E : α → D) (l : List α) (p : α → Bool) (e1 : it ρ h = .ok (l.map E, none) h) (H : ∀ a ∈ l, ∃ ρ1, g (E a) (wipeE ρ own) h = .ok ρ1 h ∧ el ρ1 h = .ok (.bl (p a)) h) (hl : l.length ≤ sizeLine) :
    (sCall anyD' (saCons (sLc false own it g (fun _ h => .ok true h) el) saNil)) ρ h = .ok (.bl (l.any p)) h := by
  have c1 : sLc false own it g (fun _ h => .ok true h) el ρ h = .ok (.lst ((l.map p).map .bl)) h := by
    refine lc_ok e1 ?_ (by rw [List.length_map, List.length_map]; exact hl)
    rw [List.map_map]
    exact lc_emb1 E _ l H
  refine call_ok (cons_ok c1 rfl) ?_
  rw [any_bls, List.any_map]
  rfl
theorem fil_emb {α : Type} {own : List Nat} {it : SI} {g : SG} {tt : SV} {el : SV} {ρ : Ev} (E : α → D) (l : List α) (p : α → Bool) (e1 : it ρ h = .ok (l.map E, none) h) (H : ∀ a ∈ l, ∃ ρ1, g (E a) (wipeE ρ own) h = .ok ρ1 h ∧ tt ρ1 h = .ok (.bl (p a)) h ∧ el ρ1 h = .ok (E a) h) (hl : l.length ≤ sizeLine) :
    sLc false own it g (sTru tt) el ρ h = .ok (.lst ((l.filter p).map E)) h := by
  refine lc_ok e1 ?_ (by rw [List.length_map]; exact Nat.le_trans (List.length_filter_le _ _) hl)
  exact lc_emb E p E l fun a ha => by
    obtain ⟨ρ1, e2, e3, e4⟩ := H a ha
    exact ⟨ρ1, e2, tru_ok e3, fun _ => e4⟩
theorem tup_l (hl : X.length ≤ sizeLine) : tupleD [lI X] h = .ok (tI X) h := tuple_lst (by rw [List.length_map]; exact hl)
theorem set_ok (hX : SetN n X) (hl : X.length ≤ 1000) : fSet (tbC ct K) [tI X, .int n] h = .ok (.bl true) h := by
  have sz : (1000 : Nat) ≤ sizeLine := by decide
  refine run_rt rfl ?_ rfl
  show sSet (tbC ct K) [some (tI X), some (.int n), none, none, none] (inB h) = _
  unfold sSet
  have a1 : (X.all fun x => decide (0 ≤ x) && decide (x ≤ (n : Int) - 1)) = true := by
    rw [List.all_eq_true]
    intro x hx
    have := hX.lo x hx
    simp only [Bool.and_eq_true, decide_eq_true_eq]
    omega
  refine (cons_nx (h1 := inB h) (if_f (h1 := inB h) (or_ok (a := false) (b := false) (not_ok (a := true) rfl) fun _ => not_ok (a := true) ((all_emb (h := inB h) .int X (fun x => decide (0 ≤ x) && decide (x ≤ (n : Int) - 1)) rfl (fun x hx => ⟨_, rfl, call_ok (h1 := inB h) (xs := [.int x, .int 0, .int ((n : Int) - 1)]) rfl (num_ok (ct := ct) (K := K))⟩) (by omega)).trans (by rw [a1]))))).trans ?_
  have a2 : ((X.zip (X.drop 1)).all fun p => decide (p.1 < p.2)) = true := by
    rw [List.all_eq_true]
    intro p hp
    obtain ⟨i, hi, rfl⟩ := List.getElem_of_mem hp
    rw [List.getElem_zip, List.getElem_drop]
    have hi' : 1 + i < X.length := by rw [List.length_zip, List.length_drop] at hi; omega
    have := List.pairwise_iff_getElem.mp hX.up i (1 + i) (by omega) hi' (by omega)
    simpa using this
  refine ret_ok ((all_emb (h := inB h) pT (X.zip (X.drop 1)) (fun p => decide (p.1 < p.2)) (arg_ok (h1 := inB h) (xs := [tI X, tI (X.drop 1)]) (cons_ok (h1 := inB h) rfl (cons_ok (h1 := inB h) (slOk rfl (soOk rfl) rfl (slT_lo (n := 1) (by omega))) rfl)) (zipT.trans (by rw [zip_ints]))) (fun p hp => ⟨_, rfl, op_ok (x := .int p.1) (y := .int p.2) rfl rfl lt_ok⟩) (by rw [List.length_zip]; omega)).trans (by rw [a2]))
abbrev It := List Int × Int
def itD (i : It) : D := .tup [tI i.1, .int i.2]
structure ItOk (n : Nat) (i : It) : Prop where
  set : SetN n i.1
  lo : 1 ≤ i.2
  hi : i.2 ≤ i.1.length
theorem SetN.len (hX : SetN n X) : X.length ≤ n := by
  have key : ∀ (l : List Int) (a b : Int), l.Pairwise (· < ·) → (∀ x ∈ l, a ≤ x ∧ x < b) → a ≤ b → (l.length : Int) ≤ b - a := by
    intro l
    induction l with
    | nil => intro a b _ _ h; simp; omega
    | cons x l ih =>
      intro a b hp hb hab
      rw [List.pairwise_cons] at hp
      have hx := hb x List.mem_cons_self
      have := ih (x + 1) b hp.2 (fun y hy => ⟨by have := hp.1 y hy; omega, (hb y (List.mem_cons_of_mem _ hy)).2⟩) (by omega)
      rw [List.length_cons]
      omega
  have := key X 0 n hX.up (fun x hx => hX.lo x hx) (by omega)
  omega
theorem item_ok {i : It} (hi : ItOk n i) (hn : n ≤ 100) : fItem (tbC ct K) [itD i, .int n] h = .ok (.bl true) h := by
  have sz : (1000 : Nat) ≤ sizeLine := by decide
  have hl := SetN.len hi.set
  refine run_rt rfl ?_ rfl
  show sItem (tbC ct K) [some (itD i), some (.int n)] (inB h) = _
  unfold sItem
  refine (cons_nx (h1 := inB h) (if_f (h1 := inB h) (or_ok (a := false) (b := false) (not_ok (a := true) rfl) fun _ => or_ok (a := false) (b := false) (op_ok (x := .int 2) (y := .int 2) (call_ok (h1 := inB h) (xs := [itD i]) rfl rfl) rfl rfl) fun _ => not_ok (a := true) (call_ok (h1 := inB h) (xs := [tI i.1, .int n]) rfl (set_ok hi.set (by omega)))))).trans ?_
  refine ret_ok ((call_ok (h1 := inB h) (xs := [.int i.2, .int 1, .int i.1.length]) (cons_ok (h1 := inB h) rfl (cons_ok (h1 := inB h) rfl (cons_ok (h1 := inB h) (call_ok (h1 := inB h) (xs := [tI i.1]) rfl lenTI) rfl))) (num_ok (ct := ct) (K := K))).trans ?_)
  rw [decide_eq_true hi.lo, decide_eq_true hi.hi]
  rfl
theorem common_ok (hX : X.length ≤ 1000) : fCommon [tI X, tI Y] h = .ok (tI (X.filter fun x => decide (x ∈ Y))) h := by
  have sz : (1000 : Nat) ≤ sizeLine := by decide
  refine run_rt rfl ?_ noD_tI
  show sCommon [some (tI X), some (tI Y), none] (inB h) = _
  unfold sCommon
  refine ret_ok (call_ok (cons_ok (fil_emb (h := inB h) .int X (fun x => decide (x ∈ Y)) rfl (fun x hx => ⟨_, rfl, op_ok (x := .int x) (y := tI Y) rfl rfl ((in_tI (neg := false)).trans rfl), rfl⟩) (by omega)) rfl) (tup_l (Nat.le_trans (List.length_filter_le _ _) (by omega))))
def rgI (n : Nat) : List Int := (List.range n).map fun (i : Nat) => (i : Int)
theorem rgI_len : (rgI n).length = n := by simp [rgI]
theorem mem_rgI {x : Int} : x ∈ rgI n ↔ 0 ≤ x ∧ x < n := by
  unfold rgI
  rw [List.mem_map]
  constructor
  · rintro ⟨a, ha, rfl⟩
    have := List.mem_range.mp ha
    omega
  · intro e
    exact ⟨x.toNat, List.mem_range.mpr (by omega), by omega⟩
theorem rng_I (hn : n < 2 ^ 24) : itRng1 [.int n] h = .ok ((rgI n).map .int, none) h := by
  rw [rng_ok hn]
  unfold rgI
  rw [List.map_map]
  rfl
def oth (n : Nat) (Y : List Int) : List Int := (rgI n).filter fun x => !decide (x ∈ Y)
end
end VI.Lay
end
section
namespace VI.Lay
open PySem PySem.Spec PyProof.Rows L2 VI VI.Std
def kX (X : List Int) : PyData := .tuple [.int (X.length : Nat), .tuple (X.map .int)]
def insX (X : List Int) : List (List Int) → List (List Int)
  | [] => [X]
  | Y :: Ys => if W.dataLt (kX Y) (kX X) then Y :: insX X Ys else X :: Y :: Ys
def srtX : List (List Int) → List (List Int)
  | [] => []
  | X :: Xs => insX X (srtX Xs)
theorem toks_ints : ∀ X Y : List Int, W.keyToksAll (X.map .int) = W.keyToksAll (Y.map .int) → X = Y
  | [], [], _ => rfl
  | [], y :: Y, e => by simp [W.keyToksAll] at e
  | x :: X, [], e => by simp [W.keyToksAll] at e
  | x :: X, y :: Y, e => by
    simp only [List.map_cons, W.keyToksAll, W.keyToks, List.cons_append, List.nil_append, List.cons.injEq, Sum.inl.injEq, true_and] at e
    rw [e.1, toks_ints X Y e.2]
theorem beqDs_refl : ∀ X : List Int, beqDs (X.map .int) (X.map .int) = true
  | [] => by simp [beqDs]
  | x :: X => by simp [beqDs, beqD, beqDs_refl X]
theorem beqD_tI (X : List Int) : beqD (tI X) (tI X) = true := by simp [beqD, beqDs_refl X]
abbrev lT (Xs : List (List Int)) : D := .lst (Xs.map fun X => tI X)
section
variable {h : Bs} {Xs : List (List Int)} {ti : Nat}
def subs : Nat → List (List Int)
  | 0 => [[]]
  | k + 1 => subs k ++ (subs k).map fun X => X ++ [(k : Int)]
def sets (n : Nat) : List (List Int) := srtX (subs n)
end
end VI.Lay
end
section
namespace VI.Lay
open PySem PySem.Spec PyProof.Rows L2 VI VI.Std
section
variable {h : Bs} {X Y : List Int} {n ti : Nat} {K : PySem.W.Frag} {ct : Ct}
theorem rng_r (hn : n < 2 ^ 24) : itRng1 [.int n] h = .ok ((List.range' 0 n).map (fun (i : Nat) => D.int i), none) h := by
  rw [rng_ok hn, List.range_eq_range']
def stB (h : Bs) (A : List (List Int)) : Bs := ⟨h.bs.length :: h.fbs, h.bs ++ [.lst false (A.map fun X => tI X)]⟩
def wi (X Y : List Int) : Bool := X.all fun x => decide (x ∈ Y)
end
end VI.Lay
end
section
namespace VI.Lay
open PySem PySem.Spec PyProof.Rows L2 VI VI.Std
end VI.Lay
end
section
namespace VI.Lay
open PySem PySem.Spec PyProof.Rows L2 VI VI.Std
structure LayT (T : Tb) : Prop where
  f0 : T.fok 0 0 = true
  f1 : T.fok 0 1 = true
  isc : T.isc 0 = true
  k7 : T.kit 7 7 = some true
def oL (n : Nat) (its : List It) : D := .obj 0 [0, 1] [.int n, .tup (its.map itD)]
section
variable (T : Tb)
def sChkS : SS := (ssCons (ssIf (sNot (sCall (fSet T) (saCons (sVar 1) (saCons (sUn (fldD T 0) (sVar 0)) saNil))))
  (ssCons (fun _ _ => .no)
  ssNil)
  ssNil)
  ssNil)
def fChkS : List D → Bs → R D := runFn 2 2 (sChkS T)
def sRead : SS := (ssCons (ssExpr (sCall (fChkS T) (saCons (sVar 0) (saCons (sVar 1) saNil))))
  (ssCons (ssRet (sLc false [2, 3] (siArg itEnum2 (saCons (sUn (fldD T 1) (sVar 0)) saNil)) (sgTup 2 (sgCons (sgName 2) (sgCons (sgName 3) sgNil))) (sTru (sOp geS (sCall lenD (saCons (sCall fCommon (saCons (sOp ixD (sVar 3) (sK (.int 0))) (saCons (sVar 1) saNil))) saNil)) (sOp ixD (sVar 3) (sK (.int 1))))) (sVar 2)))
  ssNil))
def fRead : List D → Bs → R D := runFn 2 4 (sRead T)
def sLen : SS := (ssCons (ssRet (sCall lenD (saCons (sUn (fldD T 1) (sVar 0)) saNil)))
  ssNil)
def fLen : List D → Bs → R D := runFn 1 1 (sLen T)
def sKeep (mR : Nat) : SS := (ssCons (ssRet (sOp (eqD false) (sCall lenD (saCons (sMeth mR (fun c => List.lookup c [(0, (fRead T))]) (sVar 0) (saCons (sVar 1) saNil)) saNil)) (sCall (lenO [(0, (fLen T))]) (saCons (sVar 0) saNil))))
  ssNil)
def fKeep (mR : Nat) : List D → Bs → R D := runFn 2 2 (sKeep T mR)
def l1Init : SS := (ssCons (ssIf (sNot (sCall (fItem T) (saCons (sVar 4) (saCons (sVar 1) saNil))))
  (ssCons (fun _ _ => .no)
  ssNil)
  ssNil)
  ssNil)
def sInit : SS := (ssCons (ssIf (sNot (sCall (fNum T) (saCons (sVar 1) (saCons (sK (.int 1)) (saCons (sK (.int 8)) saNil)))))
  (ssCons (fun _ _ => .no)
  ssNil)
  ssNil)
  (ssCons (ssIf (sOr (sNot (sUn (isiD2 T 5 4) (sVar 2))) (sNot (sChn leS leS (sK (.int 1)) (sCall lenD (saCons (sVar 2) saNil)) (sK (.int 10)))))
  (ssCons (fun _ _ => .no)
  ssNil)
  ssNil)
  (ssCons (ssFor (siArg itEnum2 (saCons (sVar 2) saNil)) (sgTup 2 (sgCons (sgName 3) (sgCons (sgName 4) sgNil)))
  (l1Init T))
  (ssCons (ssFld T 0 (sVar 0) (sVar 1))
  (ssCons (ssFld T 1 (sVar 0) (sCall tupleD (saCons (sVar 2) saNil)))
  ssNil)))))
def fInit : List D → Bs → R D := runFn 3 5 (sInit T)
end
structure LayOk (n : Nat) (its : List It) : Prop where
  lo : 1 ≤ n
  hi : n ≤ 8
  ne : 1 ≤ its.length
  few : its.length ≤ 10
  ok : ∀ i ∈ its, ItOk n i
def okU (up : List Int) (i : It) : Bool := decide (i.2 ≤ ((i.1.filter fun x => decide (x ∈ up)).length : Nat))
def rd (its : List It) (up : List Int) : List Int := (its.zipIdx.filter fun p => okU up p.1).map fun p => (p.2 : Int)
def keepB (its : List It) (up : List Int) : Bool := its.all (okU up)
def eD (p : It × Nat) : D := .tup [.int p.2, itD p.1]
theorem enum_its : ∀ (its : List It) (k : Nat), enumL k (its.map itD) = (its.zipIdx k).map eD
  | [], _ => rfl
  | i :: its, k => by
    rw [List.map_cons, enumL, enum_its its (k + 1), List.zipIdx_cons, List.map_cons]
    rfl
section
variable {K : PySem.W.Frag} {ct : Ct} {h : Bs} {X Y : List Int} {n : Nat} {its : List It}
theorem zip_len : (its.zipIdx).length = its.length := by simp
theorem zip_mem {p : It × Nat} (hp : p ∈ its.zipIdx) : p.1 ∈ its := by
  have := List.mem_zipIdx hp
  obtain ⟨_, _, e⟩ := this
  rw [e]
  exact List.getElem_mem _
theorem fld0 (L : LayT (tbC ct K)) : fldD (tbC ct K) 0 (oL n its) h = .ok (.int n) h := by
  show (if (tbC ct K).fok 0 0 = true then _ else _) = _
  rw [L.f0, if_pos rfl]
theorem fld1 (L : LayT (tbC ct K)) : fldD (tbC ct K) 1 (oL n its) h = .ok (.tup (its.map itD)) h := by
  show (if (tbC ct K).fok 0 1 = true then _ else _) = _
  rw [L.f1, if_pos rfl]
theorem chkS_ok (L : LayT (tbC ct K)) (hX : SetN n X) (hn : n ≤ 8) : fChkS (tbC ct K) [oL n its, tI X] h = .ok .non h := by
  have := SetN.len hX
  have hb : sChkS (tbC ct K) [some (oL n its), some (tI X)] (inB h) = .nx [some (oL n its), some (tI X)] (inB h) := by
    unfold sChkS
    exact (cons_nx (h1 := inB h) ((if_ok (a := false) (h1 := inB h) (not_ok (a := true) (call_ok (h1 := inB h) (xs := [tI X, .int n]) (cons_ok (h1 := inB h) rfl (cons_ok (h1 := inB h) (un_ok (x := oL n its) rfl (fld0 L)) rfl)) (set_ok hX (by omega))))).trans rfl)).trans rfl
  unfold fChkS runFn
  rw [if_pos (by rfl), show slots 2 [oL n its, tI X] = [some (oL n its), some (tI X)] from rfl, hb]
  show R.ok D.non (outB h (inB h)) = _
  rw [outB_inB]
theorem enumT : itEnum2 [.tup (its.map itD)] h = .ok (its.zipIdx.map eD, none) h := by
  show R.ok (enumL 0 (its.map itD), none) h = _
  rw [enum_its]
theorem enumLst : itEnum2 [.lst (its.map itD)] h = .ok (its.zipIdx.map eD, none) h := by
  show R.ok (enumL 0 (its.map itD), none) h = _
  rw [enum_its]
theorem read_ok (L : LayT (tbC ct K)) (H : LayOk n its) (hX : SetN n X) : fRead (tbC ct K) [oL n its, tI X] h = .ok (lI (rd its X)) h := by
  have sz : (1000 : Nat) ≤ sizeLine := by decide
  have h1 := H.hi
  have h2 := H.few
  refine run_rt rfl ?_ noD_lI
  show sRead (tbC ct K) [some (oL n its), some (tI X), none, none] (inB h) = _
  unfold sRead
  refine (cons_nx (expr_ok (call_ok (h1 := inB h) (xs := [oL n its, tI X]) rfl (chkS_ok L hX h1)))).trans ?_
  refine ret_ok (lc_ok (arg_ok (h1 := inB h) (xs := [.tup (its.map itD)]) (cons_ok (h1 := inB h) (un_ok (x := oL n its) rfl (fld1 L)) rfl) enumT) (ys := (rd its X).map .int) ?_ ?_)
  · unfold rd
    rw [List.map_map]
    refine lc_emb eD (fun p => okU X p.1) _ _ fun p hp => ⟨[some (oL n its), some (tI X), some (.int p.2), some (itD p.1)], rfl, ?_, fun _ => rfl⟩
    have ok := H.ok p.1 (zip_mem hp)
    have hl := SetN.len ok.set
    exact tru_ok (op_ok (x := .int ((p.1.1.filter fun x => decide (x ∈ X)).length : Nat)) (y := .int p.1.2) (call_ok (cons_ok (call_ok (h1 := inB h) (xs := [tI p.1.1, tI X]) rfl (common_ok (by omega))) rfl) lenTI) rfl ge_ok)
  · rw [List.length_map]
    unfold rd
    rw [List.length_map]
    have := List.length_filter_le (fun p : It × Nat => okU X p.1) its.zipIdx
    rw [zip_len] at this
    omega
theorem len_ok (L : LayT (tbC ct K)) : fLen (tbC ct K) [oL n its] h = .ok (.int its.length) h := by
  refine run_rt rfl ?_ rfl
  show sLen (tbC ct K) [some (oL n its)] (inB h) = _
  unfold sLen
  refine ret_ok (call_ok (cons_ok (un_ok (x := oL n its) rfl (fld1 L)) rfl) ?_)
  show R.ok (D.int ((its.map itD).length : Nat)) _ = _
  rw [List.length_map]
theorem lenO_ok (L : LayT (tbC ct K)) (hl : its.length ≤ 1000) : lenO [(0, fLen (tbC ct K))] [oL n its] h = .ok (.int its.length) h := by
  have e : insOf h (oL n its) = some (0, [0, 1], [D.int n, .tup (its.map itD)]) := rfl
  have e2 : List.lookup 0 [(0, fLen (tbC ct K))] = some (fLen (tbC ct K)) := rfl
  simp -implicitDefEqProofs only [lenO, e, e2, len_ok L]
  rw [if_pos (by constructor <;> omega)]
theorem meth_r {mR : Nat} (hm : [0, 1].contains mR = false) (L : LayT (tbC ct K)) (H : LayOk n its) (hX : SetN n X) {so : SV} {sx : SA} {ρ : Ev} (e1 : so ρ h = .ok (oL n its) h) (e2 : sx ρ h = .ok [tI X] h) :
    sMeth mR (fun c => List.lookup c [(0, (fRead (tbC ct K)))]) so sx ρ h = .ok (lI (rd its X)) h := by
  have e3 : mthD mR (fun c => List.lookup c [(0, (fRead (tbC ct K)))]) (oL n its) h = some (fRead (tbC ct K)) := by
    show (if [0, 1].contains mR then none else some (fRead (tbC ct K))) = _
    rw [hm]
    rfl
  unfold sMeth
  rw [e1, bind_ok]
  simp only [e3, e2, bind_ok]
  exact read_ok L H hX
theorem rd_len {up : List Int} : (rd its up).length = (its.filter (okU up)).length := by
  unfold rd
  rw [List.length_map]
  have : ∀ (l : List It) (k : Nat), ((l.zipIdx k).filter fun p => okU up p.1).length = (l.filter (okU up)).length := by
    intro l
    induction l with
    | nil => intro k; rfl
    | cons i l ih =>
      intro k
      rw [List.zipIdx_cons, List.filter_cons, List.filter_cons]
      split <;> simp [ih (k + 1)]
  exact this its 0
theorem rd_keep {up : List Int} : decide (((rd its up).length : Int) = its.length) = keepB its up := by
  rw [rd_len]
  unfold keepB
  rw [Bool.eq_iff_iff, decide_eq_true_eq, List.all_eq_true]
  constructor
  · intro e
    exact List.length_filter_eq_length_iff.mp (by omega)
  · intro e
    rw [List.length_filter_eq_length_iff.mpr e]
theorem keep_ok {mR : Nat} (hm : [0, 1].contains mR = false) (L : LayT (tbC ct K)) (H : LayOk n its) (hX : SetN n X) : fKeep (tbC ct K) mR [oL n its, tI X] h = .ok (.bl (keepB its X)) h := by
  have h2 := H.few
  refine run_rt rfl ?_ rfl
  show sKeep (tbC ct K) mR [some (oL n its), some (tI X)] (inB h) = _
  unfold sKeep
  refine ret_ok ((op_ok (x := .int (rd its X).length) (y := .int its.length) (call_ok (cons_ok (meth_r hm L H hX rfl rfl) rfl) (IsX.len (.inr rfl))) (call_ok (h1 := inB h) (xs := [oL n its]) rfl (lenO_ok L (by omega))) (eq_ints (neg := false))).trans ?_)
  rw [if_neg (by decide), rd_keep]
end
end VI.Lay
end
section
namespace VI.Lay
open PySem PySem.Spec PyProof.Rows L2 VI VI.Std
def upB : List Int → Bool
  | [] => true
  | [_] => true
  | x :: y :: r => decide (x < y) && upB (y :: r)
section
variable {K : PySem.W.Frag} {ct : Ct} {h : Bs} {X Y : List Int} {n : Nat} {its : List It} {l : List (Nat × (List D → Bs → R D))}
end
end VI.Lay
end
section
namespace VI.Lay
open PySem PySem.Spec PyProof.Rows L2 VI VI.Std
section
variable {K : PySem.W.Frag} {ct : Ct} {h : Bs} {X Y : List Int} {n : Nat} {its : List It}
theorem noR_ints : ∀ l : List Int, noRs (l.map .int) = true
  | [] => rfl
  | x :: xs => by simp [noRs, noR, noR_ints xs]
theorem noR_itD (i : It) : noR (itD i) = true := by
  simp only [itD, noR, noRs, noR_ints, Bool.and_self]
theorem noR_its : ∀ l : List It, noRs (l.map itD) = true
  | [] => rfl
  | x :: xs => by simp only [List.map_cons, noRs, noR_itD, noR_its xs, Bool.and_self]
theorem noD_itD (i : It) : noD (itD i) = true := by
  simp only [itD, noD, noDs, noDs_ints, Bool.and_self]
theorem noDs_its (l : List It) : noDs (l.map itD) = true := by
  rw [noDs_all]
  intro x hx
  obtain ⟨i, _, rfl⟩ := List.mem_map.mp hx
  exact noD_itD i
theorem noD_oL : noD (oL n its) = true := by
  simp only [oL, noD, noDs, noDs_its, Bool.and_self]
def IsL (d : D) (its : List It) : Prop := d = .lst (its.map itD) ∨ d = .tup (its.map itD)
theorem init_loop {s0 s2 : Option D} (H : ∀ i ∈ its, ItOk n i) (hn : n ≤ 8) : ∀ (l : List (It × Nat)) (x3 x4 : Option D), (∀ p ∈ l, p.1 ∈ its) → ∃ y3 y4,
    loopS (sgTup 2 (sgCons (sgName 3) (sgCons (sgName 4) sgNil))) (l1Init (tbC ct K)) (l.map eD) [s0, some (.int n), s2, x3, x4] h = .nx [s0, some (.int n), s2, y3, y4] h
  | [], x3, x4, _ => ⟨x3, x4, rfl⟩
  | p :: l, x3, x4, hl => by
    obtain ⟨y3, y4, e⟩ := init_loop (s0 := s0) (s2 := s2) H hn l (some (.int p.2)) (some (itD p.1)) fun q hq => hl q (List.mem_cons_of_mem _ hq)
    have b : l1Init (tbC ct K) [s0, some (.int n), s2, some (.int p.2), some (itD p.1)] h = .nx [s0, some (.int n), s2, some (.int p.2), some (itD p.1)] h := by
      unfold l1Init
      exact (cons_nx (h1 := h) ((if_ok (a := false) (h1 := h) (not_ok (a := true) (call_ok (h1 := h) (xs := [itD p.1, .int n]) rfl (item_ok (H p.1 (hl p List.mem_cons_self)) (by omega))))).trans rfl)).trans rfl
    exact ⟨y3, y4, (loop_step (ρ1 := [s0, some (.int n), s2, some (.int p.2), some (itD p.1)]) (h1 := h) rfl b).trans e⟩
theorem make_ok (L : LayT (tbC ct K)) (H : LayOk n its) {d : D} (hd : IsL d its) : makeD 0 true (fInit (tbC ct K)) [.int n, d] h = .ok (oL n its) h := by
  have sz : (1000 : Nat) ≤ sizeLine := by decide
  have h1 := H.lo
  have h2 := H.hi
  have h3 := H.ne
  have h4 := H.few
  have tD : ∀ hh : Bs, tupleD [d] hh = .ok (.tup (its.map itD)) hh := fun hh => by
    rcases hd with rfl | rfl
    · exact tuple_lst (by rw [List.length_map]; omega)
    · rfl
  have tL : ∀ hh : Bs, lenD [d] hh = .ok (.int its.length) hh := fun hh => by
    rcases hd with rfl | rfl
    · show R.ok (D.int ((its.map itD).length : Nat)) hh = _; rw [List.length_map]
    · show R.ok (D.int ((its.map itD).length : Nat)) hh = _; rw [List.length_map]
  have tE : ∀ hh : Bs, itEnum2 [d] hh = .ok (its.zipIdx.map eD, none) hh := fun hh => by
    rcases hd with rfl | rfl
    · exact enumLst
    · exact enumT
  have tI' : ∀ hh : Bs, isiD2 (tbC ct K) 5 4 d hh = .ok (.bl true) hh := fun hh => by
    rcases hd with rfl | rfl <;> rfl
  have e2 : fInit (tbC ct K) [.ref h.bs.length, .int n, d] ⟨h.bs.length :: h.fbs, h.bs ++ [.obj 0 [] []]⟩ = .ok .non ⟨h.bs.length :: h.fbs, h.bs ++ [.obj 0 [0, 1] [.int n, .tup (its.map itD)]]⟩ := by
    have e3 : ∀ fs xs, fs.length < 1000 → ∀ (f : Nat) (v : D), (tbC ct K).fok 0 f = true → noR v = true → setF (tbC ct K) f (.ref h.bs.length) v (⟨(h.bs.length + 1) :: h.bs.length :: h.fbs, h.bs ++ [.obj 0 fs xs]⟩ : Bs) = .ok .non ⟨(h.bs.length + 1) :: h.bs.length :: h.fbs, h.bs ++ [.obj 0 (putN f fs) (putX f v fs xs)]⟩ := by
      intro fs xs hfs f v g3 nr
      have g1 : (h.bs ++ [Bx.obj 0 fs xs])[h.bs.length]? = some (.obj 0 fs xs) := by simp
      have g2 : okW (⟨(h.bs.length + 1) :: h.bs.length :: h.fbs, h.bs ++ [.obj 0 fs xs]⟩ : Bs) h.bs.length v = true := by
        show (decide (h.bs.length + 1 ≤ h.bs.length) || noR v) = true
        rw [nr, Bool.or_true]
      simp -implicitDefEqProofs only [setF, g1, g2, g3, Bool.and_self, Bool.true_and]
      rw [if_pos (decide_eq_true hfs)]
      simp
    obtain ⟨y3, y4, lp⟩ := init_loop (ct := ct) (K := K) (h := ⟨(h.bs.length + 1) :: h.bs.length :: h.fbs, h.bs ++ [.obj 0 [] []]⟩) (s0 := some (.ref h.bs.length)) (s2 := some d) H.ok h2 its.zipIdx none none fun p hp => zip_mem hp
    have hb : sInit (tbC ct K) [some (.ref h.bs.length), some (.int n), some d, none, none] (⟨(h.bs.length + 1) :: h.bs.length :: h.fbs, h.bs ++ [.obj 0 [] []]⟩ : Bs) = .nx [some (.ref h.bs.length), some (.int n), some d, y3, y4] ⟨(h.bs.length + 1) :: h.bs.length :: h.fbs, h.bs ++ [.obj 0 [0, 1] [.int n, .tup (its.map itD)]]⟩ := by
      unfold sInit
      obtain ⟨g, hg⟩ : ∃ g : Bs, g = ⟨(h.bs.length + 1) :: h.bs.length :: h.fbs, h.bs ++ [.obj 0 [] []]⟩ := ⟨_, rfl⟩
      rw [← hg] at lp ⊢
      refine (cons_nx (h1 := g) ((if_ok (a := false) (h1 := g) (not_ok (a := true) ((call_ok (h1 := g) (xs := [.int n, .int 1, .int 8]) rfl (num_ok (ct := ct) (K := K))).trans ?_))).trans rfl)).trans ?_
      · rw [decide_eq_true (show (1 : Int) ≤ n by omega), decide_eq_true (show (n : Int) ≤ 8 by omega)]
        rfl
      refine (cons_nx (h1 := g) ((if_ok (a := false) (h1 := g) (or_ok (a := false) (b := false) (not_ok (a := true) (un_ok (x := d) rfl (tI' g))) fun _ => not_ok (a := true) ((chn_ok (x := 1) (y := its.length) (z := 10) rfl (call_ok (h1 := g) (xs := [d]) rfl (tL g)) rfl).trans ?_))).trans rfl)).trans ?_
      · rw [decide_eq_true (show (1 : Int) ≤ its.length by omega), decide_eq_true (show (its.length : Int) ≤ 10 by omega)]
        rfl
      refine (cons_nx (for_ok (h1 := g) (arg_ok (h1 := g) (xs := [d]) rfl (tE g)) lp)).trans ?_
      rw [hg]
      refine (cons_nx (ρ1 := [some (.ref h.bs.length), some (.int n), some d, y3, y4]) (h1 := ⟨(h.bs.length + 1) :: h.bs.length :: h.fbs, h.bs ++ [.obj 0 [0] [.int n]]⟩) ?_).trans ((cons_nx (ρ1 := [some (.ref h.bs.length), some (.int n), some d, y3, y4]) (h1 := ⟨(h.bs.length + 1) :: h.bs.length :: h.fbs, h.bs ++ [.obj 0 [0, 1] [.int n, .tup (its.map itD)]]⟩) ?_).trans rfl)
      · unfold ssFld
        show (setF (tbC ct K) 0 (.ref h.bs.length) (.int n) _).toF _ _ = _
        rw [e3 [] [] (by decide) 0 (.int n) L.f0 rfl]
        rfl
      · unfold ssFld
        rw [call_ok (cons_ok (x := d) rfl rfl) (tD _)]
        show (setF (tbC ct K) 1 (.ref h.bs.length) (.tup (its.map itD)) _).toF _ _ = _
        rw [e3 [0] [.int n] (by decide) 1 (.tup (its.map itD)) L.f1 (by simp only [noR]; exact noR_its its)]
        rfl
    unfold fInit runFn
    rw [if_pos (by rfl), show slots 5 [.ref h.bs.length, .int n, d] = [some (.ref h.bs.length), some (.int n), some d, none, none] from rfl]
    have hi : inB (⟨h.bs.length :: h.fbs, h.bs ++ [.obj 0 [] []]⟩ : Bs) = ⟨(h.bs.length + 1) :: h.bs.length :: h.fbs, h.bs ++ [.obj 0 [] []]⟩ := by simp [inB]
    rw [hi, hb]
    simp [finF, outB]
    exact List.take_of_length_le (by simp)
  unfold makeD
  rw [e2]
  have f1 : frzR h.bs.length (h.bs ++ [.obj 0 [0, 1] [.int n, .tup (its.map itD)]]) 4 h.bs.length = some (oL n its) := by
    simp -implicitDefEqProofs only [frzR]
    rw [if_neg (by omega), List.getElem?_append_right (Nat.le_refl _), Nat.sub_self]
    simp -implicitDefEqProofs only [List.getElem?_cons_zero, frzDs_id _ [.int (n : Int), .tup (its.map itD)] (by simp [noDs, noD, noDs_its])]
    rfl
  simp -implicitDefEqProofs only [f1, outB]
  simp
end
end VI.Lay
end
section
namespace VI.Lay
open PySem PySem.Spec PyProof.Rows L2 VI VI.Std
section
variable {K : PySem.W.Frag} {ct : Ct} {h : Bs} {X Y : List Int} {n : Nat} {its : List It}
def stG (h : Bs) (xs : List D) : Bs := ⟨h.bs.length :: h.fbs, h.bs ++ [.lst false xs]⟩
theorem stG_at {xs : List D} : (stG h xs).bs[h.bs.length]? = some (.lst false xs) := by simp [stG]
theorem stG_new : newL true [] (inB h) = .ok (.ref h.bs.length) (stG h []) := by
  rw [newL_t' (Nat.zero_le _)]
  rfl
theorem stG_app {xs : List D} {d : D} (hA : xs.length < 1000) : appD (.ref h.bs.length) [d] (stG h xs) = .ok .non (stG h (xs ++ [d])) := by
  have sz : (1000 : Nat) ≤ sizeLine := by decide
  have ok : okW (stG h xs) h.bs.length d = true := by simp [okW, stG]
  have e3 : decide (xs.length < sizeLine) = true := by simp; omega
  simp only [appD, stG_at, ok, e3, Bool.and_self, if_true]
  simp [putL, stG]
theorem stG_end {xs : List D} (nd : noDs xs = true) : finF h (.rt (.ref h.bs.length) (stG h xs)) = .ok (.lst xs) h := by
  have f2 : outB h (stG h xs) = h := by simp [outB, stG]
  have f1 : frzD (frzR h.bs.length (stG h xs).bs 4) (.ref h.bs.length) = some (.lst xs) := by
    simp -implicitDefEqProofs only [frzD, frzR]
    rw [if_neg (by omega), stG_at]
    simp -implicitDefEqProofs only [frzDs_id _ _ nd]
  simp -implicitDefEqProofs only [finF, f1, f2]
end
end VI.Lay
end
section
namespace VI.Lay
open PySem PySem.Spec PyProof.Rows L2 VI VI.Std
section
variable {X Y Z : List Int} {n : Nat} {its : List It} {up : List Int}
theorem subl : ∀ (X Y : List Int), X.Pairwise (· < ·) → Y.Pairwise (· < ·) → (∀ x ∈ X, x ∈ Y) → X.Sublist Y
  | [], Y, _, _, _ => List.nil_sublist Y
  | x :: xs, [], _, _, h => by have := h x List.mem_cons_self; cases this
  | x :: xs, y :: ys, hX, hY, h => by
    rw [List.pairwise_cons] at hX hY
    by_cases e : x = y
    · subst e
      refine .cons₂ _ (subl xs ys hX.2 hY.2 fun z hz => ?_)
      rcases List.mem_cons.mp (h z (List.mem_cons_of_mem _ hz)) with q | q
      · have := hX.1 z hz; omega
      · exact q
    · have hx : x ∈ ys := by
        rcases List.mem_cons.mp (h x List.mem_cons_self) with q | q
        · exact absurd q e
        · exact q
      have lt := hY.1 x hx
      refine .cons _ (subl (x :: xs) ys (List.pairwise_cons.mpr hX) hY.2 fun z hz => ?_)
      rcases List.mem_cons.mp (h z hz) with q | q
      · rcases List.mem_cons.mp hz with w | w
        · exact absurd (w.symm.trans q) e
        · have := hX.1 z w; omega
      · exact q
theorem wi_iff : wi X Y = true ↔ ∀ x ∈ X, x ∈ Y := by
  unfold wi
  rw [List.all_eq_true]
  simp only [decide_eq_true_eq]
theorem wi_len (hX : SetN n X) (hY : SetN n Y) (h : wi X Y = true) : X.length ≤ Y.length ∧ (X.length = Y.length → X = Y) := by
  have s := subl X Y hX.up hY.up (wi_iff.mp h)
  exact ⟨s.length_le, fun e => s.eq_of_length e⟩
theorem wi_refl : wi X X = true := wi_iff.mpr fun _ h => h
theorem wi_trans (h1 : wi X Y = true) (h2 : wi Y Z = true) : wi X Z = true := wi_iff.mpr fun x hx => wi_iff.mp h2 x (wi_iff.mp h1 x hx)
def isMin (l : List (List Int)) (X : List Int) : Prop := ∀ Y ∈ l, Y ≠ X → wi Y X = true → False
theorem below {l : List (List Int)} (hl : ∀ X ∈ l, SetN n X) : ∀ (k : Nat) (X : List Int), X.length ≤ k → X ∈ l → ∃ Y ∈ l, wi Y X = true ∧ isMin l Y
  | k, X, hk, hX => by
    by_cases q : isMin l X
    · exact ⟨X, hX, wi_refl, q⟩
    · unfold isMin at q
      obtain ⟨Y, hY, ne, w⟩ : ∃ Y ∈ l, Y ≠ X ∧ wi Y X = true := Classical.byContradiction fun z => q fun Y hY ne w => z ⟨Y, hY, ne, w⟩
      have := wi_len (hl Y hY) (hl X hX) w
      have lt : Y.length < X.length := by
        rcases Nat.lt_or_eq_of_le this.1 with z | z
        · exact z
        · exact absurd (this.2 z) ne
      cases k with
      | zero => omega
      | succ k =>
        obtain ⟨Z, hZ, w2, m⟩ := below hl k Y (by omega) hY
        exact ⟨Z, hZ, wi_trans w2 w, m⟩
open Classical in
open Classical in
end
end VI.Lay
end
section
namespace VI.Lay
open PySem PySem.Spec PyProof.Rows L2 VI VI.Std
section
variable {X Y Z : List Int} {n : Nat} {its : List It} {up : List Int}
theorem take_set (hX : SetN n X) (k : Nat) : SetN n (X.take k) := ⟨hX.up.sublist (List.take_sublist _ _), fun x hx => hX.lo x (List.mem_of_mem_take hx)⟩
theorem full_set : SetN n (rgI n) := by
  refine ⟨?_, fun x hx => mem_rgI.mp hx⟩
  unfold rgI
  rw [List.pairwise_map]
  exact List.pairwise_lt_range.imp fun h => by omega
theorem one_set {s : Int} (hs : 0 ≤ s ∧ s < n) : SetN n [s] := ⟨by simp, fun x hx => by rw [List.mem_singleton.mp hx]; exact hs⟩
end
end VI.Lay
end
section
namespace VI.Lay
open PySem PySem.Spec PyProof.Rows L2 VI VI.Std
def l1Items : SS := (ssCons (ssAsg (sOp (addD false) (sOp (addD false) (sVar 1) (sK (.int 1))) (sOp (mulD false) (sK (.int 10)) (sVar 5))) (sgName 6))
  (ssCons (ssAsg (sLc false [10] (siArg itRng1 (saCons (sVar 2) saNil)) (sgName 10) (sTru (sOp (eqD false) (sOp modD (sCall intD (saCons (sCall Std2.fNumber (saCons (sVar 0) (saCons (sOp (addD false) (sVar 6) (sVar 10)) saNil))) saNil)) (sK (.int 2))) (sK (.int 0)))) (sVar 10)) (sgName 7))
  (ssCons (ssAsg (sIte (sOp (eqD true) (sVar 7) (sLst false saNil)) (sVar 7) (sLst false (saCons (sOp modD (sCall intD (saCons (sCall Std2.fNumber (saCons (sVar 0) (saCons (sOp (addD false) (sVar 6) (sK (.int 8))) saNil))) saNil)) (sVar 2)) saNil))) (sgName 7))
  (ssCons (ssAsg (sCall intD (saCons (sCall Std2.fNumber (saCons (sVar 0) (saCons (sOp (addD false) (sVar 6) (sK (.int 9))) saNil))) saNil)) (sgName 8))
  (ssCons (ssAsg (sIte (sOp (eqD false) (sOp modD (sVar 8) (sK (.int 3))) (sK (.int 0))) (sOp (addD false) (sK (.int 1)) (sOp modD (sOp fdivD (sVar 8) (sK (.int 3))) (sCall lenD (saCons (sVar 7) saNil)))) (sK (.int 1))) (sgName 9))
  (ssCons (ssExpr (sBm appD (sVar 4) (saCons (sTup (saCons (sCall tupleD (saCons (sVar 7) saNil)) (saCons (sVar 9) saNil))) saNil)))
  ssNil))))))
def sItems : SS := (ssCons (ssAsg (sLst true saNil) (sgName 4))
  (ssCons (ssFor (siArg itRng1 (saCons (sOp (addD false) (sK (.int 1)) (sOp modD (sCall intD (saCons (sCall Std2.fNumber (saCons (sVar 0) (saCons (sVar 1) saNil))) saNil)) (sVar 3))) saNil)) (sgName 5)
  l1Items)
  (ssCons (ssRet (sVar 4))
  ssNil)))
def fItems : List D → Bs → R D := runFn 4 11 sItems
section
variable {h : Bs} {ns : List Int} {n : Nat}
theorem num2 (hl : ns.length ≤ 63) (h : Bs) : ∃ z : Int → Int, ∀ i : Int, 0 ≤ i → i < 2 ^ 63 → Std2.fNumber [.scr ns, .int i] h = .ok (.int (z i)) h := by
  refine ⟨fun i => if hh : 0 ≤ i ∧ i < 2 ^ 63 then Classical.choose (Std2.number_ok hl hh.1 (by omega) h) else 0, fun i h0 h1 => ?_⟩
  have hh : 0 ≤ i ∧ i < 2 ^ 63 := ⟨h0, h1⟩
  simp only [dif_pos hh]
  exact Classical.choose_spec (Std2.number_ok hl hh.1 (by omega) h)
theorem fil_set {p : Int → Bool} : SetN n ((rgI n).filter p) := ⟨full_set.up.filter _, fun x hx => full_set.lo x (List.mem_filter.mp hx).1⟩
theorem item_body (hl : ns.length ≤ 63) (h1 : 1 ≤ n) (h2 : n ≤ 8) {at_ r : Nat} (ha : at_ ≤ 100000) (hr : r ≤ 100000) {xs : List D} (hx : xs.length < 1000) {s3 x6 x7 x8 x9 : Option D} : ∃ i y6 y7 y8 y9, ItOk n i ∧
    l1Items [some (.scr ns), some (.int at_), some (.int n), s3, some (.ref h.bs.length), some (.int r), x6, x7, x8, x9, none] (stG h xs) = .nx [some (.scr ns), some (.int at_), some (.int n), s3, some (.ref h.bs.length), some (.int r), y6, y7, y8, y9, none] (stG h (xs ++ [itD i])) := by
  have sz : (1000 : Nat) ≤ sizeLine := by decide
  obtain ⟨g, hg⟩ : ∃ g, g = stG h xs := ⟨_, rfl⟩
  obtain ⟨z, hz⟩ := num2 hl g
  obtain ⟨f, hf⟩ : ∃ f : Int, f = at_ + 1 + 10 * r := ⟨_, rfl⟩
  have f0 : 0 ≤ f ∧ f < 2 ^ 40 := by constructor <;> omega
  have m1 : mulD false (.int 10) (.int r) g = .ok (.int (10 * r)) g := mulI (by
    have := Nat.log2_le_self ((r : Int)).natAbs
    have : ((10 : Int)).natAbs.log2 ≤ 10 := by decide
    omega)
  have lc : ∀ {y6 y7 y8 y9 : Option D}, y6 = some (.int f) → (sLc false [10] (siArg itRng1 (saCons (sVar 2) saNil)) (sgName 10) (sTru (sOp (eqD false) (sOp modD (sCall intD (saCons (sCall Std2.fNumber (saCons (sVar 0) (saCons (sOp (addD false) (sVar 6) (sVar 10)) saNil))) saNil)) (sK (.int 2))) (sK (.int 0)))) (sVar 10)) [some (.scr ns), some (.int at_), some (.int n), s3, some (.ref h.bs.length), some (.int r), y6, y7, y8, y9, none] g = .ok (lI ((rgI n).filter fun s => decide (z (f + s) % 2 = 0))) g := by
    intro y6 y7 y8 y9 e6
    subst e6
    refine fil_emb (h := g) .int (rgI n) (fun s => decide (z (f + s) % 2 = 0)) (arg_ok (h1 := g) (xs := [.int n]) rfl (rng_I (by omega))) (fun s hs => ⟨[some (.scr ns), some (.int at_), some (.int n), s3, some (.ref h.bs.length), some (.int r), some (.int f), y7, y8, y9, some (.int s)], rfl, ?_, rfl⟩) (by rw [rgI_len]; omega)
    have hs' := mem_rgI.mp hs
    exact (op_ok (x := .int (z (f + s) % 2)) (y := .int 0) (op_ok (x := .int (z (f + s))) (y := .int 2) (call_ok (cons_ok (call_ok (h1 := g) (xs := [.scr ns, .int (f + s)]) rfl (hz (f + s) (by omega) (by omega))) rfl) rfl) rfl (modI (by decide))) rfl (eq_ints (neg := false))).trans rfl
  obtain ⟨A, hA⟩ : ∃ A, A = (rgI n).filter fun s => decide (z (f + s) % 2 = 0) := ⟨_, rfl⟩
  obtain ⟨B, hB⟩ : ∃ B, B = if A = [] then [z (f + 8) % (n : Int)] else A := ⟨_, rfl⟩
  have setB : SetN n B := by
    rw [hB]
    split
    · exact one_set ⟨Int.emod_nonneg _ (by omega), Int.emod_lt_of_pos _ (by omega)⟩
    · rw [hA]; exact fil_set
  have neB : B ≠ [] := by
    rw [hB]
    split
    · simp
    · assumption
  have lenB := SetN.len setB
  have posB : 0 < B.length := by
    cases q : B with
    | nil => exact absurd q neB
    | cons a b => simp
  obtain ⟨d, hd⟩ : ∃ d, d = z (f + 9) := ⟨_, rfl⟩
  obtain ⟨k, hk⟩ : ∃ k : Int, k = if d % 3 = 0 then 1 + d / 3 % (B.length : Int) else 1 := ⟨_, rfl⟩
  have k1 : 1 ≤ k ∧ k ≤ B.length := by
    rw [hk]
    have a := Int.emod_nonneg (d / 3) (b := (B.length : Int)) (by omega)
    have b := Int.emod_lt_of_pos (d / 3) (b := (B.length : Int)) (by omega)
    split <;> constructor <;> omega
  refine ⟨(B, k), some (.int f), some (lI B), some (.int d), some (.int k), ⟨setB, k1.1, k1.2⟩, ?_⟩
  rw [← hg]
  unfold l1Items
  refine (cons_nx (ρ1 := [some (.scr ns), some (.int at_), some (.int n), s3, some (.ref h.bs.length), some (.int r), some (.int f), x7, x8, x9, none]) (h1 := g) (asg_ok (op_ok (x := .int ((at_ : Int) + 1)) (y := .int (10 * r)) (op_ok rfl rfl rfl) (op_ok (x := .int 10) (y := .int r) rfl rfl m1) rfl) (by rw [← hf]; rfl))).trans ?_
  refine (cons_nx (ρ1 := [some (.scr ns), some (.int at_), some (.int n), s3, some (.ref h.bs.length), some (.int r), some (.int f), some (lI A), x8, x9, none]) (h1 := g) (asg_ok (lc rfl) (by rw [← hA]; rfl))).trans ?_
  refine (cons_nx (ρ1 := [some (.scr ns), some (.int at_), some (.int n), s3, some (.ref h.bs.length), some (.int r), some (.int f), some (lI B), x8, x9, none]) (h1 := g) (asg_ok (d := lI B) (h1 := g) ?_ rfl)).trans ?_
  · unfold sIte
    rw [tru_ok (op_ok (x := lI A) (y := .lst []) rfl (lst_ok rfl (Nat.zero_le _)) (show eqD true (lI A) (.lst []) g = .ok (.bl (!decide (A = []))) g by have := eq_lI (h := g) (l := A) (m := []) (neg := true); rw [if_pos rfl] at this; exact this)), bind_ok]
    by_cases q : A = []
    · rw [decide_eq_true q, hB, if_pos q]
      refine lst_ok (xs := [.int (z (f + 8) % n)]) (cons_ok (op_ok (x := .int (z (f + 8))) (y := .int n) (call_ok (cons_ok (call_ok (h1 := g) (xs := [.scr ns, .int (f + 8)]) rfl (hz (f + 8) (by omega) (by omega))) rfl) rfl) rfl (modI (by omega))) rfl) (show 1 ≤ sizeLine by decide)
    · rw [decide_eq_false q, hB, if_neg q]
      rfl
  refine (cons_nx (ρ1 := [some (.scr ns), some (.int at_), some (.int n), s3, some (.ref h.bs.length), some (.int r), some (.int f), some (lI B), some (.int d), x9, none]) (h1 := g) (asg_ok (call_ok (cons_ok (call_ok (h1 := g) (xs := [.scr ns, .int (f + 9)]) rfl (hz (f + 9) (by omega) (by omega))) rfl) rfl) (by rw [← hd]; rfl))).trans ?_
  refine (cons_nx (ρ1 := [some (.scr ns), some (.int at_), some (.int n), s3, some (.ref h.bs.length), some (.int r), some (.int f), some (lI B), some (.int d), some (.int k), none]) (h1 := g) (asg_ok (d := .int k) (h1 := g) ?_ rfl)).trans ?_
  · unfold sIte
    rw [tru_ok (op_ok (x := .int (d % 3)) (y := .int 0) (op_ok (x := .int d) (y := .int 3) rfl rfl (modI (by decide))) rfl (eq_ints (neg := false))), bind_ok, if_neg (show ¬ false = true by decide)]
    by_cases q : d % 3 = 0
    · rw [decide_eq_true q, if_pos rfl, hk, if_pos q]
      exact op_ok (x := .int 1) (y := .int (d / 3 % (B.length : Int))) rfl (op_ok (x := .int (d / 3)) (y := .int B.length) (op_ok (x := .int d) (y := .int 3) rfl rfl (fdivI ⟨by decide, by decide⟩)) (call_ok (h1 := g) (xs := [lI B]) rfl (IsX.len (.inr rfl))) (modI (by omega))) rfl
    · rw [decide_eq_false q, if_neg (by decide), hk, if_neg q]
      rfl
  rw [hg]
  exact (cons_nx (expr_ok (bm_ok (o := .ref h.bs.length) (xs := [itD (B, k)]) rfl (by simp [lstOf, stG_at]) (cons_ok (tup_ok (xs := [tI B, .int k]) (cons_ok (call_ok (h1 := stG h xs) (xs := [lI B]) rfl (tup_l (by omega))) (cons_ok (x := .int k) rfl rfl)) two_le) rfl) (stG_app hx)))).trans rfl
theorem items_loop (hl : ns.length ≤ 63) (h1 : 1 ≤ n) (h2 : n ≤ 8) {at_ : Nat} (ha : at_ ≤ 100000) {s3 : Option D} : ∀ (m k : Nat) (its : List It) (x5 x6 x7 x8 x9 : Option D), k + m ≤ 100000 → its.length + m < 1000 → (∀ i ∈ its, ItOk n i) → ∃ (its' : List It) (y5 y6 y7 y8 y9 : Option D), its'.length = its.length + m ∧ (∀ i ∈ its', ItOk n i) ∧
    loopS (sgName 5) l1Items ((List.range' k m).map fun (i : Nat) => D.int i) [some (.scr ns), some (.int at_), some (.int n), s3, some (.ref h.bs.length), x5, x6, x7, x8, x9, none] (stG h (its.map itD)) = .nx [some (.scr ns), some (.int at_), some (.int n), s3, some (.ref h.bs.length), y5, y6, y7, y8, y9, none] (stG h (its'.map itD))
  | 0, k, its, x5, x6, x7, x8, x9, _, _, hi => ⟨its, x5, x6, x7, x8, x9, rfl, hi, rfl⟩
  | m + 1, k, its, x5, x6, x7, x8, x9, hk, hm, hi => by
    obtain ⟨i, y6, y7, y8, y9, ok, b⟩ := item_body (h := h) hl h1 h2 ha (r := k) (by omega) (xs := its.map itD) (by rw [List.length_map]; omega) (s3 := s3) (x6 := x6) (x7 := x7) (x8 := x8) (x9 := x9)
    obtain ⟨its', z5, z6, z7, z8, z9, e1, e2, e3⟩ := items_loop hl h1 h2 ha (s3 := s3) m (k + 1) (its ++ [i]) (some (.int k)) y6 y7 y8 y9 (by omega) (by simp; omega) (fun j hj => by
      rcases List.mem_append.mp hj with q | q
      · exact hi j q
      · rw [List.mem_singleton.mp q]; exact ok)
    refine ⟨its', z5, z6, z7, z8, z9, by rw [e1]; simp; omega, e2, ?_⟩
    rw [List.range'_succ, List.map_cons, loop_step (ρ1 := [some (.scr ns), some (.int at_), some (.int n), s3, some (.ref h.bs.length), some (.int k), x6, x7, x8, x9, none]) (h1 := stG h (its.map itD)) rfl b]
    rw [show its.map itD ++ [itD i] = (its ++ [i]).map itD by simp]
    exact e3
theorem items_ok (hl : ns.length ≤ 63) (h1 : 1 ≤ n) (h2 : n ≤ 8) {at_ most : Nat} (ha : at_ ≤ 100000) (hm : 0 < most) (hm2 : most ≤ 10) : ∃ its : List It, LayOk n its ∧ its.length ≤ most ∧ fItems [.scr ns, .int at_, .int n, .int most] h = .ok (.lst (its.map itD)) h := by
  obtain ⟨z, hz⟩ := num2 hl (stG h [])
  obtain ⟨c, hc⟩ : ∃ c : Nat, (c : Int) = 1 + z at_ % most := ⟨(1 + z at_ % most).toNat, by have := Int.emod_nonneg (z at_) (b := (most : Int)) (by omega); omega⟩
  have cb : 1 ≤ c ∧ c ≤ most := by
    have := Int.emod_nonneg (z at_) (b := (most : Int)) (by omega)
    have := Int.emod_lt_of_pos (z at_) (b := (most : Int)) (by omega)
    omega
  obtain ⟨its, y5, y6, y7, y8, y9, e1, e2, e3⟩ := items_loop (h := h) hl h1 h2 ha (s3 := some (.int most)) c 0 [] none none none none none (by omega) (by simp; omega) (by simp)
  rw [List.length_nil, Nat.zero_add] at e1
  refine ⟨its, ⟨h1, h2, by omega, by omega, e2⟩, by omega, ?_⟩
  have hb : sItems [some (.scr ns), some (.int at_), some (.int n), some (.int most), none, none, none, none, none, none, none] (inB h) = .rt (.ref h.bs.length) (stG h (its.map itD)) := by
    unfold sItems
    refine (cons_nx (ρ1 := [some (.scr ns), some (.int at_), some (.int n), some (.int most), some (.ref h.bs.length), none, none, none, none, none, none]) (h1 := stG h []) (asg_ok stG_new rfl)).trans ?_
    refine (cons_nx (for_ok (h1 := stG h []) (arg_ok (h1 := stG h []) (xs := [.int c]) (cons_ok (op_ok (x := .int 1) (y := .int (z at_ % most)) rfl (op_ok (x := .int (z at_)) (y := .int most) (call_ok (cons_ok (call_ok (h1 := stG h []) (xs := [.scr ns, .int at_]) rfl (hz at_ (by omega) (by omega))) rfl) rfl) rfl (modI (by omega))) (by rw [hc]; rfl)) rfl) (rng_r (by omega))) e3)).trans (ret_ok rfl)
  unfold fItems runFn
  rw [if_pos (by rfl), show slots 11 [.scr ns, .int at_, .int n, .int most] = [some (.scr ns), some (.int at_), some (.int n), some (.int most), none, none, none, none, none, none, none] from rfl, hb]
  exact stG_end (noDs_its its)
end
end VI.Lay
end
section
namespace VI.Lay
open PySem PySem.Spec PyProof.Rows L2 VI VI.Std
section
variable (T : Tb) (mR ti : Nat)
end
section
variable {K : PySem.W.Frag} {ct : Ct} {h : Bs} {X Y : List Int} {n mR ti : Nat} {its : List It}
end
end VI.Lay
end
section
namespace VI.Lay
open PySem PySem.Spec PyProof.Rows L2 VI VI.Std
def setB (n : Nat) (X : List Int) : Bool := upB X && X.all fun x => decide (0 ≤ x) && decide (x < n)
end VI.Lay
end
section
namespace VI.Fl
open PySem PySem.Spec PyProof.Rows L2 VI VI.Std
open VI.Lay (itD ItOk LayT LayOk oL rgI sets oth lT)
abbrev Im := Lay.It
abbrev d0 : Im := ([], 0)
def Rws (P : List Int → Im → Prop) (C : List (List Int)) (its : List Im) : Prop := C.length = its.length ∧ ∀ i < its.length, P (C.getD i []) (its.getD i d0)
theorem rws_cons {P : List Int → Im → Prop} {r : List Int} {i : Im} {C : List (List Int)} {its : List Im} : Rws P (r :: C) (i :: its) ↔ P r i ∧ Rws P C its := by
  constructor
  · rintro ⟨h1, h2⟩
    refine ⟨h2 0 (by simp), by simpa using h1, fun k hk => ?_⟩
    have := h2 (k + 1) (by simpa using hk)
    simpa using this
  · rintro ⟨h1, h2, h3⟩
    refine ⟨by simpa using h2, fun k hk => ?_⟩
    cases k with
    | zero => simpa using h1
    | succ k => simpa using h3 k (by simpa using hk)
def ld (C : List (List Int)) (t : Int) : Nat := C.countP fun r => decide (t ∈ r)
def Wk (r : List Int) (i : Im) : Prop := r.Nodup ∧ ∀ x ∈ r, x ∈ i.1
def Fu (r : List Int) (i : Im) : Prop := Wk r i ∧ (r.length : Int) = i.2
def Va (r : List Int) (i : Im) : Prop := Wk r i ∧ (r.length : Int) ≤ i.2
def frc (V : List Int) : List Im → Int
  | [] => 0
  | i :: its => max 0 (i.2 - (i.1.filter fun x => !decide (x ∈ V)).length) + frc V its
theorem sub_len {r h : List Int} (hr : r.Nodup) (hs : ∀ x ∈ r, x ∈ h) (hh : h.Nodup) : r.length ≤ h.length := by
  have e : r.Perm (h.filter fun x => decide (x ∈ r)) := (List.perm_ext_iff_of_nodup hr (hh.sublist List.filter_sublist)).mpr fun a => by
    rw [List.mem_filter, decide_eq_true_eq]
    exact ⟨fun z => ⟨hs a z, z⟩, fun z => z.2⟩
  rw [e.length_eq]
  exact List.length_filter_le _ _
def cv (V r : List Int) : Nat := (V.filter fun t => decide (t ∈ r)).length
theorem cv_eq {V r : List Int} (hV : V.Nodup) (hr : r.Nodup) : cv V r = (r.filter fun t => decide (t ∈ V)).length := by
  unfold cv
  refine ((List.perm_ext_iff_of_nodup (hV.sublist List.filter_sublist) (hr.sublist List.filter_sublist)).mpr fun a => ?_).length_eq
  rw [List.mem_filter, List.mem_filter, decide_eq_true_eq, decide_eq_true_eq]
  exact And.comm
theorem split_len (V : List Int) : ∀ r : List Int, (r.filter fun t => decide (t ∈ V)).length + (r.filter fun t => !decide (t ∈ V)).length = r.length
  | [] => rfl
  | x :: r => by
    have := split_len V r
    rw [List.filter_cons, List.filter_cons, List.length_cons]
    by_cases q : x ∈ V
    · rw [if_pos (by simpa using q), if_neg (by simpa using q), List.length_cons]; omega
    · rw [if_neg (by simpa using q), if_pos (by simpa using q), List.length_cons]; omega
theorem add_sum {α : Type} (f g : α → Nat) : ∀ l : List α, (l.map fun x => f x + g x).sum = (l.map f).sum + (l.map g).sum
  | [] => rfl
  | x :: l => by simp only [List.map_cons, List.sum_cons, add_sum f g l]; omega
theorem ld_cons {r : List Int} {C : List (List Int)} {t : Int} : ld (r :: C) t = ld C t + if t ∈ r then 1 else 0 := by
  unfold ld
  rw [List.countP_cons]
  by_cases q : t ∈ r
  · rw [if_pos (decide_eq_true q), if_pos q]
  · rw [if_neg (by simpa using q), if_neg q]
theorem cnt_one (r : List Int) : ∀ V : List Int, (V.map fun t => if t ∈ r then 1 else 0).sum = cv V r
  | [] => rfl
  | t :: V => by
    have := cnt_one r V
    unfold cv at this ⊢
    rw [List.map_cons, List.sum_cons, this, List.filter_cons]
    by_cases q : t ∈ r
    · rw [if_pos q, if_pos (decide_eq_true q), List.length_cons]; omega
    · rw [if_neg q, if_neg (by simpa using q)]; omega
theorem sum_ld (V : List Int) : ∀ C : List (List Int), (V.map (ld C)).sum = (C.map (cv V)).sum
  | [] => by
    have : ∀ V : List Int, (V.map (ld [])).sum = 0 := fun V => by
      induction V with
      | nil => rfl
      | cons t V ih => rw [List.map_cons, List.sum_cons, ih]; rfl
    exact this V
  | r :: C => by
    have e : V.map (ld (r :: C)) = V.map fun t => ld C t + if t ∈ r then 1 else 0 := List.map_congr_left fun t _ => ld_cons
    rw [e, add_sum, sum_ld V C, cnt_one, List.map_cons, List.sum_cons]
    omega
theorem forced_row {V r : List Int} {i : Im} (hV : V.Nodup) (hi : i.1.Nodup) (h : Fu r i) : max 0 (i.2 - ((i.1.filter fun x => !decide (x ∈ V)).length : Int)) ≤ (cv V r : Int) := by
  obtain ⟨⟨h1, h2⟩, h3⟩ := h
  rw [cv_eq hV h1]
  have s := split_len V r
  have le : (r.filter fun t => !decide (t ∈ V)).length ≤ (i.1.filter fun x => !decide (x ∈ V)).length := sub_len (h1.sublist List.filter_sublist) (fun x hx => by
    obtain ⟨a, b⟩ := List.mem_filter.mp hx
    exact List.mem_filter.mpr ⟨h2 x a, b⟩) (hi.sublist List.filter_sublist)
  omega
theorem forced_le {V : List Int} (hV : V.Nodup) : ∀ (D : List (List Int)) (its : List Im), (∀ i ∈ its, i.1.Nodup) → Rws Fu D its → frc V its ≤ (((V.map (ld D)).sum : Nat) : Int)
  | [], [], _, _ => by rw [sum_ld]; exact Int.le_refl _
  | r :: D, i :: its, hi, h => by
    obtain ⟨h1, h2⟩ := rws_cons.mp h
    have ih := forced_le hV D its (fun j hj => hi j (List.mem_cons_of_mem _ hj)) h2
    have e := forced_row hV (hi i List.mem_cons_self) h1
    rw [sum_ld] at ih ⊢
    rw [List.map_cons, List.sum_cons, frc]
    push_cast
    omega
  | [], i :: its, _, h => by have := h.1; simp at this
  | r :: D, [], _, h => by have := h.1; simp at this
theorem cert_row {V r : List Int} {i : Im} (hV : V.Nodup) (hi : i.1.Nodup) (h : Va r i) (c2 : (∃ t ∈ V, t ∈ r) → ∀ x ∈ i.1, x ∉ r → x ∈ V) : (cv V r : Int) ≤ max 0 (i.2 - ((i.1.filter fun x => !decide (x ∈ V)).length : Int)) := by
  obtain ⟨⟨h1, h2⟩, h3⟩ := h
  by_cases q : ∃ t ∈ V, t ∈ r
  · have s := split_len V r
    rw [cv_eq hV h1]
    have le : (i.1.filter fun x => !decide (x ∈ V)).length ≤ (r.filter fun t => !decide (t ∈ V)).length := sub_len (hi.sublist List.filter_sublist) (fun x hx => by
      obtain ⟨a, b⟩ := List.mem_filter.mp hx
      have nv : x ∉ V := by simpa using b
      refine List.mem_filter.mpr ⟨Classical.byContradiction fun z => nv (c2 q x a z), b⟩) (h1.sublist List.filter_sublist)
    omega
  · have : cv V r = 0 := by
      unfold cv
      rw [List.length_eq_zero_iff, List.filter_eq_nil_iff]
      exact fun t ht z => q ⟨t, ht, by simpa using z⟩
    omega
theorem cert_row1 {V r : List Int} {i : Im} (hV : V.Nodup) (hi : i.1.Nodup) (h : Wk r i) (h3 : (r.length : Int) < i.2) (c3 : ∀ x ∈ i.1, x ∉ r → x ∈ V) : (cv V r : Int) + 1 ≤ max 0 (i.2 - ((i.1.filter fun x => !decide (x ∈ V)).length : Int)) := by
  obtain ⟨h1, h2⟩ := h
  have s := split_len V r
  rw [cv_eq hV h1]
  have le : (i.1.filter fun x => !decide (x ∈ V)).length ≤ (r.filter fun t => !decide (t ∈ V)).length := sub_len (hi.sublist List.filter_sublist) (fun x hx => by
    obtain ⟨a, b⟩ := List.mem_filter.mp hx
    have nv : x ∉ V := by simpa using b
    exact List.mem_filter.mpr ⟨Classical.byContradiction fun z => nv (c3 x a z), b⟩) (h1.sublist List.filter_sublist)
  omega
theorem cert_sum {V : List Int} (hV : V.Nodup) : ∀ (C : List (List Int)) (its : List Im), (∀ i ∈ its, i.1.Nodup) → Rws Va C its → (∀ k < its.length, (∃ t ∈ V, t ∈ C.getD k []) → ∀ x ∈ (its.getD k d0).1, x ∉ C.getD k [] → x ∈ V) → ((((C.map (cv V)).sum : Nat) : Int) ≤ frc V its)
  | [], [], _, _, _ => Int.le_refl _
  | r :: C, i :: its, hi, h, c2 => by
    obtain ⟨h1, h2⟩ := rws_cons.mp h
    have ih := cert_sum hV C its (fun j hj => hi j (List.mem_cons_of_mem _ hj)) h2 fun k hk => by
      have := c2 (k + 1) (by simpa using hk)
      simpa using this
    have e := cert_row hV (hi i List.mem_cons_self) h1 (by have := c2 0 (by simp); simpa using this)
    rw [List.map_cons, List.sum_cons, frc]
    push_cast
    omega
  | [], i :: its, _, h, _ => by have := h.1; simp at this
  | r :: C, [], _, h, _ => by have := h.1; simp at this
theorem cert {V : List Int} (hV : V.Nodup) : ∀ (C : List (List Int)) (its : List Im) (j : Nat), (∀ i ∈ its, i.1.Nodup) → Rws Va C its → j < its.length → ((C.getD j []).length : Int) < (its.getD j d0).2 → (∀ k < its.length, (∃ t ∈ V, t ∈ C.getD k []) → ∀ x ∈ (its.getD k d0).1, x ∉ C.getD k [] → x ∈ V) → (∀ x ∈ (its.getD j d0).1, x ∉ C.getD j [] → x ∈ V) → ((((C.map (cv V)).sum : Nat) : Int) + 1 ≤ frc V its)
  | [], i :: its, _, _, h, _, _, _, _ => by have := h.1; simp at this
  | _, [], j, _, _, hj, _, _, _ => by simp at hj
  | r :: C, i :: its, 0, hi, h, _, hs, c2, c3 => by
    obtain ⟨h1, h2⟩ := rws_cons.mp h
    have ih := cert_sum hV C its (fun j hj => hi j (List.mem_cons_of_mem _ hj)) h2 fun k hk => by
      have := c2 (k + 1) (by simpa using hk)
      simpa using this
    have e := cert_row1 hV (hi i List.mem_cons_self) h1.1 (by simpa using hs) (by simpa using c3)
    rw [List.map_cons, List.sum_cons, frc]
    push_cast
    omega
  | r :: C, i :: its, j + 1, hi, h, hj, hs, c2, c3 => by
    obtain ⟨h1, h2⟩ := rws_cons.mp h
    have ih := cert hV C its j (fun j hj => hi j (List.mem_cons_of_mem _ hj)) h2 (by simpa using hj) (by simpa using hs) (fun k hk => by
      have := c2 (k + 1) (by simpa using hk)
      simpa using this) (by simpa using c3)
    have e := cert_row hV (hi i List.mem_cons_self) h1 (by have := c2 0 (by simp); simpa using this)
    rw [List.map_cons, List.sum_cons, frc]
    push_cast
    omega
theorem sum_le {V : List Int} {C : List (List Int)} {L : Int} (h : ∀ t ∈ V, (ld C t : Int) ≤ L) : (((V.map (ld C)).sum : Nat) : Int) ≤ L * V.length := by
  induction V with
  | nil => simp
  | cons t V ih =>
    have h1 := h t List.mem_cons_self
    have h2 := ih fun s hs => h s (List.mem_cons_of_mem _ hs)
    rw [List.map_cons, List.sum_cons, List.length_cons]
    push_cast
    rw [Int.mul_add]
    omega
end VI.Fl
end
section
namespace VI.Fl
open PySem PySem.Spec PyProof.Rows L2 VI VI.Std
open VI.Lay (itD ItOk LayT LayOk oL rgI sets oth lT)
abbrev Par := Option (Nat × Int)
abbrev Mp := List (Int × Par)
abbrev St := Mp × List Int
def ks (M : Mp) : List Int := M.map (·.1)
def add1 (i : Nat) (sv : Int) (r : List Int) (s : St) (t : Int) : St := if t ∉ r ∧ t ∉ ks s.1 then (s.1 ++ [(t, some (i, sv))], s.2 ++ [t]) else s
def scan1 (its : List Im) (sv : Int) (s : St) (p : List Int × Nat) : St := if sv ∈ p.1 then (its.getD p.2 d0).1.foldl (add1 p.2 sv p.1) s else s
def scan (its : List Im) (C : List (List Int)) (sv : Int) (s : St) : St := C.zipIdx.foldl (scan1 its sv) s
def bfs (its : List Im) (C : List (List Int)) (L : Int) : Nat → St → Option (Option (Mp × Int))
  | 0, _ => none
  | _ + 1, (_, []) => some none
  | f + 1, (M, sv :: Q) => if (ld C sv : Int) < L then some (some (M, sv)) else bfs its C L f (scan its C sv (M, Q))
def OkS (its : List Im) (C : List (List Int)) (i : Nat) (o t : Int) : Prop := i < its.length ∧ o ∈ C.getD i [] ∧ t ∉ C.getD i [] ∧ t ∈ (its.getD i d0).1
inductive ParM (its : List Im) (C : List (List Int)) (st : Int) : Mp → Prop
  | one : ParM its C st [(st, none)]
  | snoc {M : Mp} {t : Int} {i : Nat} {o : Int} : ParM its C st M → o ∈ ks M → t ∉ ks M → OkS its C i o t → ParM its C st (M ++ [(t, some (i, o))])
theorem ks_snoc {M : Mp} {t : Int} {p : Par} : ks (M ++ [(t, p)]) = ks M ++ [t] := by simp [ks]
theorem ParM.nodup {its : List Im} {C : List (List Int)} {st : Int} {M : Mp} (h : ParM its C st M) : (ks M).Nodup := by
  induction h with
  | one => simp [ks]
  | snoc h ho ht ok ih =>
    rw [ks_snoc, List.nodup_append]
    refine ⟨ih, by simp, fun a ha b hb => ?_⟩
    rw [List.mem_singleton.mp hb]
    intro z; exact ht (z ▸ ha)
def Cov (its : List Im) (C : List (List Int)) (p : Int) (V : List Int) : Prop := ∀ k < its.length, p ∈ C.getD k [] → ∀ x ∈ (its.getD k d0).1, x ∉ C.getD k [] → x ∈ V
theorem Cov.mono {its : List Im} {C : List (List Int)} {p : Int} {V W : List Int} (h : Cov its C p V) (s : ∀ x ∈ V, x ∈ W) : Cov its C p W := fun k hk hp x hx hn => s x (h k hk hp x hx hn)
structure Ext (its : List Im) (C : List (List Int)) (st : Int) (s s' : St) : Prop where
  par : ParM its C st s'.1
  grow : ∃ E, ks s'.1 = ks s.1 ++ E ∧ s'.2 = s.2 ++ E
theorem Ext.refl {its : List Im} {C : List (List Int)} {st : Int} {s : St} (h : ParM its C st s.1) : Ext its C st s s := ⟨h, [], by simp, by simp⟩
theorem Ext.trans {its : List Im} {C : List (List Int)} {st : Int} {a b c : St} (h1 : Ext its C st a b) (h2 : Ext its C st b c) : Ext its C st a c := by
  obtain ⟨E, e1, e2⟩ := h1.grow
  obtain ⟨F, f1, f2⟩ := h2.grow
  exact ⟨h2.par, E ++ F, by rw [f1, e1, List.append_assoc], by rw [f2, e2, List.append_assoc]⟩
theorem Ext.sub {its : List Im} {C : List (List Int)} {st : Int} {a b : St} (h : Ext its C st a b) : ∀ x ∈ ks a.1, x ∈ ks b.1 := fun x hx => by
  obtain ⟨E, e1, _⟩ := h.grow
  rw [e1]
  exact List.mem_append.mpr (.inl hx)
structure Wk_ (its : List Im) (C : List (List Int)) (L : Int) (st : Int) (n : Nat) (P : List Int) (s : St) : Prop where
  par : ParM its C st s.1
  keys : ks s.1 = P ++ s.2
  full : ∀ p ∈ P, L ≤ (ld C p : Int)
  cov : ∀ p ∈ P, Cov its C p (ks s.1)
theorem start_ok {its : List Im} {C : List (List Int)} {L st : Int} {n : Nat} : Wk_ its C L st n [] ([(st, none)], [st]) := ⟨.one, rfl, fun _ z => (nomatch z), fun _ z => (nomatch z)⟩
def lk (M : Mp) (t : Int) : Option Par := (M.find? fun p => decide (p.1 = t)).map (·.2)
def stp (M : Mp) : Nat → Int → List (Nat × Int × Int)
  | 0, _ => []
  | f + 1, t => match lk M t with
    | some (some (i, o)) => (i, o, t) :: stp M f o
    | _ => []
def Lnk : List (Nat × Int × Int) → Int → Int → Prop
  | [], e, st => e = st
  | (_, o, t) :: l, e, st => e = t ∧ Lnk l o st
end VI.Fl
end
section
namespace VI.Fl
open PySem PySem.Spec PyProof.Rows L2 VI VI.Std
open VI.Lay (itD ItOk LayT LayOk oL rgI sets oth lT)
abbrev Sp := Nat × Int × Int
def mv1 (C : List (List Int)) (s : Sp) : List (List Int) := C.set s.1 (((C.getD s.1 []).filter fun x => !decide (x = s.2.1)) ++ [s.2.2])
def mvs (C : List (List Int)) (l : List Sp) : List (List Int) := l.foldl mv1 C
def mvd (C : List (List Int)) (l : List Sp) : List (List Int) := (mvs C l).map sortI
def more (C : List (List Int)) (j : Nat) (st : Int) (l : List Sp) : List (List Int) := (mvd C l).set j (sortI ((mvd C l).getD j [] ++ [st]))
def Vs (r : List Int) (i : Im) : Prop := r.Pairwise (· < ·) ∧ (∀ x ∈ r, x ∈ i.1) ∧ (r.length : Int) ≤ i.2
theorem Vs.wk {r : List Int} {i : Im} (h : Vs r i) : Wk r i := ⟨List.nodup_iff_pairwise_ne.mpr (h.1.imp fun a => by omega), h.2.1⟩
theorem Vs.va {r : List Int} {i : Im} (h : Vs r i) : Va r i := ⟨h.wk, h.2.2⟩
theorem mem_sortI {l : List Int} {x : Int} : x ∈ sortI l ↔ x ∈ l := (sortI_perm l).mem_iff
theorem len_sortI {l : List Int} : (sortI l).length = l.length := (sortI_perm l).length_eq
end VI.Fl
end
section
namespace VI.Fl
open PySem PySem.Spec PyProof.Rows L2 VI VI.Std
open VI.Lay (itD ItOk LayT LayOk oL rgI sets oth lT)
inductive Rch (its : List Im) (C : List (List Int)) (s : Int) : Int → Prop
  | refl : Rch its C s s
  | step {p x : Int} {k : Nat} : Rch its C s p → k < its.length → p ∈ C.getD k [] → x ∈ (its.getD k d0).1 → x ∉ C.getD k [] → Rch its C s x
theorem Rch.mem {its : List Im} {C : List (List Int)} {s x : Int} {V : List Int} (h : Rch its C s x) (hs : s ∈ V) (cl : ∀ p ∈ V, Cov its C p V) : x ∈ V := by
  induction h with
  | refl => exact hs
  | step h hk hp hx hn ih => exact cl _ ih _ hk hp _ hx hn
structure Itz (n : Nat) (its : List Im) : Prop where
  nd : ∀ i ∈ its, i.1.Nodup
  rg : ∀ i ∈ its, ∀ x ∈ i.1, 0 ≤ x ∧ x < n
  one : ∀ i ∈ its, 1 ≤ i.2
  fit : ∀ i ∈ its, i.2 ≤ i.1.length
def path (its : List Im) (C : List (List Int)) (L st : Int) : Option (Mp × Int) := (bfs its C L 1000 ([(st, none)], [st])).getD none
theorem SetN.nd {n : Nat} {X : List Int} (h : SetN n X) : X.Nodup := List.nodup_iff_pairwise_ne.mpr (h.up.imp fun a => by omega)
def wom (its : List Im) (C : List (List Int)) (j : Nat) (L : Int) : Option (List (List Int)) := (its.getD j d0).1.findSome? fun s => if s ∈ C.getD j [] then none else (path its C L s).map fun p => more C j s (stp p.1 1000 p.2)
def Cert (n : Nat) (its : List Im) (L : Int) : Prop := ∃ V : List Int, SetN n V ∧ V ≠ [] ∧ L * V.length + 1 ≤ frc V its
def grow (its : List Im) (L : Int) (j : Nat) : Nat → List (List Int) → List (List Int)
  | 0, C => C
  | f + 1, C => if ((C.getD j []).length : Int) < (its.getD j d0).2 then match wom its C j L with
    | some C' => grow its L j f C'
    | none => C
    else C
def fillA (its : List Im) (L : Int) : Nat → Nat → List (List Int) → List (List Int)
  | 0, _, C => C
  | m + 1, a, C => fillA its L m (a + 1) (grow its L a 900 C)
def fill (its : List Im) (L : Int) : List (List Int) := fillA its L its.length 0 (its.map fun _ => [])
def Full (C : List (List Int)) (its : List Im) : Prop := ∀ k < its.length, ((C.getD k []).length : Int) = (its.getD k d0).2
def cnt (C : List (List Int)) : Nat := (C.map List.length).sum
def whole (its : List Im) : Int := (its.map (·.2)).sum
theorem no_cert {n : Nat} {its : List Im} {L : Int} {D : List (List Int)} (I : Itz n its) (hD : Rws Fu D its) (hL : ∀ x : Int, 0 ≤ x ∧ x < n → (ld D x : Int) ≤ L) : ¬ Cert n its L := by
  rintro ⟨V, h1, h2, h3⟩
  have a := forced_le (SetN.nd h1) D its I.nd hD
  have b := sum_le (V := V) (C := D) (L := L) fun t ht => hL t (h1.lo t ht)
  omega
structure Least (n : Nat) (its : List Im) (L : Int) (C : List (List Int)) : Prop where
  rows : Rws Vs C its
  full : Full C its
  le : ∀ x, (ld C x : Int) ≤ L
  cert : Cert n its (L - 1)
theorem Least.most {n : Nat} {its : List Im} {L : Int} {C : List (List Int)} (I : Itz n its) (h : Least n its L C) {D : List (List Int)} (hD : Rws Fu D its) : ∃ x : Int, (0 ≤ x ∧ x < n) ∧ L ≤ (ld D x : Int) := by
  refine Classical.byContradiction fun z => no_cert (L := L - 1) I hD (fun x hx => ?_) h.cert
  have : ¬ L ≤ (ld D x : Int) := fun w => z ⟨x, hx, w⟩
  omega
end VI.Fl
end
section
namespace VI.Fl
open PySem PySem.Spec PyProof.Rows L2 VI VI.Std
open VI.Lay (itD ItOk LayT LayOk oL rgI sets oth lT)
end VI.Fl
end
section
namespace VI.Fl
open PySem PySem.Spec PyProof.Rows L2 VI VI.Std
open VI.Lay (itD ItOk LayT LayOk oL rgI sets oth lT lt_ok ge_ok fld0 fld1 lenTI stG stG_at stG_new stG_app stG_end)
section
variable {K : PySem.W.Frag} {ct : Ct} {h : Bs} {n : Nat} {its : List Im} {C : List (List Int)} {L st : Int}
theorem take_end {h hh : Bs} (e1 : hh.bs.take h.bs.length = h.bs) : outB h hh = h := by
  unfold outB
  rw [e1]
theorem set_same {b : Nat} {x : Bx} {l : List Bx} (hb : l[b]? = some x) : l.set b x = l := by
  refine List.ext_getElem? fun i => ?_
  by_cases q : b = i
  · subst q
    rw [List.getElem?_set_self (List.getElem?_eq_some_iff.mp hb).1, hb]
  · rw [List.getElem?_set_ne q]
theorem lock_eq {b : Nat} {xs : List D} (hb : h.bs[b]? = some (.lst false xs)) : lockB b h = ⟨h.fbs, h.bs.set b (.lst true xs)⟩ := by
  unfold lockB
  simp only [hb]
theorem unl_eq {b : Nat} {xs : List D} (hb : h.bs[b]? = some (.lst true xs)) : unlB b h = ⟨h.fbs, h.bs.set b (.lst false xs)⟩ := by
  unfold unlB
  simp only [hb]
theorem unl_lock {b : Nat} {xs : List D} (hb : h.bs[b]? = some (.lst false xs)) : unlB b (lockB b h) = h := by
  rw [lock_eq hb, unl_eq (xs := xs) (List.getElem?_set_self (List.getElem?_eq_some_iff.mp hb).1)]
  show (⟨h.fbs, (h.bs.set b _).set b _⟩ : Bs) = h
  rw [List.set_set, set_same hb]
def Chv (h : Bs) (d : D) (xs : List D) : Prop := d = .lst xs ∨ ∃ b, d = .ref b ∧ h.bs[b]? = some (.lst false xs)
theorem Chv.inB {d : D} {xs : List D} (c : Chv h d xs) : Chv (inB h) d xs := c
def chD (C : List (List Int)) : List D := C.map fun r => tI r
theorem rng_I {n : Nat} (hn : n < 2 ^ 24) : itRng1 [.int n] h = .ok ((rgI n).map .int, none) h := by
  rw [rng_ok hn]
  unfold rgI
  rw [List.map_map]
  rfl
def mkK (M : Mp) : List Key := M.map fun p => .inl p.1
def pD : Par → D
  | none => .non
  | some (i, o) => .tup [.int i, .int o]
def mvD (M : Mp) : List D := M.map fun p => pD p.2
def Dat (h : Bs) (b : Nat) (M : Mp) : Prop := h.bs[b]? = some (.dct false (.k (mkK M)) (mvD M))
end
end VI.Fl
end
section
namespace VI.Fl
open PySem PySem.Spec PyProof.Rows L2 VI VI.Std
open VI.Lay (itD ItOk LayT LayOk oL rgI sets oth lT lt_ok ge_ok fld0 fld1 lenTI stG stG_at stG_new stG_app stG_end)
section
variable {K : PySem.W.Frag} {ct : Ct} {h : Bs} {n : Nat} {its : List Im} {C : List (List Int)} {L st : Int}
structure StQ (B : List Bx) (fb : List Nat) (s : St) (q : Nat) (h : Bs) : Prop where
  fbs : h.fbs = B.length :: fb
  pre : h.bs.take B.length = B
  dct : Dat h B.length s.1
  gt : B.length < q
  que : h.bs[q]? = some (.lst false (s.2.map .int))
structure Inv (n : Nat) (s : St) : Prop where
  nd : (ks s.1).Nodup
  rg : ∀ x ∈ ks s.1, 0 ≤ x ∧ x < n
  le : s.2.length ≤ s.1.length
  sub : ∀ x ∈ s.2, x ∈ ks s.1
theorem Inv.len {n : Nat} {s : St} (v : Inv n s) : s.1.length ≤ n ∧ s.2.length ≤ n := by
  have := sub_len v.nd (h := rgI n) (fun x hx => Lay.mem_rgI.mpr (v.rg x hx)) (rng_nodup n)
  rw [Lay.rgI_len] at this
  have e : (ks s.1).length = s.1.length := by simp [ks]
  have := v.le
  omega
theorem Inv.add {n : Nat} {s : St} {i : Nat} {sv t : Int} {r : List Int} (v : Inv n s) (ht : 0 ≤ t ∧ t < n) : Inv n (add1 i sv r s t) := by
  unfold add1
  by_cases q : t ∉ r ∧ t ∉ ks s.1
  · rw [if_pos q]
    refine ⟨?_, ?_, ?_, ?_⟩
    · show (ks (s.1 ++ [(t, some (i, sv))])).Nodup
      rw [ks_snoc, List.nodup_append]
      refine ⟨v.nd, by simp, fun a ha b hb => ?_⟩
      rw [List.mem_singleton.mp hb]
      intro z; exact q.2 (z ▸ ha)
    · intro x hx
      have hx : x ∈ ks (s.1 ++ [(t, some (i, sv))]) := hx
      rw [ks_snoc] at hx
      rcases List.mem_append.mp hx with z | z
      · exact v.rg x z
      · rw [List.mem_singleton.mp z]; exact ht
    · have := v.le
      show (s.2 ++ [t]).length ≤ (s.1 ++ [(t, some (i, sv))]).length
      rw [List.length_append, List.length_append, List.length_singleton, List.length_singleton]
      omega
    · intro x hx
      show x ∈ ks (s.1 ++ [(t, some (i, sv))])
      rw [ks_snoc]
      rcases List.mem_append.mp hx with z | z
      · exact List.mem_append.mpr (.inl (v.sub x z))
      · exact List.mem_append.mpr (.inr z)
  · rw [if_neg q]; exact v
theorem has_no {x : Int} {M : Mp} (h : x ∉ ks M) : hasK (mkK M) (.inl x : Key) = false := by
  unfold hasK mkK
  rw [List.any_eq_false]
  intro k hk
  obtain ⟨p, hp, rfl⟩ := List.mem_map.mp hk
  have : p.1 ≠ x := fun z => h (z ▸ List.mem_map_of_mem hp)
  simp [this]
theorem take_set {l : List Bx} {k i : Nat} {x : Bx} (h : k ≤ i) : (l.set i x).take k = l.take k := by
  refine List.ext_getElem? fun j => ?_
  rw [List.getElem?_take, List.getElem?_take]
  split
  · rw [List.getElem?_set_ne (by omega)]
  · rfl
theorem StQ.put {B : List Bx} {fb : List Nat} {s : St} {q : Nat} {h : Bs} (S : StQ B fb s q h) {t i o : Int} {k : Nat} (ek : i = k) (ht : t ∉ ks s.1) (hl : s.1.length ≤ 900) : ∃ h1, dputD (.ref B.length) (.int t) (.tup [.int i, .int o]) h = .ok .non h1 ∧ StQ B fb (s.1 ++ [(t, some (k, o))], s.2) q h1 := by
  have sz : (1000 : Nat) ≤ sizeLine := by decide
  have hB : B.length < h.bs.length := (List.getElem?_eq_some_iff.mp S.dct).1
  refine ⟨⟨h.fbs, h.bs.set B.length (.dct false (.k (mkK (s.1 ++ [(t, some (k, o))]))) (mvD (s.1 ++ [(t, some (k, o))])))⟩, ?_, ⟨S.fbs, (take_set (Nat.le_refl _)).trans S.pre, List.getElem?_set_self hB, S.gt, (List.getElem?_set_ne (by have := S.gt; omega)).trans S.que⟩⟩
  have d : h.bs[B.length]? = some (.dct false (.k (mkK s.1)) (mvD s.1)) := S.dct
  have e := has_no ht
  have ok : okW h B.length (.tup [.int i, .int o]) = true := by simp [okW, S.fbs]
  have ll : decide ((Ks.k (mkK s.1)).len < sizeLine) = true := by
    rw [decide_eq_true_eq]
    show (mkK s.1).length < sizeLine
    unfold mkK
    rw [List.length_map]; omega
  simp only [dputD, d, koD, keyD, Option.map_some, ll, ok, Bool.and_self, if_true, Ks.add, Ks.putV, addK, putV, e]
  simp [mkK, mvD, pD, ek]
theorem StQ.push {B : List Bx} {fb : List Nat} {s : St} {q : Nat} {h : Bs} (S : StQ B fb s q h) {t : Int} (hl : s.2.length ≤ 900) : ∃ h1, appD (.ref q) [.int t] h = .ok .non h1 ∧ StQ B fb (s.1, s.2 ++ [t]) q h1 := by
  have sz : (1000 : Nat) ≤ sizeLine := by decide
  have hB : q < h.bs.length := (List.getElem?_eq_some_iff.mp S.que).1
  refine ⟨⟨h.fbs, h.bs.set q (.lst false ((s.2 ++ [t]).map .int))⟩, ?_, ⟨S.fbs, (take_set (by have := S.gt; omega)).trans S.pre, (List.getElem?_set_ne (by have := S.gt; omega)).trans S.dct, S.gt, List.getElem?_set_self hB⟩⟩
  have ok : okW h q (.int t) = true := by
    have := S.gt
    simp [okW, S.fbs]
    omega
  have e3 : decide ((s.2.map D.int).length < sizeLine) = true := by rw [List.length_map]; simp; omega
  have e := S.que
  simp only [appD, e, ok, e3, Bool.and_self, if_true, putL]
  simp
theorem atI_get {xs : List D} {i : Nat} {x : D} (e : xs[i]? = some x) : atI xs (i : Int) = some x := by
  have := (List.getElem?_eq_some_iff.mp e).1
  unfold atI
  rw [show ixN xs.length (i : Int) = some i by unfold ixN; rw [if_pos (by omega), if_pos (by omega)]; simp]
  exact e
theorem set_take {l : List Bx} {k i : Nat} {x : Bx} : (l.set i x).take k = (l.take k).set i x := by
  refine List.ext_getElem? fun j => ?_
  rw [List.getElem?_take, List.getElem?_set, List.getElem?_set, List.getElem?_take, List.length_take]
  by_cases q : j < k
  · rw [if_pos q]
    by_cases q2 : i = j
    · subst q2
      rw [if_pos rfl, if_pos rfl]
      by_cases q3 : i < l.length
      · rw [if_pos q3, if_pos (by omega)]
      · rw [if_neg q3, if_neg (by omega)]
    · rw [if_neg q2, if_neg q2, if_pos q]
  · rw [if_neg q]
    by_cases q2 : i = j
    · subst q2
      rw [if_pos rfl, if_neg (by omega)]
    · rw [if_neg q2, if_neg q]
theorem StQ.at_ {B : List Bx} {fb : List Nat} {s : St} {q b : Nat} {x : Bx} (S : StQ B fb s q h) (hb : B[b]? = some x) : h.bs[b]? = some x := by
  have hlt : b < B.length := (List.getElem?_eq_some_iff.mp hb).1
  rw [← S.pre, List.getElem?_take, if_pos hlt] at hb
  exact hb
theorem StQ.lock {B : List Bx} {fb : List Nat} {s : St} {q b : Nat} {xs : List D} (S : StQ B fb s q h) (hb : B[b]? = some (.lst false xs)) : StQ (B.set b (.lst true xs)) fb s q (lockB b h) := by
  have hlt : b < B.length := (List.getElem?_eq_some_iff.mp hb).1
  rw [lock_eq (S.at_ hb)]
  refine ⟨by rw [List.length_set]; exact S.fbs, ?_, ?_, by rw [List.length_set]; exact S.gt, ?_⟩
  · rw [List.length_set]
    show (h.bs.set b _).take B.length = _
    rw [set_take, S.pre]
  · rw [List.length_set]
    exact (List.getElem?_set_ne (by omega)).trans S.dct
  · exact (List.getElem?_set_ne (by have := S.gt; omega)).trans S.que
theorem StQ.unlock {B : List Bx} {fb : List Nat} {s : St} {q b : Nat} {xs : List D} (hb : B[b]? = some (.lst false xs)) (S : StQ (B.set b (.lst true xs)) fb s q h) : StQ B fb s q (unlB b h) := by
  have hlt : b < B.length := (List.getElem?_eq_some_iff.mp hb).1
  obtain ⟨s1, s2, s3, s4, s5⟩ := S
  rw [List.length_set] at s1 s2 s3 s4
  have hb' : h.bs[b]? = some (.lst true xs) := by
    have : (h.bs.take B.length)[b]? = some (.lst true xs) := by rw [s2, List.getElem?_set_self hlt]
    rwa [List.getElem?_take, if_pos hlt] at this
  rw [unl_eq hb']
  refine ⟨s1, ?_, (List.getElem?_set_ne (by omega)).trans s3, s4, (List.getElem?_set_ne (by omega)).trans s5⟩
  show (h.bs.set b _).take B.length = B
  rw [set_take, s2, List.set_set, set_same hb]
end
end VI.Fl
end
section
namespace VI.Fl
open PySem PySem.Spec PyProof.Rows L2 VI VI.Std
open VI.Lay (itD ItOk LayT LayOk oL rgI sets oth lT lt_ok ge_ok fld0 fld1 lenTI stG stG_at stG_new stG_app stG_end)
section
variable {K : PySem.W.Frag} {ct : Ct} {h : Bs} {n : Nat} {its : List Im} {C : List (List Int)} {L st : Int}
def bxI (r : List Int) : Bx := .lst false (r.map .int)
theorem newL_t {xs : List D} (e : xs.length ≤ sizeLine) : newL true xs h = .ok (.ref h.bs.length) ⟨h.fbs, h.bs ++ [.lst false xs]⟩ := by
  unfold newL
  rw [if_pos e, if_pos rfl]
structure StM (B : List Bx) (fb : List Nat) (C : List (List Int)) (o : Nat) (rs : List Nat) (h : Bs) : Prop where
  fbs : h.fbs = B.length :: fb
  pre : h.bs.take B.length = B
  le : B.length ≤ o
  len : rs.length = C.length
  out : h.bs[o]? = some (.lst false (rs.map .ref))
  row : ∀ k < C.length, ∃ r, rs[k]? = some r ∧ B.length ≤ r ∧ r ≠ o ∧ h.bs[r]? = some (bxI (C.getD k []))
end
end VI.Fl
end
section
namespace VI.Fl
open PySem PySem.Spec PyProof.Rows L2 VI VI.Std
open VI.Lay (itD ItOk LayT LayOk oL rgI sets oth lT lt_ok ge_ok fld0 fld1 lenTI stG stG_at stG_new stG_app stG_end)
section
variable {K : PySem.W.Frag} {ct : Ct} {h : Bs} {n : Nat} {its : List Im} {C : List (List Int)} {L st : Int}
theorem noDs_ch : ∀ C : List (List Int), noDs (chD C) = true
  | [] => rfl
  | r :: C => by
    have := noDs_ch C
    unfold chD at this ⊢
    rw [List.map_cons, noDs, this, Bool.and_true]
    exact noDs_ints r
end
end VI.Fl
end
section
namespace VI.Fl
open PySem PySem.Spec PyProof.Rows L2 VI VI.Std
open VI.Lay (itD ItOk LayT LayOk oL rgI sets oth lT lt_ok ge_ok fld0 fld1 lenTI stG stG_at stG_new stG_app stG_end fil_emb)
section
variable {K : PySem.W.Frag} {ct : Ct} {h : Bs} {n : Nat} {its : List Im} {C : List (List Int)} {L st : Int}
def evl (n : Nat) (its : List Im) (L : Int) (x3 x4 x5 : Option D) : Ev := [some (oL n its), some (.int (whole its)), some (.int L), x3, x4, x5]
end
end VI.Fl
end
section
namespace VI.Fl
open PySem PySem.Spec PyProof.Rows L2 VI VI.Std
open VI.Lay (itD ItOk LayT LayOk oL rgI sets oth lT lt_ok ge_ok fld0 fld1 lenTI stG stG_at stG_new stG_app stG_end fil_emb all_emb slT_lo zipT)
section
variable {K : PySem.W.Frag} {ct : Ct} {h : Bs} {n : Nat} {its : List Im} {C : List (List Int)} {L st : Int}
end
end VI.Fl
end
section
namespace VI.Fl
open PySem PySem.Spec PyProof.Rows L2 VI VI.Std
open VI.Lay
section
variable {K : PySem.W.Frag} {ct : Ct} {h : Bs} {n : Nat} {its : List Im} {X Y : List Int} {A B C E : List (List Int)}
def setB (n : Nat) (X : List Int) : Bool := (X.all fun x => decide (0 ≤ x) && decide (x ≤ (n : Int) - 1)) && (X.zip (X.drop 1)).all fun p => decide (p.1 < p.2)
theorem py_lT (A : List (List Int)) : py pyN h (lT A) = some (.list (A.map fun X => .tuple (X.map .int))) := by
  show (mapO (py 11 h) (A.map fun X => tI X)).map PyData.list = _
  have : mapO (py 11 h) (A.map fun X => tI X) = some (A.map fun X => .tuple (X.map .int)) := by
    induction A with
    | nil => rfl
    | cons Y l ih =>
      have e1 : py 11 h (tI Y) = some (.tuple (Y.map .int)) := py_tI Y
      simp only [List.map_cons, mapO, e1, ih]
  rw [this]
  rfl
theorem in_lT {A : List (List Int)} {X : List Int} {neg : Bool} : inD neg (tI X) (lT A) h = .ok (.bl (if neg then !decide (X ∈ A) else decide (X ∈ A))) h := by
  have e1 : py pyN h (tI X) = some (.tuple (X.map .int)) := py_tI X
  have e2 : ((A.map fun X => PyData.tuple (X.map .int)).any fun z => PyData.eqv z (.tuple (X.map .int))) = decide (X ∈ A) := by
    rw [List.any_map, Bool.eq_iff_iff, List.any_eq_true, decide_eq_true_eq]
    constructor
    · rintro ⟨Y, hY, e⟩
      have e : PyData.eqvAll (Y.map .int) (X.map .int) = true := by simpa [PyData.eqv] using e
      rw [eqvAll_ints, decide_eq_true_eq] at e
      rw [← e]
      exact hY
    · intro hX
      refine ⟨X, hX, ?_⟩
      show PyData.eqv (.tuple (X.map .int)) (.tuple (X.map .int)) = true
      rw [PyData.eqv, eqvAll_ints, decide_eq_true rfl]
  simp only [inD, e1, py_lT, e2]
theorem eqvA : ∀ A C : List (List Int), PyData.eqvAll (A.map fun X => .tuple (X.map .int)) (C.map fun X => .tuple (X.map .int)) = decide (A = C)
  | [], [] => by simp [PyData.eqvAll]
  | [], _ :: _ => by simp [PyData.eqvAll]
  | _ :: _, [] => by simp [PyData.eqvAll]
  | X :: A, Y :: C => by
    simp only [List.map_cons, PyData.eqvAll, PyData.eqv, eqvAll_ints, eqvA A C]
    by_cases h1 : X = Y <;> by_cases h2 : A = C <;> simp [h1, h2]
def maxI : List Int → Int
  | [] => 0
  | x :: xs => maxFold x xs
theorem eq_lTn {neg : Bool} : eqD neg (lT A) (lT C) h = .ok (.bl (if neg then !decide (A = C) else decide (A = C))) h := by
  simp only [eqD, py_lT, PyData.eqv, eqvA]
end
end VI.Fl
end
section
namespace VI.Fl
open PySem PySem.Spec PyProof.Rows L2 VI VI.Std
open VI.Lay (itD ItOk LayT LayOk oL rgI sets oth lT)
section
variable {K : PySem.W.Frag} {h : Bs} {n : Nat} {X : List Int}
theorem lst_to {xs : List D} {j : Nat} (hl : xs.length ≤ 1000) : slD false (.lst xs) none (some (j : Int)) h = .ok (.lst (xs.take j)) h := by
  have sz : (1000 : Nat) ≤ sizeLine := by decide
  show newL false (cutD xs none (some (j : Int))) h = _
  rw [Std.cut_hi, newL_f (by rw [List.length_take]; omega)]
end
end VI.Fl
end
section
namespace VI.Fl
open PySem PySem.Spec PyProof.Rows L2 VI VI.Std
open VI.Lay (itD ItOk LayT LayOk oL rgI sets oth lT)
structure Tgt (n : Nat) (its : List Im) (L : Int) (a : Nat) (C : List (List Int)) (V : Int → Prop) : Prop where
  clo : ∀ p, V p → ∀ k < its.length, p ∈ C.getD k [] → ∀ x ∈ (its.getD k d0).1, x ∉ C.getD k [] → V x
  lim : ∀ p, V p → L ≤ (ld C p : Int)
  cov : ∀ k < a, k < its.length → ((C.getD k []).length : Int) < (its.getD k d0).2 → ∀ x ∈ (its.getD k d0).1, x ∉ C.getD k [] → V x
theorem Tgt.out {n : Nat} {its : List Im} {L : Int} {a : Nat} {C : List (List Int)} {V : Int → Prop} (T : Tgt n its L a C V) : ∀ (l : List Sp) (e st : Int), ¬ V e → Lnk l e st → (∀ s ∈ l, OkS its C s.1 s.2.1 s.2.2) → ¬ V st ∧ ∀ s ∈ l, ¬ V s.2.1 ∧ ¬ V s.2.2
  | [], e, st, he, hl, _ => ⟨fun z => he (by rw [show e = st from hl]; exact z), fun _ z => (nomatch z)⟩
  | (i, o, t) :: l, e, st, he, hl, ok => by
    obtain ⟨h1, h2⟩ := hl
    obtain ⟨k1, k2, k3, k4⟩ := ok _ List.mem_cons_self
    have ht : ¬ V t := fun z => he (by rw [show e = t from h1]; exact z)
    have ho : ¬ V o := fun z => ht (T.clo o z i k1 k2 t k4 k3)
    obtain ⟨r1, r2⟩ := T.out l o st ho h2 fun s hs => ok s (List.mem_cons_of_mem _ hs)
    refine ⟨r1, fun s hs => ?_⟩
    rcases List.mem_cons.mp hs with z | z
    · rw [z]; exact ⟨ho, ht⟩
    · exact r2 s z
end VI.Fl
end
section
namespace VI.Fl
open PySem PySem.Spec PyProof.Rows L2 VI VI.Std
open VI.Lay (itD ItOk LayT LayOk oL rgI sets oth lT lt_ok ge_ok fld0 fld1 lenTI fil_emb all_emb slT_lo zipT)
section
variable {K : PySem.W.Frag} {ct : Ct} {h : Bs} {n : Nat} {its : List Im} {X Y : List Int} {A B C E : List (List Int)} {L : Int}
def Sl (r : List Int) (i : Im) : Prop := r.Sublist i.1 ∧ (r.length : Int) ≤ i.2
end
end VI.Fl
end
section
namespace VI
open PySem PySem.Spec PyProof.Rows L2
section
variable {X : Cx} {T : Tb} {WW : WX} {μ μ' : Mu} {H H' : Hp} {h : Bs} {σ : Sg} {ρ : Ev} {pins : List (Addr × Obj)} {s : Shared}
def sortDd (bx : Bool) (ds : List D) (h : Bs) : R D := match ds with
  | [d] => (match dctO h d with
    | some (ks, _) => (match mapO (py pyN h) (keyDL ks) with
      | some ps => if canSort ps && adjOk (srtK ((keyDL ks).zip ps)) then newL bx ((srtK ((keyDL ks).zip ps)).map (·.1)) h else .no
      | none => .no)
    | none => .no)
  | _ => .no
end
abbrev sortDX (bx : Bool) := pickC isDks (sortDd bx) (sortDS bx)
end VI
end
section
namespace VI.Dk
open PySem PySem.Spec PyProof.Rows L2 VI VI.Std
open VI.Lay (lT)
section
variable {h : Bs} {S R : List (List Int)} {X : List Int} {f f' : List Int → D}
def KV (X : List Int) : List Key := X.map .inl
theorem KV_inj : ∀ {X Y : List Int}, KV X = KV Y → X = Y
  | [], [], _ => rfl
  | [], _ :: _, e => by simp [KV] at e
  | _ :: _, [], e => by simp [KV] at e
  | x :: X, y :: Y, e => by
    unfold KV at e
    rw [List.map_cons, List.map_cons] at e
    obtain ⟨e1, e2⟩ := List.cons.inj e
    rw [KV_inj (X := X) (Y := Y) e2, Sum.inl.inj e1]
theorem mapK : ∀ X : List Int, mapO keyD (X.map D.int) = some (KV X)
  | [] => rfl
  | x :: X => by
    have := mapK X
    unfold KV at this ⊢
    rw [List.map_cons, mapO]
    simp only [keyD, this]
    rfl
theorem kt_ok : keyTs (tI X) = some (KV X) := mapK X
def dT (S : List (List Int)) (f : List Int → D) : D := .dct (.t (S.map KV)) (S.map f)
def bT (S : List (List Int)) (f : List Int → D) : Bx := .dct false (.t (S.map KV)) (S.map f)
def Is (h : Bs) (d : D) (S : List (List Int)) (f : List Int → D) : Prop := d = dT S f ∨ ∃ b, d = .ref b ∧ h.bs[b]? = some (bT S f)
theorem Is.dct {d : D} (i : Is h d S f) : dctO h d = some (.t (S.map KV), S.map f) := by
  rcases i with rfl | ⟨b, rfl, hb⟩
  · rfl
  · have hb : h.bs[b]? = some (.dct false (.t (S.map KV)) (S.map f)) := hb
    simp only [dctO, hb]
theorem Is.py {d : D} (i : Is h d S f) : VI.py pyN h d = none := by
  rcases i with rfl | ⟨b, rfl, hb⟩
  · rfl
  · have hb : h.bs[b]? = some (.dct false (.t (S.map KV)) (S.map f)) := hb
    show (match h.bs[b]? with | some (.lst _ xs) => (mapO (VI.py _ h) xs).map PyData.list | _ => none) = none
    rw [hb]
theorem Is.dk {d : D} (i : Is h d S f) : isDk d h = true := by
  unfold isDk
  rw [i.dct]
  rfl
theorem look : ∀ S : List (List Int), lookK (S.map KV) (S.map f) (KV X) = if X ∈ S then some (f X) else none
  | [] => rfl
  | Y :: S => by
    rw [List.map_cons, List.map_cons, lookK, look S]
    by_cases q : Y = X
    · subst q; simp
    · have : ¬ KV Y = KV X := fun z => q (KV_inj z)
      rw [if_neg this]
      by_cases w : X ∈ S
      · rw [if_pos w, if_pos (List.mem_cons_of_mem _ w)]
      · rw [if_neg w, if_neg]
        intro z
        rcases List.mem_cons.mp z with z | z
        · exact q z.symm
        · exact w z
theorem Is.ix {d : D} (i : Is h d S f) (hX : X ∈ S) : ixX d (tI X) h = .ok (f X) h := by
  show (if isDk d h = true then dgetD d (tI X) h else ixD d (tI X) h) = _
  rw [if_pos i.dk]
  simp only [dgetD, i.dct, koD, kt_ok, Option.map_some, Ks.look, look, if_pos hX]
theorem keys_ok : keyDL (.t (S.map KV)) = S.map fun X => tI X := by
  show (S.map KV).map (fun k => D.tup (k.map keyV)) = _
  rw [List.map_map]
  refine List.map_congr_left fun X _ => ?_
  show D.tup ((X.map _).map keyV) = D.tup (X.map D.int)
  rw [List.map_map]
  rfl
theorem Is.list {d : D} (i : Is h d S f) (hl : S.length ≤ 1000) : listX false [d] h = .ok (lT S) h := by
  have sz : (1000 : Nat) ≤ sizeLine := by decide
  show (if isDk d h = true then dlistD false [d] h else listD false [d] h) = _
  rw [if_pos i.dk]
  simp only [dlistD, i.dct, keys_ok]
  rw [newL_f (by rw [List.length_map]; omega)]
theorem zip_ok : ∀ S : List (List Int), zipL (S.map fun X => tI X) (S.map f) = S.map fun X => D.tup [tI X, f X]
  | [] => rfl
  | X :: S => by rw [List.map_cons, List.map_cons, List.map_cons, zipL, zip_ok S]
theorem items_ok {s : SV} {ρ : Ev} (e : s ρ h = .ok (dT S f) h) : siD fP s ρ h = .ok (S.map fun X => D.tup [tI X, f X], none) h := by
  unfold siD
  rw [e, bind_ok]
  show R.ok (zipL (keyDL (.t (S.map KV))) (S.map f), none) h = _
  rw [keys_ok, zip_ok]
def ltP (X Y : List Int) : Prop := ∃ a b c d : Int, X = [a, b] ∧ Y = [c, d] ∧ (a < c ∨ (a = c ∧ b < d))
def eK (X : List Int) : VI.D × PyData := (tI X, .tuple (X.map .int))
theorem srt_id : ∀ S : List (List Int), S.Pairwise ltP → srtK (S.map eK) = S.map eK
  | [], _ => rfl
  | X :: S, hp => by
    obtain ⟨h1, h2⟩ := List.pairwise_cons.mp hp
    rw [List.map_cons, srtK, srt_id S h2]
    cases S with
    | nil => rfl
    | cons Y S =>
      obtain ⟨a, b, c, d, rfl, rfl, lt⟩ := h1 Y List.mem_cons_self
      rw [List.map_cons, insK]
      have : W.dataLt (eK [c, d]).2 (eK [a, b]).2 = false := by
        show W.dataLt (.tuple [.int c, .int d]) (.tuple [.int a, .int b]) = false
        rw [W.dataLt_ii]
        exact decide_eq_false (by omega)
      rw [this, if_neg (by simp)]
theorem adj_id : ∀ S : List (List Int), S.Pairwise ltP → adjOk (S.map eK) = true
  | [], _ => rfl
  | [_], _ => rfl
  | X :: Y :: S, hp => by
    obtain ⟨h1, h2⟩ := List.pairwise_cons.mp hp
    have ih := adj_id (Y :: S) h2
    obtain ⟨a, b, c, d, rfl, rfl, lt⟩ := h1 Y List.mem_cons_self
    rw [List.map_cons] at ih
    rw [List.map_cons, List.map_cons]
    simp only [adjOk, ih, Bool.and_true, Bool.or_eq_true]
    refine .inl ?_
    show W.dataLt (.tuple [.int a, .int b]) (.tuple [.int c, .int d]) = true
    rw [W.dataLt_ii]
    exact decide_eq_true lt
theorem py_keys : ∀ S : List (List Int), mapO (VI.py pyN h) (S.map fun X => tI X) = some (S.map fun X => PyData.tuple (X.map .int))
  | [] => rfl
  | X :: S => by
    have e1 : VI.py pyN h (tI X) = some (.tuple (X.map .int)) := py_tI X
    rw [List.map_cons, mapO, e1, py_keys S]
    rfl
theorem Is.sorted {d : D} (i : Is h d S f) (hS : S.Pairwise ltP) (h2 : ∀ X ∈ S, ∃ a b : Int, X = [a, b]) (hl : S.length ≤ 1000) : sortDX false [d] h = .ok (lT S) h := by
  have sz : (1000 : Nat) ≤ sizeLine := by decide
  show (if isDk d h = true then sortDd false [d] h else sortDS false [d] h) = _
  rw [if_pos i.dk]
  have z : (S.map fun X => tI X).zip (S.map fun X => PyData.tuple (X.map .int)) = S.map eK := by
    clear hS h2 hl i
    induction S with
    | nil => rfl
    | cons X S ih => rw [List.map_cons, List.map_cons, List.zip_cons_cons, ih]; rfl
  have c : canSort (S.map fun X => PyData.tuple (X.map .int)) = true := by
    unfold canSort
    have e1 : (S.map fun X => PyData.tuple (X.map .int)).all isT1 = true := by
      rw [List.all_map]
      refine List.all_eq_true.mpr fun X hX => ?_
      obtain ⟨a, b, rfl⟩ := h2 X hX
      rfl
    have e2 : (S.map fun X => PyData.tuple (X.map .int)).all (fits (.seq .i)) = true := by
      rw [List.all_map]
      refine List.all_eq_true.mpr fun X hX => ?_
      obtain ⟨a, b, rfl⟩ := h2 X hX
      rfl
    rw [e1, Bool.true_or, Bool.and_true]
    exact List.any_eq_true.mpr ⟨.seq .i, by simp [pats], e2⟩
  simp only [sortDd, i.dct, keys_ok, py_keys, z, srt_id S hS, adj_id S hS, c, Bool.and_self, if_true]
  rw [List.map_map, newL_f (by rw [List.length_map]; omega)]
  rfl
end
end VI.Dk
end
section
namespace PySem.W
open PySem PySem.Calls PyProof.Rows PySem.SeqAt
section
variable {prog : Program} {w : World} {A : Around} {s : Shared}
end
end PySem.W
namespace VI
open PySem PySem.Spec PyProof.Rows L2
section
variable {X : Cx} {T : Tb} {WW : WX} {μ μ' : Mu} {H H' : Hp} {h : Bs} {σ : Sg} {ρ : Ev} {pins : List (Addr × Obj)} {s : Shared}
end
end VI
end
section
namespace VI.Dk
open PySem PySem.Spec PyProof.Rows L2 VI VI.Std
open VI.Lay (lT)
section
variable {h : Bs} {A C S R : List (List Int)} {X Y : List Int} {f f' : List Int → D}
theorem frzDs_id {g : Nat → Option D} : ∀ l : List D, noDs l = true → frzDs g l = some l
  | [], _ => rfl
  | d :: l, e => by
    rw [noDs, Bool.and_eq_true] at e
    rw [frzDs, frzD_id g d e.1]
    simp only [frzDs_id l e.2]
def Fz (d : D) : Prop := ∀ g : Nat → Option D, frzD g d = some d
theorem fz_n {d : D} (e : noD d = true) : Fz d := fun g => frzD_id g d e
theorem fz_l : ∀ {l : List D}, (∀ d ∈ l, Fz d) → ∀ g, frzDs g l = some l
  | [], _, g => rfl
  | d :: l, e, g => by
    rw [frzDs, e d List.mem_cons_self g]
    simp only [fz_l (fun x hx => e x (List.mem_cons_of_mem _ hx)) g]
theorem Is.len {d : D} (i : Is h d S f) : lenX [d] h = .ok (.int S.length) h := by
  show (if isDk d h = true then dlenD [d] h else lenD [d] h) = _
  rw [if_pos i.dk]
  simp only [dlenD, i.dct, List.length_map]
def hD (B : List Bx) (fb : List Nat) (S : List (List Int)) (f : List Int → D) : Bs := ⟨B.length :: fb, B ++ [bT S f]⟩
theorem insK_eK (X : List Int) : ∀ Ys, ∃ Zs : List (List Int), insK (eK X) (Ys.map eK) = Zs.map eK ∧ Zs.Perm (X :: Ys)
  | [] => ⟨[X], rfl, .refl _⟩
  | Y :: Ys => by
    obtain ⟨Zs, e, p⟩ := insK_eK X Ys
    rw [List.map_cons]
    by_cases q : W.dataLt (eK Y).2 (eK X).2 = true
    · refine ⟨Y :: Zs, ?_, (p.cons Y).trans (.swap X Y Ys)⟩
      rw [insK, if_pos q, e]
      rfl
    · refine ⟨X :: Y :: Ys, ?_, .refl _⟩
      rw [insK, if_neg q]
      rfl
theorem srtK_eK : ∀ Xs : List (List Int), ∃ Zs : List (List Int), srtK (Xs.map eK) = Zs.map eK ∧ Zs.Perm Xs
  | [] => ⟨[], rfl, .refl _⟩
  | X :: Xs => by
    obtain ⟨Ys, e, p⟩ := srtK_eK Xs
    obtain ⟨Zs, e2, p2⟩ := insK_eK X Ys
    exact ⟨Zs, by rw [List.map_cons, srtK, e, e2], p2.trans (p.cons X)⟩
end
end VI.Dk
end
section
namespace VI.Mk
open PySem PySem.Spec PyProof.Rows L2 VI VI.Std VI.Fl
open VI.Lay (lT)
section
variable {K : PySem.W.Frag} {ct : Ct} {h : Bs} {A : List (List Int)} {X : List Int}
theorem noR_tI (X : List Int) : noR (tI X) = true := by
  have : ∀ l : List Int, noRs (l.map .int) = true := fun l => by
    induction l with
    | nil => rfl
    | cons x xs ih => simp [noRs, noR, ih]
  simp only [noR]; exact this X
theorem set_fld {c f : Nat} {fs : List Nat} {xs : List D} {v : D} (hfs : fs.length < 1000) (g3 : (tbC ct K).fok c f = true) (nr : noR v = true) : setF (tbC ct K) f (.ref h.bs.length) v (⟨(h.bs.length + 1) :: h.bs.length :: h.fbs, h.bs ++ [.obj c fs xs]⟩ : Bs) = .ok .non ⟨(h.bs.length + 1) :: h.bs.length :: h.fbs, h.bs ++ [.obj c (putN f fs) (putX f v fs xs)]⟩ := by
  have g1 : (h.bs ++ [Bx.obj c fs xs])[h.bs.length]? = some (.obj c fs xs) := by simp
  have g2 : okW (⟨(h.bs.length + 1) :: h.bs.length :: h.fbs, h.bs ++ [.obj c fs xs]⟩ : Bs) h.bs.length v = true := by
    show (decide (h.bs.length + 1 ≤ h.bs.length) || noR v) = true
    rw [nr, Bool.or_true]
  simp -implicitDefEqProofs only [setF, g1, g2, g3, Bool.and_self, Bool.true_and]
  rw [if_pos (decide_eq_true hfs)]
  simp
theorem make_end {c : Nat} {fs : List Nat} {xs : List D} {init : List D → Bs → R D} {ds : List D} (e2 : init (.ref h.bs.length :: ds) ⟨h.bs.length :: h.fbs, h.bs ++ [.obj c [] []]⟩ = .ok .non ⟨h.bs.length :: h.fbs, h.bs ++ [.obj c fs xs]⟩) (nd : ∀ d ∈ xs, VI.Dk.Fz d) : makeD c true init ds h = .ok (.obj c fs xs) h := by
  unfold makeD
  rw [e2]
  have f1 : frzR h.bs.length (h.bs ++ [.obj c fs xs]) 4 h.bs.length = some (.obj c fs xs) := by
    simp -implicitDefEqProofs only [frzR]
    rw [if_neg (by omega), List.getElem?_append_right (Nat.le_refl _), Nat.sub_self]
    simp -implicitDefEqProofs only [List.getElem?_cons_zero, VI.Dk.fz_l nd _]
  simp -implicitDefEqProofs only [f1, outB]
  simp
theorem init_end {np nn : Nat} {s : SS} {ds : List D} {c : Nat} {fs : List Nat} {xs : List D} {ρ : Ev} (hl : (D.ref h.bs.length :: ds).length = np) (hb : s (slots nn (.ref h.bs.length :: ds)) (⟨(h.bs.length + 1) :: h.bs.length :: h.fbs, h.bs ++ [.obj c [] []]⟩ : Bs) = .nx ρ ⟨(h.bs.length + 1) :: h.bs.length :: h.fbs, h.bs ++ [.obj c fs xs]⟩) : runFn np nn s (.ref h.bs.length :: ds) ⟨h.bs.length :: h.fbs, h.bs ++ [.obj c [] []]⟩ = .ok .non ⟨h.bs.length :: h.fbs, h.bs ++ [.obj c fs xs]⟩ := by
  have hi : inB (⟨h.bs.length :: h.fbs, h.bs ++ [.obj c [] []]⟩ : Bs) = ⟨(h.bs.length + 1) :: h.bs.length :: h.fbs, h.bs ++ [.obj c [] []]⟩ := by simp [inB]
  unfold runFn
  rw [if_pos hl, hi, hb]
  simp [finF, outB]
  exact List.take_of_length_le (by simp)
def Nr (d : D) (h hh : Bs) : Prop := ∀ j, d ≠ .ref j → hh.bs[j]? = h.bs[j]?
theorem Nr.tbl {d : D} {hh : Bs} {xs : List D} {t : Nat} (c : Chv h d xs) (n : Nr d h hh) {j : Nat} (e : h.bs[j]? = some (.tbl t)) : hh.bs[j]? = some (.tbl t) := by
  rw [n j ?_, e]
  rcases c with rfl | ⟨b, rfl, hb⟩
  · exact fun z => (nomatch z)
  · intro z
    cases z
    rw [hb] at e
    cases e
end
end VI.Mk
end
section
namespace VI
open PySem PySem.Spec PyProof.Rows L2
section
variable {X : Cx} {T : Tb} {W : WX} {μ μ' : Mu} {H H' : Hp} {h : Bs} {σ : Sg} {ρ : Ev} {ta tb tc td : TE}
variable {a b c d : Expr} {sa sb sc sd : SV} {pos : Pos}
variable {Z : Cfg} {t : Tx} {k : Nat} {N : List Str} {scp : Scope} {raw : Option Scope}
end
end VI
end
section
namespace VI
open PySem PySem.Spec PyProof.Rows L2
section
variable {X : Cx} {σ : Sg} {H : Hp} {s : Shared} {pins : List (Addr × Obj)}
end
section
variable {X : Cx} {T : Tb} {W : WX} {μ μ' : Mu} {H H' : Hp} {h : Bs} {σ : Sg} {ρ : Ev}
end
section
variable {Z : Cfg} {t : Tx} {k : Nat} {N : List Str} {sc : Scope} {raw : Option Scope} {X : Cx} {W : WX} {pos p : Pos} {a : Expr} {sa : SV} {x y : Str}
end
end VI
end
section
namespace VI
open PySem PySem.Spec PyProof.Rows L2
section
variable {X : Cx} {T : Tb} {W : WX} {μ μ' : Mu} {H H' : Hp} {h : Bs} {σ : Sg} {ρ : Ev} {p q p2 pos : Pos} {a : Expr} {sa : SV}
variable {Z : Cfg} {t : Tx} {k : Nat} {N : List Str} {sc : Scope} {raw : Option Scope}
end
end VI
end
section
namespace VI.Q
open PySem PySem.Spec PyProof.Rows L2 VI VI.Std VI.Fl
open VI.Lay (lT)
open VI.Dk (eK)
section
variable {h : Bs} {n b k : Nat} {X Y : List Int} {R P : List (List Int)} {ρ : Ev} {d : D}
def nt (X : List Int) (k : Nat) : Int := X.getD k 0
theorem nt_get (hk : k < X.length) : nt X k = X[k] := by
  unfold nt
  rw [List.getD_eq_getElem?_getD, List.getElem?_eq_getElem hk]
  rfl
theorem at_nt (hk : k < X.length) : (X.map D.int)[k]? = some (.int (nt X k)) := by
  rw [List.getElem?_map, List.getElem?_eq_getElem hk, nt_get hk]
  rfl
def IsS (d : D) (X : List Int) : Prop := d = pI X ∨ d = tI X ∨ d = lI X
theorem IsS.seq (i : IsS d X) : seqOf h d = some (X.map .int) := by rcases i with rfl | rfl | rfl <;> rfl
theorem IsS.it (i : IsS d X) : itSeq d h = .ok (X.map .int, none) h := by rcases i with rfl | rfl | rfl <;> rfl
theorem IsS.len (i : IsS d X) : lenD [d] h = .ok (.int X.length) h := by
  rcases i with rfl | rfl | rfl <;> simp only [lenD, seqOf, lstOf, List.length_map]
theorem IsS.sum (i : IsS d X) : sumD [d] h = .ok (.int X.sum) h := by
  rcases i with rfl | rfl | rfl <;> simp only [sumD, seqOf, lstOf, intsD_map]
theorem IsS.max (i : IsS d X) (hX : X ≠ []) : maxD [d] h = .ok (.int (maxI X)) h := by
  match X, hX with
  | x :: xs, _ => rcases i with rfl | rfl | rfl <;> simp only [maxD, mmD, seqOf, lstOf, intsD_map] <;> rfl
theorem IsS.min (i : IsS d X) (hX : X ≠ []) : minDS [d] h = .ok (.int (minI X)) h := by
  match X, hX with
  | x :: xs, _ => rcases i with rfl | rfl | rfl <;> simp only [minDS, minD, mmD, seqOf, lstOf, intsD_map] <;> rfl
theorem IsS.ix (i : IsS d X) (hk : k < X.length) : ixD d (.int k) h = .ok (.int (nt X k)) h := by
  simp only [ixD, i.seq (h := h)]
  rw [atI_get (at_nt hk)]
theorem IsS.lst (i : IsS d X) (hl : X.length ≤ 1000) : listD false [d] h = .ok (lI X) h := by
  have sz : (1000 : Nat) ≤ sizeLine := by decide
  rcases i with rfl | rfl | rfl <;> exact newL_f (by rw [List.length_map]; omega)
theorem tIs : IsS (tI X) X := .inr (.inl rfl)
def IsR (d : D) (R : List (List Int)) : Prop := d = lT R ∨ d = .tup (R.map fun X => tI X)
theorem IsR.seq (i : IsR d R) : seqOf h d = some (R.map fun X => tI X) := by rcases i with rfl | rfl <;> rfl
theorem IsR.it (i : IsR d R) : itSeq d h = .ok (R.map fun X => tI X, none) h := by rcases i with rfl | rfl <;> rfl
theorem IsR.len (i : IsR d R) : lenD [d] h = .ok (.int R.length) h := by
  rcases i with rfl | rfl <;> simp only [lenD, seqOf, lstOf, List.length_map]
theorem at_row (hk : k < R.length) : (R.map fun X => tI X)[k]? = some (tI (R.getD k [])) := by
  rw [List.getElem?_map, List.getElem?_eq_getElem hk, List.getD_eq_getElem?_getD, List.getElem?_eq_getElem hk]
  rfl
theorem IsR.ix (i : IsR d R) (hk : k < R.length) : ixD d (.int k) h = .ok (tI (R.getD k [])) h := by
  simp only [ixD, i.seq (h := h)]
  rw [atI_get (at_row hk)]
theorem enum_map {α : Type} (E : α → D) : ∀ (l : List α) (k : Nat), enumL k (l.map E) = (l.zipIdx k).map fun p => D.tup [.int p.2, E p.1]
  | [], _ => rfl
  | x :: l, k => by
    have := enum_map E l (k + 1)
    rw [List.map_cons, enumL, this]
    rfl
theorem mem_zipIdx {α : Type} {l : List α} {p : α × Nat} (hp : p ∈ l.zipIdx) : ∃ h : p.2 < l.length, p.1 = l[p.2] := by
  obtain ⟨x, i⟩ := p
  have := List.mem_zipIdx hp
  exact ⟨by omega, by simpa using this.2.2⟩
def b1 (q : Bs) (xs : List D) : Bs := ⟨q.fbs, q.bs ++ [.lst false xs]⟩
def b2 (q : Bs) (xs ys : List D) : Bs := ⟨q.fbs, q.bs ++ [.lst false xs, .lst false ys]⟩
variable {xs ys : List D} {v : D}
theorem b1_at : (b1 h xs).bs[h.bs.length]? = some (.lst false xs) := by unfold b1; simp
theorem b2_0 : (b2 h xs ys).bs[h.bs.length]? = some (.lst false xs) := by unfold b2; simp
theorem b2_1 : (b2 h xs ys).bs[h.bs.length + 1]? = some (.lst false ys) := by
  unfold b2
  show (h.bs ++ [Bx.lst false xs, Bx.lst false ys])[h.bs.length + 1]? = _
  rw [List.getElem?_append_right (by omega), show h.bs.length + 1 - h.bs.length = 1 by omega]
  rfl
theorem b1_b1 : b1 (b1 h xs) ys = b2 h xs ys := by unfold b1 b2; simp
theorem b1_len : (b1 h xs).bs.length = h.bs.length + 1 := by unfold b1; simp
theorem okW_n (e : noR v = true) : okW h b v = true := by
  unfold okW
  split
  · rfl
  · rw [e, Bool.or_true]
theorem okWs_n (e : noRs xs = true) : okWs h b xs = true := by
  unfold okWs
  split
  · rfl
  · rw [e, Bool.or_true]
theorem noRs_ints {X : List Int} : noRs (X.map .int) = true := by
  induction X with
  | nil => rfl
  | cons x xs ih => rw [List.map_cons, noRs, ih]; rfl
theorem app_at (e : h.bs[b]? = some (.lst false xs)) (hl : xs.length ≤ 10000) (nr : noR v = true) : appD (.ref b) [v] h = .ok .non (putL b (xs ++ [v]) h) := by
  have sz : (10000 : Nat) < sizeLine := by decide
  have e3 : decide (xs.length < sizeLine) = true := decide_eq_true (by omega)
  simp only [appD, e, okW_n nr, e3, Bool.and_self, if_true]
theorem ext_at (e : h.bs[b]? = some (.lst false xs)) (hs : lstS h d = some ys) (hl : xs.length + ys.length ≤ 10000) (nr : noRs ys = true) : extD (.ref b) [d] h = .ok .non (putL b (xs ++ ys) h) := by
  have sz : (10000 : Nat) ≤ sizeLine := by decide
  have e3 : decide (xs.length + ys.length ≤ sizeLine) = true := decide_eq_true (by omega)
  simp only [extD, e, hs, okWs_n nr, e3, Bool.and_self, if_true]
theorem lst_at' (e : h.bs[b]? = some (.lst false xs)) : (lstOf h (.ref b)).isSome = true := by simp only [lstOf, e]; rfl
theorem b1_put : putL h.bs.length ys (b1 h xs) = b1 h ys := by unfold putL b1; simp
theorem b2_put0 {zs : List D} : putL h.bs.length zs (b2 h xs ys) = b2 h zs ys := by unfold putL b2; simp
theorem b2_put1 {zs : List D} : putL (h.bs.length + 1) zs (b2 h xs ys) = b2 h xs zs := by unfold putL b2; simp
theorem new_box (hl : xs.length ≤ 10000) : newL true xs h = .ok (.ref h.bs.length) (b1 h xs) := by
  have sz : (10000 : Nat) ≤ sizeLine := by decide
  rw [newL_t' (by omega)]
  rfl
theorem lst_box {sa : SA} (e : sa ρ h = .ok xs h) (hl : xs.length ≤ 10000) : sLst true sa ρ h = .ok (.ref h.bs.length) (b1 h xs) := by
  unfold sLst
  rw [e, bind_ok]
  exact new_box hl
theorem two_new : (sTup (saCons (sLst true saNil) (saCons (sLst true saNil) saNil))) ρ h = .ok (.tup [.ref h.bs.length, .ref (h.bs.length + 1)]) (b2 h [] []) := by
  refine tup_ok (xs := [.ref h.bs.length, .ref (h.bs.length + 1)]) (cons_ok (lst_box rfl (Nat.zero_le _)) (cons_ok ((lst_box rfl (Nat.zero_le _)).trans ?_) rfl)) two_le
  rw [b1_len, b1_b1]
theorem take_b2 : (b2 (inB h) xs ys).bs.take h.bs.length = h.bs := by show (h.bs ++ _).take _ = _; simp
theorem run_box {np nl : Nat} {s : SS} {ds : List D} {hh : Bs} {b : Nat} (hl : ds.length = np) (hs : s (slots nl ds) (inB h) = .rt (.ref b) hh) (hp : hh.bs.take h.bs.length = h.bs) (hb : h.bs.length ≤ b) (e : hh.bs[b]? = some (.lst false xs)) (nd : noDs xs = true) : runFn np nl s ds h = .ok (.lst xs) h := by
  have fz : frzR h.bs.length hh.bs 4 b = some (.lst xs) := by
    simp -implicitDefEqProofs only [frzR]
    rw [if_neg (by omega), e]
    simp -implicitDefEqProofs only [VI.Dk.frzDs_id _ nd]
  unfold runFn
  rw [if_pos hl, hs]
  simp only [finF, frzD, fz, Fl.take_end hp]
theorem ne_bl {a : Bool} : eqD true (.bl a) (.bl a) h = .ok (.bl false) h := by cases a <;> rfl
noncomputable def srtE (Xs : List (List Int)) : List (List Int) := (VI.Dk.srtK_eK Xs).choose
theorem srtE_eq (Xs : List (List Int)) : srtK (Xs.map eK) = (srtE Xs).map eK := (VI.Dk.srtK_eK Xs).choose_spec.1
theorem srtE_perm (Xs : List (List Int)) : (srtE Xs).Perm Xs := (VI.Dk.srtK_eK Xs).choose_spec.2
theorem srtE_so (Xs : List (List Int)) : ((srtE Xs).map eK).Pairwise (fun a b => leK a b = true) := by
  rw [← srtE_eq]; exact srtK_sorted _
end
end VI.Q
end
section
namespace VI.Fl.G
open PySem PySem.Spec PyProof.Rows L2 VI VI.Std
open VI.Lay (itD ItOk LayT LayOk oL rgI sets oth lT lt_ok ge_ok fld0 fld1 lenTI stG stG_at stG_new stG_app stG_end fil_emb)
structure Itw (n : Nat) (its : List Im) : Prop where
  nd : ∀ i ∈ its, i.1.Nodup
  rg : ∀ i ∈ its, ∀ x ∈ i.1, 0 ≤ x ∧ x < n
  low : ∀ i ∈ its, 0 ≤ i.2
  top : ∀ i ∈ its, i.2 ≤ 900
def bfs (its : List Im) (C : List (List Int)) (L : Int → Int) : Nat → St → Option (Option (Mp × Int))
  | 0, _ => none
  | _ + 1, (_, []) => some none
  | f + 1, (M, sv :: Q) => if (ld C sv : Int) < L sv then some (some (M, sv)) else bfs its C L f (scan its C sv (M, Q))
structure Wk_ (its : List Im) (C : List (List Int)) (L : Int → Int) (st : Int) (n : Nat) (P : List Int) (s : St) : Prop where
  par : ParM its C st s.1
  keys : ks s.1 = P ++ s.2
  full : ∀ p ∈ P, L p ≤ (ld C p : Int)
  cov : ∀ p ∈ P, Cov its C p (ks s.1)
theorem start_ok {its : List Im} {C : List (List Int)} {L : Int → Int} {st : Int} {n : Nat} : Wk_ its C L st n [] ([(st, none)], [st]) := ⟨.one, rfl, fun _ z => (nomatch z), fun _ z => (nomatch z)⟩
def path (its : List Im) (C : List (List Int)) (L : Int → Int) (st : Int) : Option (Mp × Int) := (bfs its C L 1000 ([(st, none)], [st])).getD none
def wom (its : List Im) (C : List (List Int)) (j : Nat) (L : Int → Int) : Option (List (List Int)) := (its.getD j d0).1.findSome? fun s => if s ∈ C.getD j [] then none else (path its C L s).map fun p => more C j s (stp p.1 1000 p.2)
def grow (its : List Im) (L : Int → Int) (j : Nat) : Nat → List (List Int) → List (List Int)
  | 0, C => C
  | f + 1, C => if ((C.getD j []).length : Int) < (its.getD j d0).2 then match wom its C j L with
    | some C' => grow its L j f C'
    | none => C
    else C
def fillA (its : List Im) (L : Int → Int) : Nat → Nat → List (List Int) → List (List Int)
  | 0, _, C => C
  | m + 1, a, C => fillA its L m (a + 1) (grow its L a 900 C)
def fill (its : List Im) (L : Int → Int) : List (List Int) := fillA its L its.length 0 (its.map fun _ => [])
structure Tgt (n : Nat) (its : List Im) (L : Int → Int) (a : Nat) (C : List (List Int)) (V : Int → Prop) : Prop where
  clo : ∀ p, V p → ∀ k < its.length, p ∈ C.getD k [] → ∀ x ∈ (its.getD k d0).1, x ∉ C.getD k [] → V x
  lim : ∀ p, V p → L p ≤ (ld C p : Int)
  cov : ∀ k < a, k < its.length → ((C.getD k []).length : Int) < (its.getD k d0).2 → ∀ x ∈ (its.getD k d0).1, x ∉ C.getD k [] → V x
theorem Tgt.out {n : Nat} {its : List Im} {L : Int → Int} {a : Nat} {C : List (List Int)} {V : Int → Prop} (T : Tgt n its L a C V) : ∀ (l : List Sp) (e st : Int), ¬ V e → Lnk l e st → (∀ s ∈ l, OkS its C s.1 s.2.1 s.2.2) → ¬ V st ∧ ∀ s ∈ l, ¬ V s.2.1 ∧ ¬ V s.2.2
  | [], e, st, he, hl, _ => ⟨fun z => he (by rw [show e = st from hl]; exact z), fun _ z => (nomatch z)⟩
  | (i, o, t) :: l, e, st, he, hl, ok => by
    obtain ⟨h1, h2⟩ := hl
    obtain ⟨k1, k2, k3, k4⟩ := ok _ List.mem_cons_self
    have ht : ¬ V t := fun z => he (by rw [show e = t from h1]; exact z)
    have ho : ¬ V o := fun z => ht (T.clo o z i k1 k2 t k4 k3)
    obtain ⟨r1, r2⟩ := T.out l o st ho h2 fun s hs => ok s (List.mem_cons_of_mem _ hs)
    refine ⟨r1, fun s hs => ?_⟩
    rcases List.mem_cons.mp hs with z | z
    · rw [z]; exact ⟨ho, ht⟩
    · exact r2 s z
end VI.Fl.G
end
section
namespace VI.Fl.G
open PySem PySem.Spec PyProof.Rows L2 VI VI.Std
open VI.Lay (itD ItOk LayT LayOk oL rgI sets oth lT lt_ok ge_ok fld0 fld1 lenTI stG stG_at stG_new stG_app stG_end fil_emb)
section
variable {K : PySem.W.Frag} {ct : Ct} {h : Bs} {n : Nat} {its : List Im} {C : List (List Int)} {L : Int → Int} {st : Int} {o : D}
structure Ob (T : Tb) (o : D) (n : Nat) (its : List Im) : Prop where
  f0 : ∀ h, fldD T 0 o h = .ok (.int n) h
  f1 : ∀ h, fldD T 1 o h = .ok (.tup (its.map itD)) h
end
end VI.Fl.G
end
section
namespace VI
open PySem PySem.Spec PyProof.Rows L2
def fitL : PyData → Bool
  | .list xs => xs.all isI1
  | _ => false
def canSortL (ps : List PyData) : Bool := ps.all fitL
section
variable {X : Cx} {T : Tb} {WW : WX} {μ μ' : Mu} {H H' : Hp} {h : Bs} {σ : Sg} {ρ : Ev} {pins : List (Addr × Obj)} {s : Shared}
def sortL (bx : Bool) (ds : List D) (h : Bs) : R D := match ds with
  | [d] => (match seqOf h d with
    | some xs => (match mapO (py pyN h) xs with
      | some ps => if canSortL ps && adjOk (srtK (xs.zip ps)) then newL bx ((srtK (xs.zip ps)).map (·.1)) h else .no
      | none => .no)
    | none => .no)
  | _ => .no
end
def sortMS (bx : Bool) (ds : List D) (h : Bs) : R D := match sortDS bx ds h with
  | .no => sortL bx ds h
  | r => r
end VI
end
section
namespace VI.Ec
open PySem PySem.Spec PyProof.Rows L2 VI VI.Std
section
variable {β : Type} [DecidableEq β] {m : Nat} {T H : Nat → β} {c : Nat → Int} {h t : β} {a b : Int} {l p : List Nat} {s : Bool} {e : Nat}
def Pro (m : Nat) (X : Nat → β) (c : Nat → Int) : Prop := ∀ i j, i < m → j < m → X i = X j → c i = c j → i = j
def fnd (m : Nat) (X : Nat → β) (c : Nat → Int) (v : β) (k : Int) : List Nat := (List.range m).filter fun i => decide (X i = v) && decide (c i = k)
theorem mem_fnd {X : Nat → β} {v : β} {k : Int} : e ∈ fnd m X c v k ↔ e < m ∧ X e = v ∧ c e = k := by
  unfold fnd
  rw [List.mem_filter, List.mem_range, Bool.and_eq_true, decide_eq_true_eq, decide_eq_true_eq]
def pth (m : Nat) (T H : Nat → β) (c : Nat → Int) (a b : Int) : Nat → List Nat → Bool → List Nat
  | 0, _, _ => []
  | _ + 1, [], _ => []
  | f + 1, e :: _, true => e :: pth m T H c a b f (fnd m T c (T e) b) false
  | f + 1, e :: _, false => e :: pth m T H c a b f (fnd m H c (H e) a) true
inductive Chn (m : Nat) (T H : Nat → β) (c : Nat → Int) (h : β) (a b : Int) : List Nat → Bool → Prop
  | nil : Chn m T H c h a b [] true
  | fst {e : Nat} : e < m → c e = a → H e = h → Chn m T H c h a b [e] false
  | stB {l : List Nat} {e e' : Nat} : Chn m T H c h a b (e' :: l) false → e < m → c e = b → T e = T e' → Chn m T H c h a b (e :: e' :: l) true
  | stA {l : List Nat} {e e' : Nat} : Chn m T H c h a b (e' :: l) true → e < m → c e = a → H e = H e' → Chn m T H c h a b (e :: e' :: l) false
theorem Chn.col (C : Chn m T H c h a b l s) : ∀ x ∈ l, x < m ∧ (c x = a ∨ c x = b) := by
  induction C with
  | nil => exact fun x hx => by cases hx
  | fst h1 h2 h3 => exact fun x hx => by rw [List.mem_singleton.mp hx]; exact ⟨h1, .inl h2⟩
  | stB C h1 h2 h3 ih =>
    intro x hx
    rcases List.mem_cons.mp hx with rfl | hx
    · exact ⟨h1, .inr h2⟩
    · exact ih x hx
  | stA C h1 h2 h3 ih =>
    intro x hx
    rcases List.mem_cons.mp hx with rfl | hx
    · exact ⟨h1, .inl h2⟩
    · exact ih x hx
theorem Chn.hdA (C : Chn m T H c h a b (e :: l) false) : c e = a ∧ e < m := by
  cases C with
  | fst h1 h2 h3 => exact ⟨h2, h1⟩
  | stA C h1 h2 h3 => exact ⟨h2, h1⟩
theorem Chn.hdB (C : Chn m T H c h a b (e :: l) true) : c e = b ∧ e < m := by
  cases C with
  | stB C h1 h2 h3 => exact ⟨h2, h1⟩
theorem Chn.pred (ab : a ≠ b) (C : Chn m T H c h a b l s) : ∀ x ∈ l, (c x = b → ∃ y ∈ l, c y = a ∧ T y = T x) ∧ (c x = a → H x = h ∨ ∃ y ∈ l, c y = b ∧ H y = H x) := by
  induction C with
  | nil => exact fun x hx => by cases hx
  | fst h1 h2 h3 =>
    intro x hx
    rw [List.mem_singleton.mp hx]
    exact ⟨fun z => absurd (h2.symm.trans z) ab, fun _ => .inl h3⟩
  | stB C h1 h2 h3 ih =>
    rename_i l e e'
    intro x hx
    rcases List.mem_cons.mp hx with rfl | hx
    · exact ⟨fun _ => ⟨e', List.mem_cons_of_mem _ List.mem_cons_self, C.hdA.1, h3.symm⟩, fun z => absurd (z.symm.trans h2) ab⟩
    · obtain ⟨i1, i2⟩ := ih x hx
      refine ⟨fun z => ?_, fun z => ?_⟩
      · obtain ⟨y, y1, y2⟩ := i1 z
        exact ⟨y, List.mem_cons_of_mem _ y1, y2⟩
      · rcases i2 z with w | ⟨y, y1, y2⟩
        · exact .inl w
        · exact .inr ⟨y, List.mem_cons_of_mem _ y1, y2⟩
  | stA C h1 h2 h3 ih =>
    rename_i l e e'
    intro x hx
    rcases List.mem_cons.mp hx with rfl | hx
    · exact ⟨fun z => absurd (h2.symm.trans z) ab, fun _ => .inr ⟨e', List.mem_cons_of_mem _ List.mem_cons_self, C.hdB.1, h3.symm⟩⟩
    · obtain ⟨i1, i2⟩ := ih x hx
      refine ⟨fun z => ?_, fun z => ?_⟩
      · obtain ⟨y, y1, y2⟩ := i1 z
        exact ⟨y, List.mem_cons_of_mem _ y1, y2⟩
      · rcases i2 z with w | ⟨y, y1, y2⟩
        · exact .inl w
        · exact .inr ⟨y, List.mem_cons_of_mem _ y1, y2⟩
theorem Chn.tail {e' : Nat} (C : Chn m T H c h a b (e :: e' :: l) s) : Chn m T H c h a b (e' :: l) (!s) := by
  cases C with
  | stB C _ _ _ => exact C
  | stA C _ _ _ => exact C
theorem Chn.rest (C : Chn m T H c h a b (e :: l) s) : Chn m T H c h a b l (!s) := by
  cases C with
  | fst _ _ _ => exact .nil
  | stB C _ _ _ => exact C
  | stA C _ _ _ => exact C
theorem Chn.nodup (ab : a ≠ b) (pT : Pro m T c) (pH : Pro m H c) (fb : ∀ i < m, H i = h → c i ≠ b) (C : Chn m T H c h a b l s) : l.Nodup := by
  induction C with
  | nil => exact List.nodup_nil
  | fst _ _ _ => simp
  | stB C h1 h2 h3 ih =>
    rename_i l e e'
    refine List.nodup_cons.mpr ⟨fun z => ?_, ih⟩
    obtain ⟨n1, n2⟩ := List.nodup_cons.mp ih
    have hA := C.hdA
    rcases List.mem_cons.mp z with rfl | z
    · exact ab (hA.1.symm.trans h2)
    · have C' := C.rest
      obtain ⟨y, y1, y2, y3⟩ := (C'.pred ab e z).1 h2
      have := pT y e' (C'.col y y1).1 hA.2 (y3.trans h3) (y2.trans hA.1.symm)
      subst this
      exact n1 y1
  | stA C h1 h2 h3 ih =>
    rename_i l e e'
    refine List.nodup_cons.mpr ⟨fun z => ?_, ih⟩
    obtain ⟨n1, n2⟩ := List.nodup_cons.mp ih
    have hB := C.hdB
    rcases List.mem_cons.mp z with rfl | z
    · exact ab (h2.symm.trans hB.1)
    · have C' := C.rest
      rcases (C'.pred ab e z).2 h2 with w | ⟨y, y1, y2, y3⟩
      · exact fb e' hB.2 (h3.symm.trans w) hB.1
      · have := pH y e' (C'.col y y1).1 hB.2 (y3.trans h3) (y2.trans hB.1.symm)
        subst this
        exact n1 y1
def nx (m : Nat) (T H : Nat → β) (c : Nat → Int) (h : β) (a b : Int) : List Nat → Bool → List Nat
  | [], _ => fnd m H c h a
  | e :: _, true => fnd m H c (H e) a
  | e :: _, false => fnd m T c (T e) b
theorem Chn.grow (C : Chn m T H c h a b l s) (he : e ∈ nx m T H c h a b l s) : Chn m T H c h a b (e :: l) (!s) := by
  cases l with
  | nil =>
    cases C
    obtain ⟨h1, h2, h3⟩ := mem_fnd.mp he
    exact .fst h1 h3 h2
  | cons e' l =>
    cases s with
    | true =>
      obtain ⟨h1, h2, h3⟩ := mem_fnd.mp he
      exact .stA C h1 h3 h2
    | false =>
      obtain ⟨h1, h2, h3⟩ := mem_fnd.mp he
      exact .stB C h1 h3 h2
theorem Chn.first (pH : Pro m H c) (C : Chn m T H c h a b l s) : ∀ y < m, c y = a → H y = h → y ∈ l ∨ y ∈ nx m T H c h a b l s := by
  have key : l ≠ [] → ∃ e ∈ l, e < m ∧ c e = a ∧ H e = h := by
    induction C with
    | nil => exact fun z => absurd rfl z
    | fst h1 h2 h3 => exact fun _ => ⟨_, List.mem_cons_self, h1, h2, h3⟩
    | stB C _ _ _ ih =>
      intro _
      obtain ⟨e, z1, z2⟩ := ih (by simp)
      exact ⟨e, List.mem_cons_of_mem _ z1, z2⟩
    | stA C _ _ _ ih =>
      intro _
      obtain ⟨e, z1, z2⟩ := ih (by simp)
      exact ⟨e, List.mem_cons_of_mem _ z1, z2⟩
  intro y hy hc hh
  cases l with
  | nil => exact .inr (mem_fnd.mpr ⟨hy, hh, hc⟩)
  | cons e' l =>
    obtain ⟨e, z1, z2, z3, z4⟩ := key (by simp)
    have := pH y e hy z2 (hh.trans z4.symm) (hc.trans z3.symm)
    subst this
    exact .inl z1
def sw (a b x : Int) : Int := if x = a then b else a
def swp (p : List Nat) (a b : Int) (c : Nat → Int) (i : Nat) : Int := if i ∈ p then sw a b (c i) else c i
structure Pa (m : Nat) (T H : Nat → β) (c : Nat → Int) (h t : β) (a b : Int) (p : List Nat) : Prop where
  col : ∀ x ∈ p, x < m ∧ (c x = a ∨ c x = b)
  cl : ∀ x ∈ p, ∀ y < m, (c y = a ∨ c y = b) → (T y = T x ∨ H y = H x) → y ∈ p
  fst : ∀ y < m, c y = a → H y = h → y ∈ p
  tl : ∀ x ∈ p, T x ≠ t
  nd : p.Nodup
end
end VI.Ec
end
section
namespace VI.Ec
open PySem PySem.Spec PyProof.Rows L2 VI VI.Std
section
variable {β : Type} [DecidableEq β] {Ts Hs X : List β} {c u : List Int} {h t v : β} {a b k : Int}
theorem nd_le : ∀ {l u : List Int}, l.Nodup → (∀ x ∈ l, x ∈ u) → l.length ≤ u.length
  | [], u, _, _ => Nat.zero_le _
  | x :: l, u, nd, hs => by
    obtain ⟨n1, n2⟩ := List.nodup_cons.mp nd
    have hx := hs x List.mem_cons_self
    have := nd_le (l := l) (u := u.erase x) n2 fun y hy => (List.mem_erase_of_ne fun z => n1 (by rw [← z]; exact hy)).mpr (hs y (List.mem_cons_of_mem _ hy))
    rw [List.length_erase_of_mem hx] at this
    have : 0 < u.length := List.length_pos_of_mem hx
    rw [List.length_cons]
    omega
def mexA : Nat → Nat → List Int → Nat
  | 0, k, _ => k
  | f + 1, k, u => if (k : Int) ∈ u then mexA f (k + 1) u else k
def mex (u : List Int) : Nat := mexA (u.length + 1) 0 u
def usd (c : List Int) (X : List β) (v : β) : List Int := ((c.zip X).filter fun z => decide (z.2 = v)).map (·.1)
def nc (c : List Int) (i : Nat) : Int := c.getD i 0
def ndX (X : List β) : Nat → Option β := fun i => X[i]?
def path (Ts Hs : List β) (c : List Int) (h : β) (a b : Int) : List Nat := pth c.length (ndX Ts) (ndX Hs) (nc c) a b (c.length + 1) (fnd c.length (ndX Hs) (nc c) (some h) a) true
def swl (p : List Nat) (a b : Int) (c : List Int) : List Int := (List.range c.length).map (swp p a b (nc c))
def mid (Ts Hs : List β) (c : List Int) (h : β) (a b : Int) : List Int := if a = b then c else swl (path Ts Hs c h a b) a b c
def ext (Ts Hs : List β) (c : List Int) (t h : β) : List Int := mid Ts Hs c h (mex (usd c Ts t)) (mex (usd c Hs h)) ++ [(mex (usd c Ts t) : Int)]
theorem Pro.congr {m : Nat} {γ : Type} {Y : Nat → γ} {f g : Nat → Int} (e : ∀ i < m, f i = g i) (p : Pro m Y f) : Pro m Y g := fun i j hi hj a b => p i j hi hj a (by rw [e i hi, e j hj]; exact b)
theorem Pro.more {m : Nat} {γ : Type} {Y : Nat → γ} {f : Nat → Int} (p : Pro m Y f) (fr : ∀ i < m, Y i = Y m → f i ≠ f m) : Pro (m + 1) Y f := fun i j hi hj e ec => by
  by_cases q : i = m <;> by_cases w : j = m
  · rw [q, w]
  · subst q
    exact absurd ec.symm (fr j (by omega) e.symm)
  · subst w
    exact absurd ec (fr i (by omega) e)
  · exact p i j (by omega) (by omega) e ec
structure Good (Ts Hs : List β) (Δ : Nat) (c : List Int) : Prop where
  pT : Pro c.length (ndX Ts) (nc c)
  pH : Pro c.length (ndX Hs) (nc c)
  lo : ∀ x ∈ c, 0 ≤ x ∧ x < Δ
end
end VI.Ec
end
section
namespace VI.Ec
open PySem PySem.Spec PyProof.Rows L2 VI VI.Std
open VI.Fl (Chv)
section
variable {β : Type} [DecidableEq β] {K : PySem.W.Frag} {ct : Ct} {g h : Bs} {ρ : Ev} {Ts Hs X : List β} {c u : List Int} {hd t v : β} {a b k : Int} {p l : List Nat} {E : β → D}
structure Emb (E : β → D) : Prop where
  eq : ∀ (a b : β) (neg : Bool) (h : Bs), eqD neg (E a) (E b) h = .ok (.bl (if neg then !decide (a = b) else decide (a = b))) h
  nr : ∀ a, noR (E a) = true
end
end VI.Ec
end
section
namespace VI.Ec
open PySem PySem.Spec PyProof.Rows L2 VI VI.Std
open VI.Fl (Chv)
section
variable {γ : Type} [DecidableEq γ] {m : Nat} {T H : Nat → γ} {f : Nat → Int} {h0 t0 : γ} {a b : Int} {l : List Nat} {s : Bool}
def lst (m : Nat) (T H : Nat → γ) (f : Nat → Int) (a b : Int) : Nat → List Nat → Bool → List Nat
  | 0, l, _ => l
  | _ + 1, [], _ => []
  | n + 1, e :: _, true => lst m T H f a b n (fnd m T f (T e) b) false
  | n + 1, e :: _, false => lst m T H f a b n (fnd m H f (H e) a) true
end
section
variable {β : Type} [DecidableEq β] {K : PySem.W.Frag} {ct : Ct} {g h hh : Bs} {ρ : Ev} {Ts Hs X : List β} {c u : List Int} {hd t v : β} {a b k : Int} {p l : List Nat} {E : β → D}
def stp (c : List Int) (a b : Int) (w : List Int) (i : Nat) : List Int := w.set i (sw a b (nc c i))
theorem stp_len : ∀ (p : List Nat) (w : List Int), (p.foldl (stp c a b) w).length = w.length
  | [], w => rfl
  | i :: p, w => by rw [List.foldl_cons, stp_len p, stp, List.length_set]
def hL (g : Bs) (xs ys : List D) : Bs := ⟨g.fbs, g.bs ++ [.lst true xs, .lst false ys]⟩
end
end VI.Ec
end
section
namespace VI.Ec
open PySem PySem.Spec PyProof.Rows L2 VI VI.Std
open VI.Fl (Chv)
section
variable {β : Type} [DecidableEq β] {K : PySem.W.Frag} {ct : Ct} {g h hh : Bs} {ρ : Ev} {Ts Hs X : List β} {c u : List Int} {hd t v : β} {a b k : Int} {p l : List Nat} {E : β → D}
end
end VI.Ec
end
section
namespace VI.Ec
open PySem PySem.Spec PyProof.Rows L2 VI VI.Std VI.Fl
open VI.Lay (itD rgI lenTI)
section
variable {n L : Nat} {E : List Im} {C D : List (List Int)} {V S : List Int}
structure One (n : Nat) (E : List Im) : Prop where
  nd : ∀ i ∈ E, i.1.Nodup
  rg : ∀ i ∈ E, ∀ x ∈ i.1, 0 ≤ x ∧ x < n
  one : ∀ i ∈ E, i.2 = 1
  ne : ∀ i ∈ E, i.1 ≠ []
structure Chs (E : List Im) (S : List Int) : Prop where
  len : S.length = E.length
  mem : ∀ k < E.length, S.getD k 0 ∈ (E.getD k d0).1
abbrev fl (E : List Im) (L : Nat) : List (List Int) := G.fill E (fun _ => (L : Int))
def cs (E : List Im) (L : Nat) : List (List Int) := if L = 0 then E.map fun _ => [] else fl E L
noncomputable def limA (E : List Im) : Nat → Nat → Nat
  | 0, L => L
  | f + 1, L => if [] ∈ cs E L then limA E f (L + 1) else L
noncomputable def lim (E : List Im) : Nat := limA E E.length 0
end
end VI.Ec
end
section
namespace VI.Ec
open PySem PySem.Spec PyProof.Rows L2 VI VI.Std VI.Fl
open VI.Lay (itD rgI lenTI lT)
section
variable {K : PySem.W.Frag} {ct : Ct} {h : Bs} {n L : Nat} {E : List Im} {C : List (List Int)} {V S : List Int} {o : D}
end
end VI.Ec
end
section
namespace VI.Ec
open PySem PySem.Spec PyProof.Rows L2 VI VI.Std VI.Fl
open VI.Lay (itD rgI lenTI lT)
section
variable {K : PySem.W.Frag} {ct : Ct} {h : Bs} {ρ : Ev} {A C : List (List Int)} {X : List Int}
abbrev P2 := Int × Int
structure Q4 where
  i : Int
  s : Int
  t : Int
  r : Int
deriving DecidableEq
def pl (p : P2) : List Int := [p.1, p.2]
end
end VI.Ec
end
section
namespace VI.Ec
open PySem PySem.Spec PyProof.Rows L2 VI VI.Std VI.Fl
open VI.Lay (itD rgI lenTI lT)
section
variable {h : Bs} {P Xs : List (List Int)} {X Y : List Int}
abbrev eL (X : List Int) : Kd := (lI X, PyData.list (X.map .int))
theorem insK_eL (X : List Int) : ∀ Ys, ∃ Zs : List (List Int), insK (eL X) (Ys.map eL) = Zs.map eL ∧ Zs.Perm (X :: Ys)
  | [] => ⟨[X], rfl, .refl _⟩
  | Y :: Ys => by
    obtain ⟨Zs, e, p⟩ := insK_eL X Ys
    rw [List.map_cons]
    by_cases q : W.dataLt (eL Y).2 (eL X).2 = true
    · refine ⟨Y :: Zs, ?_, (p.cons Y).trans (.swap X Y Ys)⟩
      rw [insK, if_pos q, e]
      rfl
    · refine ⟨X :: Y :: Ys, ?_, .refl _⟩
      rw [insK, if_neg q]
      rfl
theorem srtK_eL : ∀ Xs : List (List Int), ∃ Zs : List (List Int), srtK (Xs.map eL) = Zs.map eL ∧ Zs.Perm Xs
  | [] => ⟨[], rfl, .refl _⟩
  | X :: Xs => by
    obtain ⟨Ys, e, p⟩ := srtK_eL Xs
    obtain ⟨Zs, e2, p2⟩ := insK_eL X Ys
    exact ⟨Zs, by rw [List.map_cons, srtK, e, e2], p2.trans (p.cons X)⟩
theorem toks_eL (e : W.keyToks (eL X).2 = W.keyToks (eL Y).2) : X = Y := by
  simp only [eL, W.keyToks] at e
  exact Lay.toks_ints X Y e
theorem beqD_lI (Y : List Int) : beqD (lI Y) (lI Y) = true := by
  have := Lay.beqD_tI Y
  exact this
theorem adj_eL : ∀ Xs : List (List Int), (Xs.map eL).Pairwise (fun a b => leK a b = true) → adjOk (Xs.map eL) = true
  | [], _ => rfl
  | [_], _ => rfl
  | X :: Y :: Xs, hs => by
    rw [List.map_cons, List.map_cons] at hs ⊢
    rw [List.pairwise_cons] at hs
    have ih := adj_eL (Y :: Xs) (by rw [List.map_cons]; exact hs.2)
    rw [List.map_cons] at ih
    have h1 := hs.1 (eL Y) List.mem_cons_self
    simp only [adjOk, ih, Bool.and_true, Bool.or_eq_true]
    cases e : W.dataLt (eL X).2 (eL Y).2 with
    | true => exact .inl rfl
    | false =>
      refine .inr ?_
      have h2 : leK (eL Y) (eL X) = true := by unfold leK; rw [e]; rfl
      have : X = Y := toks_eL (leK_anti h1 h2)
      rw [this]
      exact beqD_lI Y
noncomputable def srtL (Xs : List (List Int)) : List (List Int) := (srtK_eL Xs).choose
theorem srtL_eq (Xs : List (List Int)) : srtK (Xs.map eL) = (srtL Xs).map eL := (srtK_eL Xs).choose_spec.1
theorem srtL_perm (Xs : List (List Int)) : (srtL Xs).Perm Xs := (srtK_eL Xs).choose_spec.2
def leL (X Y : List Int) : Prop := leK (eL X) (eL Y) = true
theorem srtL_so (Xs : List (List Int)) : (srtL Xs).Pairwise leL := by
  have : ((srtL Xs).map eL).Pairwise (fun a b => leK a b = true) := by rw [← srtL_eq]; exact srtK_sorted _
  rwa [List.pairwise_map] at this
theorem leL_anti (h1 : leL X Y) (h2 : leL Y X) : X = Y := toks_eL (leK_anti h1 h2)
theorem py_Ls : ∀ P : List (List Int), mapO (py pyN h) (P.map fun X => lI X) = some (P.map fun X => .list (X.map .int))
  | [] => rfl
  | X :: P => by simp only [List.map_cons, mapO, py_lI, py_Ls P]
abbrev lL (P : List (List Int)) : D := .lst (P.map fun X => lI X)
theorem sort_L (hl : P.length ≤ sizeLine) (hn : P ≠ []) : sortMS false [lL P] h = .ok (lL (srtL P)) h := by
  have p := srtL_perm P
  have z : ∀ S : List (List Int), (S.map fun X => lI X).zip (S.map fun X => PyData.list (X.map .int)) = S.map eL := fun S => by
    induction S with
    | nil => rfl
    | cons X S ih => rw [List.map_cons, List.map_cons, List.zip_cons_cons, ih]; rfl
  have c : canSortL (P.map fun X => PyData.list (X.map .int)) = true := by
    unfold canSortL
    rw [List.all_map]
    refine List.all_eq_true.mpr fun X _ => ?_
    show (X.map PyData.int).all isI1 = true
    rw [List.all_map]
    exact List.all_eq_true.mpr fun _ _ => rfl
  have d0 : sortDS false [lL P] h = .no := by
    match P, hn with
    | X :: P, _ =>
      have e1 : sortedD false [lL (X :: P)] h = .no := rfl
      unfold sortDS
      rw [e1]
      show sortS false [lL (X :: P)] h = .no
      have e2 : canSort ((X :: P).map fun X => PyData.list (X.map .int)) = false := by
        unfold canSort
        have : ((X :: P).map fun X => PyData.list (X.map .int)).all isT1 = false := rfl
        have t2 : ((X :: P).map fun X => PyData.list (X.map .int)).all isI1 = false := rfl
        rw [this, t2]
        simp
      simp only [sortS, seqOf, lstOf, py_Ls, e2, Bool.false_and]
      rfl
  unfold sortMS
  rw [d0]
  show sortL false [lL P] h = _
  simp only [sortL, seqOf, lstOf, py_Ls, z, srtL_eq, c, Bool.true_and]
  rw [if_pos (adj_eL _ (by rw [List.pairwise_map]; exact srtL_so P)), List.map_map, newL_f (by rw [List.length_map, p.length_eq]; exact hl)]
  rfl
def ddp (L : List (List Int)) : List (List Int) := (L.zipIdx.filter fun p => decide ((p.2 : Int) = 0) || !decide (L.getD (p.2 - 1) [] = p.1)).map (·.1)
theorem first_L : ∀ L : List (List Int), X ∈ L → ∃ (i : Nat) (hi : i < L.length), L[i] = X ∧ ∀ j (hj : j < i), L[j]'(by omega) ≠ X
  | [], h => by cases h
  | Y :: L, h => by
    by_cases q : Y = X
    · exact ⟨0, by simp, q, fun j hj => absurd hj (by omega)⟩
    · have hx : X ∈ L := by
        rcases List.mem_cons.mp h with z | z
        · exact absurd z.symm q
        · exact z
      obtain ⟨i, hi, e1, e2⟩ := first_L L hx
      refine ⟨i + 1, by simpa using hi, by simpa using e1, fun j hj => ?_⟩
      cases j with
      | zero => exact q
      | succ j => exact e2 j (by omega)
theorem mem_ddp {L : List (List Int)} : X ∈ ddp L ↔ X ∈ L := by
  unfold ddp
  rw [List.mem_map]
  constructor
  · rintro ⟨p, hp, rfl⟩
    obtain ⟨_, h2, h3⟩ := List.mem_zipIdx (List.mem_filter.mp hp).1
    rw [h3]
    exact List.getElem_mem _
  · intro hx
    obtain ⟨i, hi, e1, e2⟩ := first_L L hx
    refine ⟨(X, i), List.mem_filter.mpr ⟨?_, ?_⟩, rfl⟩
    · rw [List.mem_iff_getElem?]
      exact ⟨i, by rw [List.getElem?_zipIdx, List.getElem?_eq_getElem hi, e1]; simp⟩
    · rw [Bool.or_eq_true]
      by_cases q : i = 0
      · exact .inl (decide_eq_true (by show (i : Int) = 0; omega))
      · right
        have := e2 (i - 1) (by omega)
        have e : L.getD (i - 1) [] = L[i - 1]'(by omega) := by
          rw [List.getD_eq_getElem?_getD, List.getElem?_eq_getElem (by omega)]
          rfl
        show (!decide (L.getD (i - 1) [] = X)) = true
        rw [e, decide_eq_false this]
        rfl
theorem ddp_nd {L : List (List Int)} (so : L.Pairwise leL) : (ddp L).Nodup := by
  unfold ddp List.Nodup
  rw [List.pairwise_map]
  have pz : L.zipIdx.Pairwise fun p q => p.2 < q.2 := by
    refine List.pairwise_iff_getElem.mpr fun i j hi hj hij => ?_
    rw [List.getElem_zipIdx, List.getElem_zipIdx]
    show 0 + i < 0 + j
    omega
  refine (pz.filter _).imp_of_mem fun {p q} hp hq lt e => ?_
  obtain ⟨hp1, hp2⟩ := List.mem_filter.mp hp
  obtain ⟨hq1, hq2⟩ := List.mem_filter.mp hq
  obtain ⟨_, p2, p3⟩ := List.mem_zipIdx hp1
  obtain ⟨_, q2, q3⟩ := List.mem_zipIdx hq1
  rw [Nat.zero_add] at p2 q2
  have q0 : ¬ (q.2 : Int) = 0 := by omega
  rw [decide_eq_false q0, Bool.false_or] at hq2
  have eg : L.getD (q.2 - 1) [] = L[q.2 - 1]'(by omega) := by
    rw [List.getD_eq_getElem?_getD, List.getElem?_eq_getElem (by omega)]
    rfl
  rw [eg] at hq2
  have ne : L[q.2 - 1]'(by omega) ≠ q.1 := by simpa using hq2
  have pe : p.1 = L[p.2]'(by omega) := by rw [p3]; simp
  have qe : q.1 = L[q.2]'(by omega) := by rw [q3]; simp
  have le : ∀ i j (hi : i < L.length) (hj : j < L.length), i ≤ j → leL L[i] L[j] ∨ L[i] = L[j] := fun i j hi hj hij => by
    by_cases z : i = j
    · subst z; exact .inr rfl
    · exact .inl (List.pairwise_iff_getElem.mp so i j hi hj (by omega))
  rcases le (q.2 - 1) q.2 (by omega) (by omega) (by omega) with a | a
  · rcases le p.2 (q.2 - 1) (by omega) (by omega) (by omega) with b | b
    · rw [← pe, e, qe] at b
      exact ne ((leL_anti a b).trans qe.symm)
    · exact ne (b.symm.trans (pe.symm.trans e))
  · exact ne (a.trans qe.symm)
theorem nd_leG {α : Type} [DecidableEq α] : ∀ {l u : List α}, l.Nodup → (∀ x ∈ l, x ∈ u) → l.length ≤ u.length
  | [], u, _, _ => Nat.zero_le _
  | x :: l, u, nd, hs => by
    obtain ⟨n1, n2⟩ := List.nodup_cons.mp nd
    have hx := hs x List.mem_cons_self
    have := nd_leG (l := l) (u := u.erase x) n2 fun y hy => (List.mem_erase_of_ne fun z => n1 (by rw [← z]; exact hy)).mpr (hs y (List.mem_cons_of_mem _ hy))
    rw [List.length_erase_of_mem hx] at this
    have : 0 < u.length := List.length_pos_of_mem hx
    rw [List.length_cons]
    omega
def vecs (k : Nat) : Nat → List (List Nat)
  | 0 => [[]]
  | n + 1 => (vecs k n).flatMap fun v => (List.range (k + 1)).map fun c => c :: v
theorem vecs_len (k : Nat) : ∀ n, (vecs k n).length = (k + 1) ^ n
  | 0 => rfl
  | n + 1 => by
    have : ∀ l : List (List Nat), (l.flatMap fun v => (List.range (k + 1)).map fun c => c :: v).length = l.length * (k + 1) := fun l => by
      induction l with
      | nil => simp
      | cons v l ih =>
        rw [List.flatMap_cons, List.length_append, ih, List.length_map, List.length_range, List.length_cons, Nat.succ_mul]
        omega
    unfold vecs
    rw [this, vecs_len k n, Nat.pow_succ]
theorem mem_vecs (k : Nat) : ∀ (n : Nat) (v : List Nat), v.length = n → (∀ c ∈ v, c ≤ k) → v ∈ vecs k n
  | 0, v, hl, _ => by
    rw [List.length_eq_zero_iff.mp hl]
    exact List.mem_cons_self
  | n + 1, [], hl, _ => by simp at hl
  | n + 1, c :: v, hl, hc => by
    unfold vecs
    exact List.mem_flatMap.mpr ⟨v, mem_vecs k n v (by simpa using hl) fun d hd => hc d (List.mem_cons_of_mem _ hd), List.mem_map.mpr ⟨c, List.mem_range.mpr (by have := hc c List.mem_cons_self; omega), rfl⟩⟩
def cvec (n : Nat) (X : List Int) : List Nat := (List.range n).map fun (i : Nat) => X.count (i : Int)
theorem sort_uni (hp : X.Perm Y) (hx : X.Pairwise (· ≤ ·)) (hy : Y.Pairwise (· ≤ ·)) : X = Y := List.Perm.eq_of_pairwise (le := (· ≤ ·)) (fun a b _ _ h1 h2 => Int.le_antisymm h1 h2) hx hy hp
theorem cvec_inj {n : Nat} (hx : X.Pairwise (· ≤ ·)) (hy : Y.Pairwise (· ≤ ·)) (rx : ∀ x ∈ X, 0 ≤ x ∧ x < (n : Int)) (ry : ∀ x ∈ Y, 0 ≤ x ∧ x < (n : Int)) (e : cvec n X = cvec n Y) : X = Y := by
  refine sort_uni (List.perm_iff_count.mpr fun a => ?_) hx hy
  by_cases q : 0 ≤ a ∧ a < (n : Int)
  · have hk : a.toNat < n := by omega
    have := congrArg (fun l => l[a.toNat]?) e
    unfold cvec at this
    simp only [List.getElem?_map, List.getElem?_range hk, Option.map_some, Option.some.injEq] at this
    rwa [show ((a.toNat : Nat) : Int) = a by omega] at this
  · rw [List.count_eq_zero.mpr fun z => q (rx a z), List.count_eq_zero.mpr fun z => q (ry a z)]
theorem sorted_few {n k : Nat} (nd : Xs.Nodup) (h : ∀ X ∈ Xs, X.Pairwise (· ≤ ·) ∧ X.length = k ∧ ∀ x ∈ X, 0 ≤ x ∧ x < (n : Int)) : Xs.length ≤ (k + 1) ^ n := by
  have nd2 : (Xs.map (cvec n)).Nodup := by
    unfold List.Nodup
    rw [List.pairwise_map]
    exact List.Pairwise.imp_of_mem (fun {X Y} hX hY ne e => ne (cvec_inj (h X hX).1 (h Y hY).1 (h X hX).2.2 (h Y hY).2.2 e)) nd
  have := nd_leG nd2 (u := vecs k n) fun v hv => by
    obtain ⟨X, hX, rfl⟩ := List.mem_map.mp hv
    refine mem_vecs k n _ (by unfold cvec; rw [List.length_map, List.length_range]) fun c hc => ?_
    obtain ⟨i, _, rfl⟩ := List.mem_map.mp hc
    have := List.count_le_length (a := (i : Int)) (l := X)
    rw [(h X hX).2.1] at this
    exact this
  rwa [List.length_map, vecs_len] at this
end
end VI.Ec
end
section
namespace VI.Ec
open PySem PySem.Spec PyProof.Rows L2 VI VI.Std VI.Fl
open VI.Lay (itD rgI lenTI lT)
section
variable {h : Bs} {F Xs R : List (List Int)} {X Y S r x y : List Int} {n k : Nat} {E : List Im}
noncomputable def late (F : List (List Int)) (r : List Int) : List (List Int) := F.flatMap fun x => r.map fun s => sortI (x ++ [s])
noncomputable def mstep (F : List (List Int)) (r : List Int) : List (List Int) := ddp (srtL (late F r))
theorem mem_mstep : x ∈ mstep F r ↔ ∃ y ∈ F, ∃ s ∈ r, x = sortI (y ++ [s]) := by
  unfold mstep late
  rw [mem_ddp, (srtL_perm _).mem_iff, List.mem_flatMap]
  constructor
  · rintro ⟨y, hy, z⟩
    obtain ⟨s, hs, rfl⟩ := List.mem_map.mp z
    exact ⟨y, hy, s, hs, rfl⟩
  · rintro ⟨y, hy, s, hs, rfl⟩
    exact ⟨y, hy, List.mem_map.mpr ⟨s, hs, rfl⟩⟩
theorem sortI_perm_eq (p : X.Perm Y) : sortI X = sortI Y := sort_uni ((sortI_perm X).trans (p.trans (sortI_perm Y).symm)) (sortI_sorted X) (sortI_sorted Y)
structure Mi (n k : Nat) (F : List (List Int)) : Prop where
  nd : F.Nodup
  ok : ∀ x ∈ F, x.Pairwise (· ≤ ·) ∧ x.length = k ∧ ∀ s ∈ x, 0 ≤ s ∧ s < (n : Int)
theorem Mi.few (m : Mi n k F) : F.length ≤ (k + 1) ^ n := sorted_few m.nd m.ok
theorem Mi.step (m : Mi n k F) (hr : ∀ s ∈ r, 0 ≤ s ∧ s < (n : Int)) : Mi n (k + 1) (mstep F r) := by
  refine ⟨ddp_nd (srtL_so _), fun x hx => ?_⟩
  obtain ⟨y, hy, s, hs, rfl⟩ := mem_mstep.mp hx
  obtain ⟨a, b, c⟩ := m.ok y hy
  refine ⟨sortI_sorted _, by rw [len_sortI, List.length_append, b]; rfl, fun t ht => ?_⟩
  rcases List.mem_append.mp (mem_sortI.mp ht) with z | z
  · exact c t z
  · rw [List.mem_singleton.mp z]
    exact hr s hs
def mx (x : List Int) : Int := maxI (x.map (fun s => ((x.count s : Nat) : Int)) ++ [0])
noncomputable def srtP (P : List P2) : List P2 := (Q.srtE (P.map pl)).map fun X => (Q.nt X 0, Q.nt X 1)
theorem srtP_map (P : List P2) : (srtP P).map pl = Q.srtE (P.map pl) := by
  unfold srtP
  rw [List.map_map]
  have : ∀ X ∈ Q.srtE (P.map pl), (pl ∘ fun X => (Q.nt X 0, Q.nt X 1)) X = X := fun X hX => by
    obtain ⟨p, _, rfl⟩ := List.mem_map.mp ((Q.srtE_perm _).mem_iff.mp hX)
    rfl
  rw [List.map_congr_left this]
  exact List.map_id' _
theorem srtP_perm (P : List P2) : (srtP P).Perm P := by
  have := (Q.srtE_perm (P.map pl)).map fun X => (Q.nt X 0, Q.nt X 1)
  rw [List.map_map] at this
  have e : P.map ((fun X => (Q.nt X 0, Q.nt X 1)) ∘ pl) = P := by
    have : ∀ p ∈ P, ((fun X => (Q.nt X 0, Q.nt X 1)) ∘ pl) p = p := fun p _ => rfl
    rw [List.map_congr_left this]
    exact List.map_id' _
  rw [e] at this
  exact this
def leP (p q : P2) : Prop := ¬ (q.1 < p.1 ∨ (q.1 = p.1 ∧ q.2 < p.2))
theorem leP_anti {p q : P2} (h1 : leP p q) (h2 : leP q p) : p = q := by
  unfold leP at h1 h2
  exact Prod.ext (by omega) (by omega)
theorem srtP_so (P : List P2) : (srtP P).Pairwise leP := by
  have so := Q.srtE_so (P.map pl)
  rw [← srtP_map, List.map_map, List.pairwise_map] at so
  refine so.imp fun {p q} e => ?_
  have e : (!W.dataLt (.tuple [.int q.1, .int q.2]) (.tuple [.int p.1, .int p.2])) = true := e
  have d : W.dataLt (.tuple [.int q.1, .int q.2]) (.tuple [.int p.1, .int p.2]) = false := by
    cases z : W.dataLt (.tuple [.int q.1, .int q.2]) (.tuple [.int p.1, .int p.2]) with
    | false => rfl
    | true => rw [z] at e; cases e
  rw [W.dataLt_ii, decide_eq_false_iff_not] at d
  exact d
def adjN (P : List P2) : Bool := (P.zip (P.drop 1)).all fun z => !decide (z.1 = z.2)
theorem adj_nd {P : List P2} (so : P.Pairwise leP) : adjN P = decide P.Nodup := by
  rw [Bool.eq_iff_iff, decide_eq_true_eq]
  unfold adjN
  rw [List.all_eq_true]
  constructor
  · intro hz
    refine List.pairwise_iff_getElem.mpr fun i j hi hj hij e => ?_
    have l : i < (P.zip (P.drop 1)).length := by rw [List.length_zip, List.length_drop]; omega
    have := hz _ (List.getElem_mem l)
    rw [List.getElem_zip, List.getElem_drop] at this
    have ne : P[i] ≠ P[1 + i]'(by omega) := by simpa using this
    refine ne ?_
    by_cases q : j = 1 + i
    · subst q; exact e
    · have a := List.pairwise_iff_getElem.mp so i (1 + i) hi (by omega) (by omega)
      have b := List.pairwise_iff_getElem.mp so (1 + i) j (by omega) hj (by omega)
      rw [← e] at b
      exact leP_anti a b
  · intro nd z hz
    obtain ⟨k, hk, rfl⟩ := List.getElem_of_mem hz
    rw [List.length_zip, List.length_drop] at hk
    rw [List.getElem_zip, List.getElem_drop]
    have := List.pairwise_iff_getElem.mp nd k (1 + k) (by omega) (by omega) (by omega)
    simpa using this
theorem adj_srt (P : List P2) : adjN (srtP P) = decide P.Nodup := by
  rw [adj_nd (srtP_so P)]
  have := (srtP_perm P).nodup_iff
  simp only [this]
end
end VI.Ec
end
section
namespace VI
open PySem PySem.Spec PyProof.Rows L2
def fitLI : PyData → Bool
  | .list xs => xs.all (fits (.two (.seq .i) .i))
  | _ => false
def canSort2 (ps : List PyData) : Bool := ps.all fitLI
theorem canSort2_ok {ps : List PyData} (h : canSort2 ps = true) : W.AllAlike ps ∧ W.Sortable ps := by
  have key : ∀ d ∈ ps, ∃ xs, d = .list xs ∧ xs.all (fits (.two (.seq .i) .i)) = true := fun d hd => by
    have := List.all_eq_true.mp h d hd
    cases d <;> first | (cases this; done) | skip
    exact ⟨_, rfl, this⟩
  refine ⟨fun d hd e he => ?_, .inr fun d hd => ?_⟩
  · obtain ⟨xs, rfl, a⟩ := key d hd
    obtain ⟨ys, rfl, b⟩ := key e he
    simp only [W.alike]
    exact fits_all (fits_alike (.two (.seq .i) .i)) xs ys a b
  · obtain ⟨xs, rfl, _⟩ := key d hd
    exact ⟨(fun z => by cases z), (fun _ z => by cases z)⟩
section
variable {X : Cx} {T : Tb} {WW : WX} {μ μ' : Mu} {H H' : Hp} {h : Bs} {σ : Sg} {ρ : Ev} {pins : List (Addr × Obj)} {s : Shared}
def minN (ds : List D) (h : Bs) : R D := match ds with
  | [d] => (match lstOf h d with
    | some (x :: xs) => (match mapO (py pyN h) (x :: xs) with
      | some (p :: ps) => if canSort2 (p :: ps) then (match ((x :: xs).zip (p :: ps)).find? fun z => PyData.eqv z.2 (W.minD p ps) with
        | some z => if ((x :: xs).zip (p :: ps)).all fun y => !PyData.eqv y.2 (W.minD p ps) || beqD y.1 z.1 then .ok z.1 h else .no
        | none => .no) else .no
      | _ => .no)
    | _ => .no)
  | _ => .no
theorem minN_calm {ds : List D} : Calm (minN ds h) := by
  unfold minN
  repeat' split
  all_goals (intro x h' z; cases z)
theorem cv_minN (hK : X.K = T.K) (hc : X.calm = true) (hu : X.A.units + 65 < cLine) : CallR X (.builtin "min") (rDn T minN) := by
  intro pins s σ H xs us Q I rs ⟨μ, h, ds, r, rd, o⟩
  unfold minN at o
  split at o
  · rename_i d
    obtain ⟨v, rfl, rv⟩ := rd.is1
    obtain ⟨u, rfl, ru⟩ := rs.one
    split at o
    · rename_i x ys hy
      split at o
      · rename_i p ps hp
        split at o
        · rename_i hcs
          split at o
          · rename_i z hz
            split at o
            · rename_i ha
              obtain ⟨a, vs, rfl, e2, e3⟩ := r.lstOf rv hy
              cases ru
              obtain ⟨al, so⟩ := canSort2_ok hcs
              obtain ⟨its, rvv, pl, hz2⟩ := I.list (by rw [hK]; exact e2)
              obtain ⟨bs, g1, g2, g3, g4, g5⟩ := tri_of hK I r e3 hp rvv
              obtain ⟨as, ra⟩ := W.each_readsAll (fun b : Tr => b.2.2) g2
              rw [g4] at ra
              have nn : ∀ q ∈ p :: ps, q ≠ .none := fun q hq => by
                rcases so with so | so
                · obtain ⟨x, r, e⟩ := so q hq; rw [e]; exact fun z => by cases z
                · exact (so q hq).1
              have dep : PyData.depthAll (p :: ps) ≤ 12 := by
                have key : ∀ l : List PyData, (∀ q ∈ l, q.depth ≤ 12) → PyData.depthAll l ≤ 12 := by
                  intro l
                  induction l with
                  | nil => intro _; simp [PyData.depthAll]
                  | cons q l ih =>
                    intro hq
                    simp only [PyData.depthAll]
                    have h1 := hq q List.mem_cons_self
                    have h2 := ih fun y hy => hq y (List.mem_cons_of_mem _ hy)
                    omega
                refine key _ fun q hq => ?_
                rw [← g4] at hq
                obtain ⟨b, hb, rfl⟩ := List.mem_map.mp hq
                exact (g5 b hb).2
              refine W.min_list_data (I.ok.hd hc) pl.isList (by simpa using ra) ⟨fun x hx y hy => al x hx y hy, nn⟩ (by omega) fun i w h' tk bs' hi hr kp => ?_
              have hi' : its[i]? = some w := by simpa using hi
              have hlen : i < (x :: ys).length := by rw [e3.length, rvv.length]; exact (List.getElem?_eq_some_iff.mp hi').1
              have hx : (x :: ys)[i]? = some (x :: ys)[i] := List.getElem?_eq_getElem hlen
              obtain ⟨wv, ew, rw'⟩ := e3.get hx
              obtain ⟨w', ew', rel⟩ := rvv.get ew
              rw [hi'] at ew'; cases ew'
              obtain ⟨q, eq, epy⟩ := mapO_get hp hx
              have k := py_ok r _ _ _ _ rw' epy
              obtain ⟨cs, rd2⟩ := Dp.reads I q wv w (by rw [hK]; exact k.1) rel
              have hqm : q ∈ p :: ps := List.mem_of_getElem? eq
              have e0 : q = W.minD p ps := W.alike_unique _ _ _ _ _ (al _ hqm _ (minD_mem ps p)) (PyProof.Rows.Reads.keeps kp rd2) hr
              have hmem : ((x :: ys)[i], q) ∈ (x :: ys).zip (p :: ps) := by
                refine List.mem_of_getElem? (i := i) ?_
                rw [List.getElem?_zip_eq_some]
                exact ⟨hx, eq⟩
              have hb := List.all_eq_true.mp ha _ hmem
              simp only [Bool.or_eq_true, Bool.not_eq_true'] at hb
              have hD : (x :: ys)[i] = z.1 := by
                rcases hb with hb | hb
                · rw [e0, W.eqv_refl_alike _ (al _ (minD_mem ps p) _ (minD_mem ps p))] at hb; cases hb
                · exact beqD_eq _ _ hb
              rw [hD] at rw'
              exact ⟨wv, H, I.kept (t' := tk) kp, rel, o μ H wv Stp.refl r rw'⟩
            · exact o.elim
          · exact o.elim
        · exact o.elim
      · exact o.elim
    · exact o.elim
  · exact o.elim
def sortN (bx : Bool) (ds : List D) (h : Bs) : R D := match ds with
  | [d] => (match seqOf h d with
    | some xs => (match mapO (py pyN h) xs with
      | some ps => if canSort2 ps && adjOk (srtK (xs.zip ps)) then newL bx ((srtK (xs.zip ps)).map (·.1)) h else .no
      | none => .no)
    | none => .no)
  | _ => .no
theorem sortN_calm {bx : Bool} {ds : List D} : Calm (sortN bx ds h) := by
  unfold sortN
  repeat' split
  · exact newL_calm
  all_goals (intro x h' z; cases z)
theorem cv_sortN {bx : Bool} (hK : X.K = T.K) (hu : X.A.units + 65 < cLine) : CallR X (.builtin "sorted") (rDn T (sortN bx)) := by
  intro pins s σ H xs us Q I rs ⟨μ, h, ds, r, rd, o⟩
  unfold sortN at o
  split at o
  · rename_i d
    obtain ⟨v, rfl, rv⟩ := rd.is1
    obtain ⟨u, rfl, ru⟩ := rs.one
    split at o
    · rename_i ys hy
      split at o
      · rename_i ps hp
        split at o
        · rename_i hc
          simp only [Bool.and_eq_true] at hc
          obtain ⟨a, vs, rfl, e2, e3⟩ := r.seqOf rv hy
          cases ru
          obtain ⟨al, so⟩ := canSort2_ok hc.1
          have fin : ∀ (its : List Value), Vals vs its → vs.length ≤ sizeLine → ∃ bs : List Tr, W.EachIs (fun v b => RelV b.1 v) its bs ∧ W.EachIs (fun v b => ∃ as, Reads s.heap v b.2.2 as) its bs ∧ (bs.map fun b => b.2.2) = ps ∧ bs.length ≤ sizeLine ∧ (∀ b ∈ bs, X.A.units + 2 + b.2.2.depth < cLine) ∧
              ∀ out, out.length = bs.length → W.EachIs (fun v (b : Tr) => RelV b.1 v) out (bs.mergeSort (W.dataLe false fun b => b.2.2)) → EP X pins σ Q (.ref (s.heap.objs.size + 1)) { s with heap := sortedAll s.heap its (List.toArray out) } := by
            intro its rvv hz
            obtain ⟨bs, g1, g2, g3, g4, g5⟩ := tri_of hK I r e3 hp rvv
            have hl : bs.length = vs.length := by rw [rvv.length, g1.length]
            refine ⟨bs, g1, g2, g4, by rw [hl]; exact hz, fun b hb => ?_, fun out ho ge => ?_⟩
            · have := (g5 b hb).2
              show X.A.units + 2 + b.2.2.depth < cLine
              have : b.2.2.depth ≤ 12 := this
              omega
            · have sp : (bs.mergeSort (W.dataLe false fun b => b.2.2)).Perm bs := List.mergeSort_perm _ _
              have le_eq : ∀ a b : Tr, W.dataLe false (fun b : Tr => b.2.2) a b = leK a.2 b.2 := fun a b => rfl
              have ss : ((bs.mergeSort (W.dataLe false fun b => b.2.2)).map (·.2)).Pairwise (fun a b => leK a b = true) := by
                rw [List.pairwise_map]
                exact List.pairwise_mergeSort (le := W.dataLe false fun b : Tr => b.2.2) (fun a b c h1 h2 => leK_trans _ _ _ h1 h2) (fun a b => leK_total _ _) bs
              have eq : (bs.mergeSort (W.dataLe false fun b => b.2.2)).map (fun b => b.2.1) = (srtK (ys.zip ps)).map (·.1) := by
                have := sort_uniq (A := (bs.mergeSort (W.dataLe false fun b => b.2.2)).map (·.2)) (B := srtK (ys.zip ps)) (by rw [← g3]; exact (sp.map _).trans (srtK_perm _).symm) ss (srtK_sorted _) (adjOk_same (srtK_sorted _) hc.2)
                rw [List.map_map] at this
                exact this
              have rq : Reps T μ H ((srtK (ys.zip ps)).map (·.1)) ((bs.mergeSort (W.dataLe false fun b => b.2.2)).map (·.1)) := by
                rw [← eq]
                exact reps_tri fun b hb => (g5 b (sp.mem_iff.mp hb)).1
              obtain ⟨z1, z2⟩ := newL_ok r rq o
              obtain ⟨e, he⟩ := sortedAll_at s.heap its (List.toArray out)
              exact ⟨.ref (s.heap.objs.size + 1), _, I.laid (t' := s.toks) (o := .lst ((bs.mergeSort (W.dataLe false fun b => b.2.2)).map (·.1))) (fun b o => sortedAll_old) (Nat.le_succ _) ⟨z1, out, e, each_vals ge, he⟩, rfl, z2 _ (I.hok.fresh (Nat.le_succ _))⟩
          rcases e2 with e2 | e2
          · obtain ⟨its, rvv, pt, hz⟩ := I.tuple (by rw [hK]; exact e2)
            obtain ⟨bs, g1, g2, g4, g6, g7, k⟩ := fin its rvv hz
            have hLn : its.length ≤ sizeLine := by rw [← rvv.length]; exact hz
            refine call_function_entry_kw (kw := []) kind_sorted plain_sorted entry_sorted (args_sorted1 _) ?_
            unfold Builtin.«sorted»
            refine wpAny_bind (m := checkCount "sorted" 1 1 _) (wpAny_pure (wpAny_bind (collect_tup pt (wpAny_bind (wpAny_newList ?_ hLn)) hLn)))
            have hsz : ((s.heap.push (seqObj "list" #[] 0)).update s.heap.objs.size (Obj.mapSeq (· ++ its.toArray))).objs.size = s.heap.objs.size + 1 := by
              rw [Heap.size_update, size_push']
            refine (show wpAny _ _ _ _ _ { s with heap := W.copyHeap s.heap its } from ?_)
            rw [hsz]
            have al' : W.AllAlike (bs.map fun b => b.2.2) := by rw [g4]; exact al
            have so' : W.Sortable (bs.map fun b => b.2.2) := by rw [g4]; exact so
            have er' : W.EachIs (fun v (b : Tr) => ∃ as, Reads (W.sortingHeap (W.copyHeap s.heap its) (s.heap.objs.size + 1) its) v b.2.2 as) its bs := g2.mono fun _ _ ⟨as, q⟩ => ⟨as, PyProof.Rows.Reads.keeps (fun _ _ => W.sorting_copy_old) q⟩
            refine wpAny_bind (wpAny_holding (wpAny_call_entry_kw slot_list_sort ⟨_, W.copyHeap_at s.heap its, rfl⟩ entry_list_sort (wpAny_mono (W.list_sort_vals (P := fun f s' => f = .done (.ret .none) ∧ EP X pins σ Q (.ref (s.heap.objs.size + 1)) s') (s := { s with heap := W.copyHeap s.heap its }) (W.copyHeap_at s.heap its)
              (W.SortsAt.data (s := { s with heap := W.sortingHeap (W.copyHeap s.heap its) (s.heap.objs.size + 1) its }) (W.each_map (R := fun v d => ∃ as, Reads (W.sortingHeap (W.copyHeap s.heap its) (s.heap.objs.size + 1) its) v d as) (fun b : Tr => b.2.2) er') al' so' (W.bound_map g7)) hLn ⟨rfl, k _ (by rw [W.sortVals_length false rfl]; exact g1.length) (W.sortVals_data false g1 er' al')⟩) (fun f s' hf => ?_) fun _ _ e => e) (args_list_sort _)))
            obtain ⟨rfl, hq⟩ := hf
            exact ⟨_, rfl, wpAny_pure ⟨_, rfl, hq⟩⟩
          · obtain ⟨its, rvv, pl, hz⟩ := I.list (by rw [hK]; exact e2)
            obtain ⟨bs, g1, g2, g4, g6, g7, k⟩ := fin its rvv hz
            exact W.sorted_data (enc := fun b : Tr => b.2.2) pl.isList g1 g2 (by rw [g4]; exact al) (by rw [g4]; exact so) g6 g7 k
        · exact o.elim
      · exact o.elim
    · exact o.elim
  · exact o.elim
end
def sortNS (bx : Bool) (ds : List D) (h : Bs) : R D := match sortDS bx ds h with
  | .no => sortN bx ds h
  | r => r
theorem B_sortNS {bx : Bool} : BF "sorted" "sorted" (sortNS bx) := ⟨fun ds h x h' z => by
    unfold sortNS at z
    cases q : sortDS bx ds h with
    | no => rw [q] at z; exact sortN_calm x h' z
    | ok a b => rw [q] at z; cases z
    | ex a b => exact B_sortDS.cf ds h a b q, by decide +kernel, fun {Z t k N sc raw X W} h => by
    intro pins s σ H xs us Q I rs ⟨μ, hh, ds, r, rd, o⟩
    unfold sortNS at o
    cases q : sortDS bx ds hh with
    | no => rw [q] at o; exact cv_sortN h.K h.units pins s σ H xs us Q I rs ⟨μ, hh, ds, r, rd, o⟩
    | ok a b => rw [q] at o; exact B_sortDS.run h pins s σ H xs us Q I rs ⟨μ, hh, ds, r, rd, by rw [q]; exact o⟩
    | ex a b => exact absurd q (B_sortDS.cf ds hh a b)⟩
def minNS (ds : List D) (h : Bs) : R D := match minDS ds h with
  | .no => minN ds h
  | r => r
theorem B_minNS : BF "min" "min" minNS := ⟨fun ds h x h' z => by
    unfold minNS at z
    cases q : minDS ds h with
    | no => rw [q] at z; exact minN_calm x h' z
    | ok a b => rw [q] at z; cases z
    | ex a b => exact B_minS.cf ds h a b q, by decide +kernel, fun {Z t k N sc raw X W} h => by
    intro pins s σ H xs us Q I rs ⟨μ, hh, ds, r, rd, o⟩
    unfold minNS at o
    cases q : minDS ds hh with
    | no => rw [q] at o; exact cv_minN h.K h.calm h.units pins s σ H xs us Q I rs ⟨μ, hh, ds, r, rd, o⟩
    | ok a b => rw [q] at o; exact B_minS.run h pins s σ H xs us Q I rs ⟨μ, hh, ds, r, rd, by rw [q]; exact o⟩
    | ex a b => exact absurd q (B_minS.cf ds hh a b)⟩
end VI
end
section
namespace VI.K29
open PySem PySem.Spec PyProof.Rows L2 VI
def top (i : Nat) : Stmt := PySem.Challenge.pw_copylots_k29_whole_alike.main.body.getD i (.Pass ⟨0, 0, 0, 0⟩)
def tx : Tx := ⟨["all", "any", "bool", "enumerate", "int", "isinstance", "len", "list", "min", "range", "set", "sorted", "tuple", "zip"], [("MOST_SERVERS", 8), ("MOST_ITEMS", 10), ("MOST_RENAMED", 6)], ["Layout", "Renaming", "Forms"], ["servers", "entries", "order", "one", "other", "__eq__", "__len__", "__getitem__", "__iter__", "loads", "held", "partners", "readable", "renamed", "shows"], []⟩
abbrev d__law_number : Stmt := top 39
def s__law_number (T : Tb) : SS := (ssCons (ssAsg (sIte (sOp (eqD true) (sVar 0) (sLst false saNil)) (sSl false (sVar 0) soNone (soSome (sK (.int 60)))) (sLst false (saCons (sK (.int 7)) saNil))) (sgName 2))
  (ssCons (ssAsg (sOp (addD false) (sOp ixD (sVar 2) (sOp modD (sVar 1) (sCall lenD (saCons (sVar 2) saNil)))) (sOp (mulD false) (sK (.int 31)) (sOp fdivD (sVar 1) (sCall lenD (saCons (sVar 2) saNil))))) (sgName 3))
  (ssCons (ssAsg (sOp (addD false) (sOp (mulD false) (sOp (addD false) (sOp (addD false) (sOp modD (sCall intD (saCons (sVar 3) saNil)) (sK (.int 1000003))) (sOp (mulD false) (sK (.int 977)) (sVar 1))) (sK (.int 13))) (sK (.int 48271))) (sOp modD (sCall intD (saCons (sOp fdivD (sVar 3) (sK (.int 1000003))) saNil)) (sK (.int 999983)))) (sgName 4))
  (ssCons (ssRet (sOp modD (sOp (mulD false) (sOp modD (sVar 4) (sK (.int 2147483647))) (sK (.int 65537))) (sK (.int 4294967291))))
  ssNil))))
def f__law_number (T : Tb) : List D → Bs → R D := runFn 2 5 (s__law_number T)
theorem b__law_number {Z : Cfg} {X : Cx} {W : WX}  (h : XO Z tx 0 ["_law_script", "_law_at", "_law_cells", "_law_cell", "_law_mixed"] (defScope d__law_number) none X W) : PSs X (defBody d__law_number) (tS' Z.T W (s__law_number Z.T)) :=
  (psv_cons (s_set h (by decide +kernel) rfl (pv_ite (t_cmp C_ne h rfl (v_var (i := 0) h (by decide +kernel)) (pv_lst pav_nil)) (v_sl h (v_var (i := 0) h (by decide +kernel)) pov_none (pov_some pv_int)) (pv_lst (pav_cons rfl pv_int pav_nil))))
  (psv_cons (s_set h (by decide +kernel) rfl (v_add h (v_ix h rfl (v_var (i := 2) h (by decide +kernel)) (v_mod h (v_var (i := 1) h (by decide +kernel)) (v_bf B_len h (by decide +kernel) (pav_cons rfl (v_var (i := 2) h (by decide +kernel)) pav_nil)))) (v_mul h pv_int (v_fdiv h (v_var (i := 1) h (by decide +kernel)) (v_bf B_len h (by decide +kernel) (pav_cons rfl (v_var (i := 2) h (by decide +kernel)) pav_nil))))))
  (psv_cons (s_set h (by decide +kernel) rfl (v_add h (v_mul h (v_add h (v_add h (v_mod h (v_bt B_int h (by decide +kernel) (pav_cons rfl (v_var (i := 3) h (by decide +kernel)) pav_nil)) pv_int) (v_mul h pv_int (v_var (i := 1) h (by decide +kernel)))) pv_int) pv_int) (v_mod h (v_bt B_int h (by decide +kernel) (pav_cons rfl (v_fdiv h (v_var (i := 3) h (by decide +kernel)) pv_int) pav_nil)) pv_int)))
  (psv_cons (psv_ret (v_mod h (v_mul h (v_mod h (v_var (i := 4) h (by decide +kernel)) pv_int) pv_int) pv_int))
  psv_nil))))
theorem g__law_number {Z : Cfg} (z : Z.Ok tx) (D : DefAt Z "_law_number" d__law_number)  : FnG Z "_law_number" 1 (f__law_number Z.T) :=
  fn_of (k := 0) (N := ["_law_script", "_law_at", "_law_cells", "_law_cell", "_law_mixed"]) (ps := ["_law_script", "_law_at"]) z D ⟨rfl, rfl, rfl, by decide +kernel, rfl, by decide +kernel, by decide +kernel⟩ (fun _ _ _ _ _ _ us hl => match us, hl with | [_, _], _ => rfl) fun X W h => b__law_number  h
abbrev d__law_items : Stmt := top 40
def l1__law_items (T : Tb) : SS := (ssCons (ssAsg (sOp (addD false) (sOp (addD false) (sVar 1) (sK (.int 1))) (sOp (mulD false) (sK (.int 10)) (sVar 5))) (sgName 6))
  (ssCons (ssAsg (sLc false [10] (siArg itRng1 (saCons (sVar 2) saNil)) (sgName 10) (sTru (sOp (eqD false) (sOp modD (sCall intD (saCons (sCall (f__law_number T) (saCons (sVar 0) (saCons (sOp (addD false) (sVar 6) (sVar 10)) saNil))) saNil)) (sK (.int 2))) (sK (.int 0)))) (sVar 10)) (sgName 7))
  (ssCons (ssAsg (sIte (sOp (eqD true) (sVar 7) (sLst false saNil)) (sVar 7) (sLst false (saCons (sOp modD (sCall intD (saCons (sCall (f__law_number T) (saCons (sVar 0) (saCons (sOp (addD false) (sVar 6) (sK (.int 8))) saNil))) saNil)) (sVar 2)) saNil))) (sgName 7))
  (ssCons (ssAsg (sCall intD (saCons (sCall (f__law_number T) (saCons (sVar 0) (saCons (sOp (addD false) (sVar 6) (sK (.int 9))) saNil))) saNil)) (sgName 8))
  (ssCons (ssAsg (sIte (sOp (eqD false) (sOp modD (sVar 8) (sK (.int 3))) (sK (.int 0))) (sOp (addD false) (sK (.int 1)) (sOp modD (sOp fdivD (sVar 8) (sK (.int 3))) (sCall lenD (saCons (sVar 7) saNil)))) (sK (.int 1))) (sgName 9))
  (ssCons (ssExpr (sBm appD (sVar 4) (saCons (sTup (saCons (sCall tupleD (saCons (sVar 7) saNil)) (saCons (sVar 9) saNil))) saNil)))
  ssNil))))))
def s__law_items (T : Tb) : SS := (ssCons (ssAsg (sLst true saNil) (sgName 4))
  (ssCons (ssFor (siArg itRng1 (saCons (sOp (addD false) (sK (.int 1)) (sOp modD (sCall intD (saCons (sCall (f__law_number T) (saCons (sVar 0) (saCons (sVar 1) saNil))) saNil)) (sVar 3))) saNil)) (sgName 5)
  (l1__law_items T))
  (ssCons (ssRet (sVar 4))
  ssNil)))
def f__law_items (T : Tb) : List D → Bs → R D := runFn 4 11 (s__law_items T)
theorem b__law_items {Z : Cfg} {X : Cx} {W : WX} (G__law_number : FnG Z "_law_number" 1 (f__law_number Z.T)) (h : XO Z tx 1 ["_law_script", "_law_at", "_law_servers", "_law_most", "_law_found", "_law_row", "_law_first", "_law_holders", "_law_drawn", "_law_need", "_law_server"] (defScope d__law_items) none X W) : PSs X (defBody d__law_items) (tS' Z.T W (s__law_items Z.T)) :=
  (psv_cons (s_set h (by decide +kernel) rfl (pv_lst pav_nil))
  (psv_cons (s_for (own := [5]) h rfl (i_rng1 h (by decide +kernel) (pav_cons rfl (v_add h pv_int (v_mod h (v_bt B_int h (by decide +kernel) (pav_cons rfl (v_call h G__law_number rfl (by decide +kernel) rfl (pav_cons rfl (v_var (i := 0) h (by decide +kernel)) (pav_cons rfl (v_var (i := 1) h (by decide +kernel)) pav_nil))) pav_nil)) (v_var (i := 3) h (by decide +kernel)))) pav_nil)) (g_name h (by decide +kernel) rfl)
  (psv_cons (s_set h (by decide +kernel) rfl (v_add h (v_add h (v_var (i := 1) h (by decide +kernel)) pv_int) (v_mul h pv_int (v_var (i := 5) h (by decide +kernel)))))
  (psv_cons (s_setLc (own := [("_law_server", 10)]) h (by decide +kernel) (by decide +kernel) (i_rng1 h (by decide +kernel) (pav_cons rfl (v_var (i := 2) h (by decide +kernel)) pav_nil)) (fun _ h1 => ⟨(g_name h1 (by decide +kernel) rfl), (ptv_one (t_cmp C_eq h1 rfl (v_mod h1 (v_bt B_int h1 (by decide +kernel) (pav_cons rfl (v_call h1 G__law_number rfl (by decide +kernel) rfl (pav_cons rfl (v_var (i := 0) h1 (by decide +kernel)) (pav_cons rfl (v_add h1 (v_var (i := 6) h1 (by decide +kernel)) (v_var (i := 10) h1 (by decide +kernel))) pav_nil))) pav_nil)) pv_int) pv_int)), (v_var (i := 10) h1 (by decide +kernel))⟩))
  (psv_cons (s_set h (by decide +kernel) rfl (pv_ite (t_cmp C_ne h rfl (v_var (i := 7) h (by decide +kernel)) (pv_lst pav_nil)) (v_var (i := 7) h (by decide +kernel)) (pv_lst (pav_cons rfl (v_mod h (v_bt B_int h (by decide +kernel) (pav_cons rfl (v_call h G__law_number rfl (by decide +kernel) rfl (pav_cons rfl (v_var (i := 0) h (by decide +kernel)) (pav_cons rfl (v_add h (v_var (i := 6) h (by decide +kernel)) pv_int) pav_nil))) pav_nil)) (v_var (i := 2) h (by decide +kernel))) pav_nil))))
  (psv_cons (s_set h (by decide +kernel) rfl (v_bt B_int h (by decide +kernel) (pav_cons rfl (v_call h G__law_number rfl (by decide +kernel) rfl (pav_cons rfl (v_var (i := 0) h (by decide +kernel)) (pav_cons rfl (v_add h (v_var (i := 6) h (by decide +kernel)) pv_int) pav_nil))) pav_nil)))
  (psv_cons (s_set h (by decide +kernel) rfl (pv_ite (t_cmp C_eq h rfl (v_mod h (v_var (i := 8) h (by decide +kernel)) pv_int) pv_int) (v_add h pv_int (v_mod h (v_fdiv h (v_var (i := 8) h (by decide +kernel)) pv_int) (v_bf B_len h (by decide +kernel) (pav_cons rfl (v_var (i := 7) h (by decide +kernel)) pav_nil)))) pv_int))
  (psv_cons (psv_expr rfl (v_bm M_append h (by decide +kernel) (v_var (i := 4) h (by decide +kernel)) (pav_cons rfl (pv_tup (pav_cons rfl (v_bt B_tuple h (by decide +kernel) (pav_cons rfl (v_var (i := 7) h (by decide +kernel)) pav_nil)) (pav_cons rfl (v_var (i := 9) h (by decide +kernel)) pav_nil))) pav_nil)))
  psv_nil)))))))
  (psv_cons (psv_ret (v_var (i := 4) h (by decide +kernel)))
  psv_nil)))
theorem g__law_items {Z : Cfg} (z : Z.Ok tx) (D : DefAt Z "_law_items" d__law_items) (G__law_number : FnG Z "_law_number" 1 (f__law_number Z.T)) : FnG Z "_law_items" 2 (f__law_items Z.T) :=
  fn_of (k := 1) (N := ["_law_script", "_law_at", "_law_servers", "_law_most", "_law_found", "_law_row", "_law_first", "_law_holders", "_law_drawn", "_law_need", "_law_server"]) (ps := ["_law_script", "_law_at", "_law_servers", "_law_most"]) z D ⟨rfl, rfl, rfl, by decide +kernel, rfl, by decide +kernel, by decide +kernel⟩ (fun _ _ _ _ _ _ us hl => match us, hl with | [_, _, _, _], _ => rfl) fun X W h => b__law_items G__law_number h
abbrev d__law_orders : Stmt := top 41
def l1__law_orders (T : Tb) : SS := (ssCons (ssAsg (sOp (addD false) (sVar 3) (sLc false [5] (siArg itRng1 (saCons (sVar 0) saNil)) (sgName 5) (sTru (sOp (inD true) (sVar 5) (sVar 4))) (sOp (addD false) (sVar 4) (sTup (saCons (sVar 5) saNil))))) (sgName 3))
  ssNil)
def l2__law_orders (T : Tb) : SS := (ssCons (ssAsg (sLst false saNil) (sgName 3))
  (ssCons (ssFor (siSeq (sVar 1)) (sgName 4)
  (l1__law_orders T))
  (ssCons (ssAsg (sVar 3) (sgName 1))
  ssNil)))
def s__law_orders (T : Tb) : SS := (ssCons (ssAsg (sLst false (saCons (sTup saNil) saNil)) (sgName 1))
  (ssCons (ssFor (siArg itRng1 (saCons (sVar 0) saNil)) (sgName 2)
  (l2__law_orders T))
  (ssCons (ssRet (sVar 1))
  ssNil)))
def f__law_orders (T : Tb) : List D → Bs → R D := runFn 1 6 (s__law_orders T)
theorem b__law_orders {Z : Cfg} {X : Cx} {W : WX}  (h : XO Z tx 0 ["_law_servers", "_law_found", "_law_step", "_law_late", "_law_some", "_law_server"] (defScope d__law_orders) none X W) : PSs X (defBody d__law_orders) (tS' Z.T W (s__law_orders Z.T)) :=
  (psv_cons (s_set h (by decide +kernel) rfl (pv_lst (pav_cons rfl (pv_tup pav_nil) pav_nil)))
  (psv_cons (s_for (own := [2]) h rfl (i_rng1 h (by decide +kernel) (pav_cons rfl (v_var (i := 0) h (by decide +kernel)) pav_nil)) (g_name h (by decide +kernel) rfl)
  (psv_cons (s_set h (by decide +kernel) rfl (pv_lst pav_nil))
  (psv_cons (s_for (own := [4]) h rfl (i_seq h (v_var (i := 1) h (by decide +kernel))) (g_name h (by decide +kernel) rfl)
  (psv_cons (s_set h (by decide +kernel) rfl (v_add h (v_var (i := 3) h (by decide +kernel)) (v_lc (own := [("_law_server", 5)]) h (by decide +kernel) (i_rng1 h (by decide +kernel) (pav_cons rfl (v_var (i := 0) h (by decide +kernel)) pav_nil)) (fun _ h1 => ⟨(g_name h1 (by decide +kernel) rfl), (ptv_one (t_cmp C_notIn h1 rfl (v_var (i := 5) h1 (by decide +kernel)) (v_var (i := 4) h1 (by decide +kernel)))), (v_add h1 (v_var (i := 4) h1 (by decide +kernel)) (pv_tup (pav_cons rfl (v_var (i := 5) h1 (by decide +kernel)) pav_nil)))⟩))))
  psv_nil))
  (psv_cons (s_set h (by decide +kernel) rfl (v_var (i := 3) h (by decide +kernel)))
  psv_nil))))
  (psv_cons (psv_ret (v_var (i := 1) h (by decide +kernel)))
  psv_nil)))
theorem g__law_orders {Z : Cfg} (z : Z.Ok tx) (D : DefAt Z "_law_orders" d__law_orders)  : FnG Z "_law_orders" 1 (f__law_orders Z.T) :=
  fn_of (k := 0) (N := ["_law_servers", "_law_found", "_law_step", "_law_late", "_law_some", "_law_server"]) (ps := ["_law_servers"]) z D ⟨rfl, rfl, rfl, by decide +kernel, rfl, by decide +kernel, by decide +kernel⟩ (fun _ _ _ _ _ _ us hl => match us, hl with | [_], _ => rfl) fun X W h => b__law_orders  h
abbrev d_is_number : Stmt := top 13
def s_is_number (T : Tb) : SS := (ssCons (ssRet (sAnd (sUn (isiD T 2) (sVar 0)) (sAnd (sNot (sUn (isiD T 1) (sVar 0))) (sChn leS leS (sVar 1) (sVar 0) (sVar 2)))))
  ssNil)
def f_is_number (T : Tb) : List D → Bs → R D := runFn 3 3 (s_is_number T)
theorem b_is_number {Z : Cfg} {X : Cx} {W : WX}  (h : XO Z tx 0 ["thing", "least", "most"] (defScope d_is_number) none X W) : PSs X (defBody d_is_number) (tS' Z.T W (s_is_number Z.T)) :=
  (psv_cons (psv_ret (pv_and (v_isi h (by decide +kernel) (N_int h (by decide +kernel)) (v_var (i := 0) h (by decide +kernel))) (pv_and (pv_not (v_isi h (by decide +kernel) (N_bool h (by decide +kernel)) (v_var (i := 0) h (by decide +kernel)))) (pv_one (v_chn C_leS C_leS h rfl (v_var (i := 1) h (by decide +kernel)) (v_var (i := 0) h (by decide +kernel)) (v_var (i := 2) h (by decide +kernel)))))))
  psv_nil)
theorem g_is_number {Z : Cfg} (z : Z.Ok tx) (D : DefAt Z "is_number" d_is_number)  : FnG Z "is_number" 1 (f_is_number Z.T) :=
  fn_of (k := 0) (N := ["thing", "least", "most"]) (ps := ["thing", "least", "most"]) z D ⟨rfl, rfl, rfl, by decide +kernel, rfl, by decide +kernel, by decide +kernel⟩ (fun _ _ _ _ _ _ us hl => match us, hl with | [_, _, _], _ => rfl) fun X W h => b_is_number  h
abbrev d_is_set : Stmt := top 14
def s_is_set (T : Tb) : SS := (ssCons (ssIf (sOr (sNot (sUn (isiD T 4) (sVar 0))) (sNot (sCall allD' (saCons (sLc false [4] (siSeq (sVar 0)) (sgName 4) (fun _ h => .ok true h) (sCall (f_is_number T) (saCons (sVar 4) (saCons (sK (.int 0)) (saCons (sOp subD (sVar 1) (sK (.int 1))) saNil))))) saNil))))
  (ssCons (ssRet (sK (.bl false)))
  ssNil)
  ssNil)
  (ssCons (ssRet (sCall allD' (saCons (sLc false [2, 3] (siArg itZipX (saCons (sVar 0) (saCons (sSl false (sVar 0) (soSome (sK (.int 1))) soNone) saNil))) (sgTup 2 (sgCons (sgName 2) (sgCons (sgName 3) sgNil))) (fun _ h => .ok true h) (sOp ltS (sVar 2) (sVar 3))) saNil)))
  ssNil))
def f_is_set (T : Tb) : List D → Bs → R D := runFn 2 5 (s_is_set T)
theorem b_is_set {Z : Cfg} {X : Cx} {W : WX} (G_is_number : FnG Z "is_number" 1 (f_is_number Z.T)) (h : XO Z tx 1 ["thing", "servers", "one", "other", "server"] (defScope d_is_set) none X W) : PSs X (defBody d_is_set) (tS' Z.T W (s_is_set Z.T)) :=
  (psv_cons (psv_if (PW.pt (pvt_or (pvt_not (pvt_val rfl (v_isi h (by decide +kernel) (N_tuple h (by decide +kernel)) (v_var (i := 0) h (by decide +kernel))))) (pvt_or1 (pvt_not (pvt_val rfl (v_bf B_all h (by decide +kernel) (pav_cons rfl (v_lc (own := [("server", 4)]) h (by decide +kernel) (i_seq h (v_var (i := 0) h (by decide +kernel))) (fun _ h1 => ⟨(g_name h1 (by decide +kernel) rfl), ptv_nil, (v_call h1 G_is_number rfl (by decide +kernel) rfl (pav_cons rfl (v_var (i := 4) h1 (by decide +kernel)) (pav_cons rfl pv_int (pav_cons rfl (v_sub h1 (v_var (i := 1) h1 (by decide +kernel)) pv_int) pav_nil))))⟩)) pav_nil)))))))
  (psv_cons (psv_ret pv_bl)
  psv_nil)
  psv_nil)
  (psv_cons (psv_ret (v_bf B_all h (by decide +kernel) (pav_cons rfl (v_lc (own := [("one", 2), ("other", 3)]) h (by decide +kernel) (i_zipX h (by decide +kernel) (pav_cons rfl (v_var (i := 0) h (by decide +kernel)) (pav_cons rfl (v_sl h (v_var (i := 0) h (by decide +kernel)) (pov_some pv_int) pov_none) pav_nil))) (fun _ h1 => ⟨(g_tup h1 rfl (pgsv_cons rfl (g_name h1 (by decide +kernel) rfl) (pgsv_cons rfl (g_name h1 (by decide +kernel) rfl) pgsv_nil))), ptv_nil, (v_cmp C_ltS h1 rfl (v_var (i := 2) h1 (by decide +kernel)) (v_var (i := 3) h1 (by decide +kernel)))⟩)) pav_nil)))
  psv_nil))
theorem g_is_set {Z : Cfg} (z : Z.Ok tx) (D : DefAt Z "is_set" d_is_set) (G_is_number : FnG Z "is_number" 1 (f_is_number Z.T)) : FnG Z "is_set" 2 (f_is_set Z.T) :=
  fn_of (k := 1) (N := ["thing", "servers", "one", "other", "server"]) (ps := ["thing", "servers"]) z D ⟨rfl, rfl, rfl, by decide +kernel, rfl, by decide +kernel, by decide +kernel⟩ (fun _ _ _ _ _ _ us hl => match us, hl with | [_, _], _ => rfl) fun X W h => b_is_set G_is_number h
abbrev d_is_item : Stmt := top 15
def s_is_item (T : Tb) : SS := (ssCons (ssIf (sOr (sNot (sUn (isiD T 4) (sVar 0))) (sOr (sOp (eqD true) (sCall lenD (saCons (sVar 0) saNil)) (sK (.int 2))) (sNot (sCall (f_is_set T) (saCons (sOp ixD (sVar 0) (sK (.int 0))) (saCons (sVar 1) saNil))))))
  (ssCons (ssRet (sK (.bl false)))
  ssNil)
  ssNil)
  (ssCons (ssRet (sCall (f_is_number T) (saCons (sOp ixD (sVar 0) (sK (.int 1))) (saCons (sK (.int 1)) (saCons (sCall lenD (saCons (sOp ixD (sVar 0) (sK (.int 0))) saNil)) saNil)))))
  ssNil))
def f_is_item (T : Tb) : List D → Bs → R D := runFn 2 2 (s_is_item T)
theorem b_is_item {Z : Cfg} {X : Cx} {W : WX} (G_is_number : FnG Z "is_number" 1 (f_is_number Z.T)) (G_is_set : FnG Z "is_set" 2 (f_is_set Z.T)) (h : XO Z tx 2 ["thing", "servers"] (defScope d_is_item) none X W) : PSs X (defBody d_is_item) (tS' Z.T W (s_is_item Z.T)) :=
  (psv_cons (psv_if (PW.pt (pvt_or (pvt_not (pvt_val rfl (v_isi h (by decide +kernel) (N_tuple h (by decide +kernel)) (v_var (i := 0) h (by decide +kernel))))) (pvt_or (t_cmp C_ne h rfl (v_bf B_len h (by decide +kernel) (pav_cons rfl (v_var (i := 0) h (by decide +kernel)) pav_nil)) pv_int) (pvt_or1 (pvt_not (pvt_val rfl (v_call h G_is_set rfl (by decide +kernel) rfl (pav_cons rfl (v_ix h rfl (v_var (i := 0) h (by decide +kernel)) pv_int) (pav_cons rfl (v_var (i := 1) h (by decide +kernel)) pav_nil)))))))))
  (psv_cons (psv_ret pv_bl)
  psv_nil)
  psv_nil)
  (psv_cons (psv_ret (v_call h G_is_number rfl (by decide +kernel) rfl (pav_cons rfl (v_ix h rfl (v_var (i := 0) h (by decide +kernel)) pv_int) (pav_cons rfl pv_int (pav_cons rfl (v_bf B_len h (by decide +kernel) (pav_cons rfl (v_ix h rfl (v_var (i := 0) h (by decide +kernel)) pv_int) pav_nil)) pav_nil)))))
  psv_nil))
theorem g_is_item {Z : Cfg} (z : Z.Ok tx) (D : DefAt Z "is_item" d_is_item) (G_is_number : FnG Z "is_number" 1 (f_is_number Z.T)) (G_is_set : FnG Z "is_set" 2 (f_is_set Z.T)) : FnG Z "is_item" 3 (f_is_item Z.T) :=
  fn_of (k := 2) (N := ["thing", "servers"]) (ps := ["thing", "servers"]) z D ⟨rfl, rfl, rfl, by decide +kernel, rfl, by decide +kernel, by decide +kernel⟩ (fun _ _ _ _ _ _ us hl => match us, hl with | [_, _], _ => rfl) fun X W h => b_is_item G_is_number G_is_set h
abbrev d_Layout_init : Stmt := ((clsBody (top 16)).getD 0 (.Pass ⟨0, 0, 0, 0⟩))
def l1_Layout_init (T : Tb) : SS := (ssCons (ssIf (sNot (sCall (f_is_item T) (saCons (sVar 4) (saCons (sVar 1) saNil))))
  (ssCons (fun _ _ => .no)
  ssNil)
  ssNil)
  ssNil)
def s_Layout_init (T : Tb) : SS := (ssCons (ssIf (sNot (sCall (f_is_number T) (saCons (sVar 1) (saCons (sK (.int 1)) (saCons (sK (.int 8)) saNil)))))
  (ssCons (fun _ _ => .no)
  ssNil)
  ssNil)
  (ssCons (ssIf (sOr (sNot (sUn (isiD2 T 5 4) (sVar 2))) (sNot (sChn leS leS (sK (.int 1)) (sCall lenD (saCons (sVar 2) saNil)) (sK (.int 10)))))
  (ssCons (fun _ _ => .no)
  ssNil)
  ssNil)
  (ssCons (ssFor (siArg itEnum2 (saCons (sVar 2) saNil)) (sgTup 2 (sgCons (sgName 3) (sgCons (sgName 4) sgNil)))
  (l1_Layout_init T))
  (ssCons (ssFld T 0 (sVar 0) (sVar 1))
  (ssCons (ssFld T 1 (sVar 0) (sCall tupleD (saCons (sVar 2) saNil)))
  ssNil)))))
def f_Layout_init (T : Tb) : List D → Bs → R D := runFn 3 5 (s_Layout_init T)
theorem b_Layout_init {Z : Cfg} {X : Cx} {W : WX} (G_is_number : FnG Z "is_number" 1 (f_is_number Z.T)) (G_is_item : FnG Z "is_item" 3 (f_is_item Z.T)) (h : XO Z tx 3 ["self", "servers", "items", "index", "item"] (defScope d_Layout_init) none X W) : PSs X (defBody d_Layout_init) (tS' Z.T W (s_Layout_init Z.T)) :=
  (psv_cons (psv_if (pvt_not (pvt_val rfl (v_call h G_is_number rfl (by decide +kernel) rfl (pav_cons rfl (v_var (i := 1) h (by decide +kernel)) (pav_cons rfl pv_int (pav_cons rfl (v_co h (by decide +kernel) rfl) pav_nil))))))
  (psv_cons pvs_never
  psv_nil)
  psv_nil)
  (psv_cons (psv_if (PW.pt (pvt_or (pvt_not (pvt_val rfl (v_isi2 h (by decide +kernel) (N_list h (by decide +kernel)) (N_tuple h (by decide +kernel)) (v_var (i := 2) h (by decide +kernel))))) (pvt_or1 (pvt_not (t_chn C_leS C_leS h rfl pv_int (v_bf B_len h (by decide +kernel) (pav_cons rfl (v_var (i := 2) h (by decide +kernel)) pav_nil)) (v_co h (by decide +kernel) rfl))))))
  (psv_cons pvs_never
  psv_nil)
  psv_nil)
  (psv_cons (s_for (own := [3, 4]) h rfl (i_enum2 h (by decide +kernel) (pav_cons rfl (v_var (i := 2) h (by decide +kernel)) pav_nil)) (g_tup h rfl (pgsv_cons rfl (g_name h (by decide +kernel) rfl) (pgsv_cons rfl (g_name h (by decide +kernel) rfl) pgsv_nil)))
  (psv_cons (psv_if (pvt_not (pvt_val rfl (v_call h G_is_item rfl (by decide +kernel) rfl (pav_cons rfl (v_var (i := 4) h (by decide +kernel)) (pav_cons rfl (v_var (i := 1) h (by decide +kernel)) pav_nil)))))
  (psv_cons pvs_never
  psv_nil)
  psv_nil)
  psv_nil))
  (psv_cons (s_fld (i := 0) h rfl (v_var (i := 0) h (by decide +kernel)) (v_var (i := 1) h (by decide +kernel)))
  (psv_cons (s_fld (i := 1) h rfl (v_var (i := 0) h (by decide +kernel)) (v_bt B_tuple h (by decide +kernel) (pav_cons rfl (v_var (i := 2) h (by decide +kernel)) pav_nil)))
  psv_nil)))))
theorem g_Layout_init {Z : Cfg} (z : Z.Ok tx) (D : IDef Z "Layout" 0 "Layout.__init__" d_Layout_init) (G_is_number : FnG Z "is_number" 1 (f_is_number Z.T)) (G_is_item : FnG Z "is_item" 3 (f_is_item Z.T)) : MkG Z "Layout" 0 4 (f_Layout_init Z.T) :=
  mk_of (k := 3) (N := ["self", "servers", "items", "index", "item"]) (ps := ["self", "servers", "items"]) z D ⟨rfl, rfl, rfl, by decide +kernel, rfl, by decide +kernel, by decide +kernel⟩ (fun _ _ _ _ _ _ us hl => match us, hl with | [_, _, _], _ => rfl) fun X W h => b_Layout_init G_is_number G_is_item h
abbrev d__law_renamed : Stmt := top 42
def s__law_renamed (T : Tb) : SS := (ssCons (ssRet (sCall (sortDS false) (saCons (sLc false [2, 3] (siSeq (sVar 0)) (sgTup 2 (sgCons (sgName 2) (sgCons (sgName 3) sgNil))) (fun _ h => .ok true h) (sTup (saCons (sCall tupleD (saCons (sCall (sortDS false) (saCons (sLc false [4] (siSeq (sVar 2)) (sgName 4) (fun _ h => .ok true h) (sOp ixD (sVar 1) (sVar 4))) saNil)) saNil)) (saCons (sVar 3) saNil)))) saNil)))
  ssNil)
def f__law_renamed (T : Tb) : List D → Bs → R D := runFn 2 5 (s__law_renamed T)
theorem b__law_renamed {Z : Cfg} {X : Cx} {W : WX}  (h : XO Z tx 0 ["_law_items_here", "_law_order", "_law_holders", "_law_need", "_law_server"] (defScope d__law_renamed) none X W) : PSs X (defBody d__law_renamed) (tS' Z.T W (s__law_renamed Z.T)) :=
  (psv_cons (psv_ret (v_bf B_sortDS h (by decide +kernel) (pav_cons rfl (v_lc (own := [("_law_holders", 2), ("_law_need", 3)]) h (by decide +kernel) (i_seq h (v_var (i := 0) h (by decide +kernel))) (fun _ h1 => ⟨(g_tup h1 rfl (pgsv_cons rfl (g_name h1 (by decide +kernel) rfl) (pgsv_cons rfl (g_name h1 (by decide +kernel) rfl) pgsv_nil))), ptv_nil, (pv_tup (pav_cons rfl (v_bt B_tuple h1 (by decide +kernel) (pav_cons rfl (v_bf B_sortDS h1 (by decide +kernel) (pav_cons rfl (v_lc (own := [("_law_server", 4)]) h1 (by decide +kernel) (i_seq h1 (v_var (i := 2) h1 (by decide +kernel))) (fun _ h2 => ⟨(g_name h2 (by decide +kernel) rfl), ptv_nil, (v_ix h2 rfl (v_var (i := 1) h2 (by decide +kernel)) (v_var (i := 4) h2 (by decide +kernel)))⟩)) pav_nil)) pav_nil)) (pav_cons rfl (v_var (i := 3) h1 (by decide +kernel)) pav_nil)))⟩)) pav_nil)))
  psv_nil)
theorem g__law_renamed {Z : Cfg} (z : Z.Ok tx) (D : DefAt Z "_law_renamed" d__law_renamed)  : FnG Z "_law_renamed" 1 (f__law_renamed Z.T) :=
  fn_of (k := 0) (N := ["_law_items_here", "_law_order", "_law_holders", "_law_need", "_law_server"]) (ps := ["_law_items_here", "_law_order"]) z D ⟨rfl, rfl, rfl, by decide +kernel, rfl, by decide +kernel, by decide +kernel⟩ (fun _ _ _ _ _ _ us hl => match us, hl with | [_, _], _ => rfl) fun X W h => b__law_renamed  h
abbrev d_check_layout : Stmt := top 18
def s_check_layout (T : Tb) : SS := (ssCons (ssIf (sNot (sUn (isiD T 7) (sVar 0)))
  (ssCons (fun _ _ => .no)
  ssNil)
  ssNil)
  ssNil)
def f_check_layout (T : Tb) : List D → Bs → R D := runFn 1 1 (s_check_layout T)
theorem b_check_layout {Z : Cfg} {X : Cx} {W : WX}  (h : XO Z tx 0 ["layout"] (defScope d_check_layout) none X W) : PSs X (defBody d_check_layout) (tS' Z.T W (s_check_layout Z.T)) :=
  (psv_cons (psv_if (pvt_not (pvt_val rfl (v_isi h (by decide +kernel) (N_own (i := 0) h rfl (by decide +kernel)) (v_var (i := 0) h (by decide +kernel)))))
  (psv_cons pvs_never
  psv_nil)
  psv_nil)
  psv_nil)
theorem g_check_layout {Z : Cfg} (z : Z.Ok tx) (D : DefAt Z "check_layout" d_check_layout)  : FnG Z "check_layout" 1 (f_check_layout Z.T) :=
  fn_of (k := 0) (N := ["layout"]) (ps := ["layout"]) z D ⟨rfl, rfl, rfl, by decide +kernel, rfl, by decide +kernel, by decide +kernel⟩ (fun _ _ _ _ _ _ us hl => match us, hl with | [_], _ => rfl) fun X W h => b_check_layout  h
abbrev d_check_few : Stmt := top 27
def s_check_few (T : Tb) : SS := (ssCons (ssExpr (sCall (f_check_layout T) (saCons (sVar 0) saNil)))
  (ssCons (ssIf (sOp gtS (sUn (fldD T 0) (sVar 0)) (sK (.int 6)))
  (ssCons (fun _ _ => .no)
  ssNil)
  ssNil)
  ssNil))
def f_check_few (T : Tb) : List D → Bs → R D := runFn 1 1 (s_check_few T)
theorem b_check_few {Z : Cfg} {X : Cx} {W : WX} (G_check_layout : FnG Z "check_layout" 1 (f_check_layout Z.T)) (h : XO Z tx 1 ["layout"] (defScope d_check_few) none X W) : PSs X (defBody d_check_few) (tS' Z.T W (s_check_few Z.T)) :=
  (psv_cons (psv_expr rfl (v_call h G_check_layout rfl (by decide +kernel) rfl (pav_cons rfl (v_var (i := 0) h (by decide +kernel)) pav_nil)))
  (psv_cons (psv_if (t_cmp C_gtS h rfl (v_fld (i := 0) h rfl rfl (v_var (i := 0) h (by decide +kernel))) (v_co h (by decide +kernel) rfl))
  (psv_cons pvs_never
  psv_nil)
  psv_nil)
  psv_nil))
theorem g_check_few {Z : Cfg} (z : Z.Ok tx) (D : DefAt Z "check_few" d_check_few) (G_check_layout : FnG Z "check_layout" 1 (f_check_layout Z.T)) : FnG Z "check_few" 2 (f_check_few Z.T) :=
  fn_of (k := 1) (N := ["layout"]) (ps := ["layout"]) z D ⟨rfl, rfl, rfl, by decide +kernel, rfl, by decide +kernel, by decide +kernel⟩ (fun _ _ _ _ _ _ us hl => match us, hl with | [_], _ => rfl) fun X W h => b_check_few G_check_layout h
abbrev d_orders_of : Stmt := top 29
def l1_orders_of (T : Tb) : SS := (ssCons (ssAsg (sLc2 false [3, 4] [4] (siSeq (sVar 1)) (sgName 3) (fun _ h => .ok true h) (siArg itRng1 (saCons (sVar 0) saNil)) (sgName 4) (sTru (sOp (inD true) (sVar 4) (sVar 3))) (sTup (saStar (sVar 3) (saCons (sVar 4) saNil)))) (sgName 1))
  ssNil)
def s_orders_of (T : Tb) : SS := (ssCons (ssAsg (sLst false (saCons (sTup saNil) saNil)) (sgName 1))
  (ssCons (ssFor (siArg itRng1 (saCons (sVar 0) saNil)) (sgName 2)
  (l1_orders_of T))
  (ssCons (ssRet (sVar 1))
  ssNil)))
def f_orders_of (T : Tb) : List D → Bs → R D := runFn 1 5 (s_orders_of T)
theorem b_orders_of {Z : Cfg} {X : Cx} {W : WX}  (h : XO Z tx 0 ["servers", "found", "step", "order", "server"] (defScope d_orders_of) none X W) : PSs X (defBody d_orders_of) (tS' Z.T W (s_orders_of Z.T)) :=
  (psv_cons (s_set h (by decide +kernel) rfl (pv_lst (pav_cons rfl (pv_tup pav_nil) pav_nil)))
  (psv_cons (s_for (own := [2]) h rfl (i_rng1 h (by decide +kernel) (pav_cons rfl (v_var (i := 0) h (by decide +kernel)) pav_nil)) (g_name h (by decide +kernel) rfl)
  (psv_cons (s_setLc2 (own := [("order", 3), ("server", 4)]) h (by decide +kernel) (by decide +kernel) (i_seq h (v_var (i := 1) h (by decide +kernel))) (fun _ h1 => ⟨(g_name h1 (by decide +kernel) rfl), ptv_nil, (i_rng1 h1 (by decide +kernel) (pav_cons rfl (v_var (i := 0) h1 (by decide +kernel)) pav_nil)), (g_name h1 (by decide +kernel) rfl), (ptv_one (t_cmp C_notIn h1 rfl (v_var (i := 4) h1 (by decide +kernel)) (v_var (i := 3) h1 (by decide +kernel)))), (pv_tup (pav_star h1.K (v_var (i := 3) h1 (by decide +kernel)) (pav_cons rfl (v_var (i := 4) h1 (by decide +kernel)) pav_nil)))⟩))
  psv_nil))
  (psv_cons (psv_ret (v_var (i := 1) h (by decide +kernel)))
  psv_nil)))
theorem g_orders_of {Z : Cfg} (z : Z.Ok tx) (D : DefAt Z "orders_of" d_orders_of)  : FnG Z "orders_of" 1 (f_orders_of Z.T) :=
  fn_of (k := 0) (N := ["servers", "found", "step", "order", "server"]) (ps := ["servers"]) z D ⟨rfl, rfl, rfl, by decide +kernel, rfl, by decide +kernel, by decide +kernel⟩ (fun _ _ _ _ _ _ us hl => match us, hl with | [_], _ => rfl) fun X W h => b_orders_of  h
abbrev d_form_by : Stmt := top 30
def s_form_by (T : Tb) : SS := (ssCons (ssAsg (sLc false [3, 4] (siSeq (sVar 0)) (sgTup 2 (sgCons (sgName 3) (sgCons (sgName 4) sgNil))) (fun _ h => .ok true h) (sTup (saCons (sCall tupleD (saCons (sCall (sortDS false) (saCons (sLc false [5] (siSeq (sVar 3)) (sgName 5) (fun _ h => .ok true h) (sOp ixD (sVar 1) (sVar 5))) saNil)) saNil)) (saCons (sVar 4) saNil)))) (sgName 2))
  (ssCons (ssRet (sCall tupleD (saCons (sCall (sortDS false) (saCons (sVar 2) saNil)) saNil)))
  ssNil))
def f_form_by (T : Tb) : List D → Bs → R D := runFn 2 6 (s_form_by T)
theorem b_form_by {Z : Cfg} {X : Cx} {W : WX}  (h : XO Z tx 0 ["items", "order", "rows", "holders", "need", "server"] (defScope d_form_by) none X W) : PSs X (defBody d_form_by) (tS' Z.T W (s_form_by Z.T)) :=
  (psv_cons (s_setLc (own := [("holders", 3), ("need", 4)]) h (by decide +kernel) (by decide +kernel) (i_seq h (v_var (i := 0) h (by decide +kernel))) (fun _ h1 => ⟨(g_tup h1 rfl (pgsv_cons rfl (g_name h1 (by decide +kernel) rfl) (pgsv_cons rfl (g_name h1 (by decide +kernel) rfl) pgsv_nil))), ptv_nil, (pv_tup (pav_cons rfl (v_bt B_tuple h1 (by decide +kernel) (pav_cons rfl (v_bf B_sortDS h1 (by decide +kernel) (pav_cons rfl (v_lc (own := [("server", 5)]) h1 (by decide +kernel) (i_seq h1 (v_var (i := 3) h1 (by decide +kernel))) (fun _ h2 => ⟨(g_name h2 (by decide +kernel) rfl), ptv_nil, (v_ix h2 rfl (v_var (i := 1) h2 (by decide +kernel)) (v_var (i := 5) h2 (by decide +kernel)))⟩)) pav_nil)) pav_nil)) (pav_cons rfl (v_var (i := 4) h1 (by decide +kernel)) pav_nil)))⟩))
  (psv_cons (psv_ret (v_bt B_tuple h (by decide +kernel) (pav_cons rfl (v_bf B_sortDS h (by decide +kernel) (pav_cons rfl (v_var (i := 2) h (by decide +kernel)) pav_nil)) pav_nil)))
  psv_nil))
theorem g_form_by {Z : Cfg} (z : Z.Ok tx) (D : DefAt Z "form_by" d_form_by)  : FnG Z "form_by" 1 (f_form_by Z.T) :=
  fn_of (k := 0) (N := ["items", "order", "rows", "holders", "need", "server"]) (ps := ["items", "order"]) z D ⟨rfl, rfl, rfl, by decide +kernel, rfl, by decide +kernel, by decide +kernel⟩ (fun _ _ _ _ _ _ us hl => match us, hl with | [_, _], _ => rfl) fun X W h => b_form_by  h
abbrev d_smallest : Stmt := top 31
def s_smallest (T : Tb) : SS := (ssCons (ssRet (sCall minDS (saCons (sLc false [1] (siSeq (sCall (f_orders_of T) (saCons (sUn (fldD T 0) (sVar 0)) saNil))) (sgName 1) (fun _ h => .ok true h) (sCall (f_form_by T) (saCons (sUn (fldD T 1) (sVar 0)) (saCons (sVar 1) saNil)))) saNil)))
  ssNil)
def f_smallest (T : Tb) : List D → Bs → R D := runFn 1 2 (s_smallest T)
theorem b_smallest {Z : Cfg} {X : Cx} {W : WX} (G_orders_of : FnG Z "orders_of" 1 (f_orders_of Z.T)) (G_form_by : FnG Z "form_by" 1 (f_form_by Z.T)) (h : XO Z tx 1 ["layout", "order"] (defScope d_smallest) none X W) : PSs X (defBody d_smallest) (tS' Z.T W (s_smallest Z.T)) :=
  (psv_cons (psv_ret (v_bf B_minS h (by decide +kernel) (pav_cons rfl (v_lc (own := [("order", 1)]) h (by decide +kernel) (i_seq h (v_call h G_orders_of rfl (by decide +kernel) rfl (pav_cons rfl (v_fld (i := 0) h rfl rfl (v_var (i := 0) h (by decide +kernel))) pav_nil))) (fun _ h1 => ⟨(g_name h1 (by decide +kernel) rfl), ptv_nil, (v_call h1 G_form_by rfl (by decide +kernel) rfl (pav_cons rfl (v_fld (i := 1) h1 rfl rfl (v_var (i := 0) h1 (by decide +kernel))) (pav_cons rfl (v_var (i := 1) h1 (by decide +kernel)) pav_nil)))⟩)) pav_nil)))
  psv_nil)
theorem g_smallest {Z : Cfg} (z : Z.Ok tx) (D : DefAt Z "smallest" d_smallest) (G_orders_of : FnG Z "orders_of" 1 (f_orders_of Z.T)) (G_form_by : FnG Z "form_by" 1 (f_form_by Z.T)) : FnG Z "smallest" 2 (f_smallest Z.T) :=
  fn_of (k := 1) (N := ["layout", "order"]) (ps := ["layout"]) z D ⟨rfl, rfl, rfl, by decide +kernel, rfl, by decide +kernel, by decide +kernel⟩ (fun _ _ _ _ _ _ us hl => match us, hl with | [_], _ => rfl) fun X W h => b_smallest G_orders_of G_form_by h
abbrev d_form : Stmt := top 32
def s_form (T : Tb) : SS := (ssCons (ssExpr (sCall (f_check_few T) (saCons (sVar 0) saNil)))
  (ssCons (ssRet (sCall (f_smallest T) (saCons (sVar 0) saNil)))
  ssNil))
def f_form (T : Tb) : List D → Bs → R D := runFn 1 1 (s_form T)
theorem b_form {Z : Cfg} {X : Cx} {W : WX} (G_check_few : FnG Z "check_few" 2 (f_check_few Z.T)) (G_smallest : FnG Z "smallest" 2 (f_smallest Z.T)) (h : XO Z tx 2 ["layout"] (defScope d_form) none X W) : PSs X (defBody d_form) (tS' Z.T W (s_form Z.T)) :=
  (psv_cons (psv_expr rfl (v_call h G_check_few rfl (by decide +kernel) rfl (pav_cons rfl (v_var (i := 0) h (by decide +kernel)) pav_nil)))
  (psv_cons (psv_ret (v_call h G_smallest rfl (by decide +kernel) rfl (pav_cons rfl (v_var (i := 0) h (by decide +kernel)) pav_nil)))
  psv_nil))
theorem g_form {Z : Cfg} (z : Z.Ok tx) (D : DefAt Z "form" d_form) (G_check_few : FnG Z "check_few" 2 (f_check_few Z.T)) (G_smallest : FnG Z "smallest" 2 (f_smallest Z.T)) : FnG Z "form" 3 (f_form Z.T) :=
  fn_of (k := 2) (N := ["layout"]) (ps := ["layout"]) z D ⟨rfl, rfl, rfl, by decide +kernel, rfl, by decide +kernel, by decide +kernel⟩ (fun _ _ _ _ _ _ us hl => match us, hl with | [_], _ => rfl) fun X W h => b_form G_check_few G_smallest h
abbrev d_own_renamings : Stmt := top 35
def s_own_renamings (T : Tb) : SS := (ssCons (ssExpr (sCall (f_check_few T) (saCons (sVar 0) saNil)))
  (ssCons (ssAsg (sCall tupleD (saCons (sCall (sortDS false) (saCons (sUn (fldD T 1) (sVar 0)) saNil)) saNil)) (sgName 1))
  (ssCons (ssRet (sLc false [2] (siSeq (sCall (f_orders_of T) (saCons (sUn (fldD T 0) (sVar 0)) saNil))) (sgName 2) (sTru (sOp (eqD false) (sCall (f_form_by T) (saCons (sUn (fldD T 1) (sVar 0)) (saCons (sVar 2) saNil))) (sVar 1))) (sVar 2)))
  ssNil)))
def f_own_renamings (T : Tb) : List D → Bs → R D := runFn 1 3 (s_own_renamings T)
theorem b_own_renamings {Z : Cfg} {X : Cx} {W : WX} (G_check_few : FnG Z "check_few" 2 (f_check_few Z.T)) (G_orders_of : FnG Z "orders_of" 1 (f_orders_of Z.T)) (G_form_by : FnG Z "form_by" 1 (f_form_by Z.T)) (h : XO Z tx 2 ["layout", "goal", "order"] (defScope d_own_renamings) none X W) : PSs X (defBody d_own_renamings) (tS' Z.T W (s_own_renamings Z.T)) :=
  (psv_cons (psv_expr rfl (v_call h G_check_few rfl (by decide +kernel) rfl (pav_cons rfl (v_var (i := 0) h (by decide +kernel)) pav_nil)))
  (psv_cons (s_set h (by decide +kernel) rfl (v_bt B_tuple h (by decide +kernel) (pav_cons rfl (v_bf B_sortDS h (by decide +kernel) (pav_cons rfl (v_fld (i := 1) h rfl rfl (v_var (i := 0) h (by decide +kernel))) pav_nil)) pav_nil)))
  (psv_cons (psv_ret (v_lc (own := [("order", 2)]) h (by decide +kernel) (i_seq h (v_call h G_orders_of rfl (by decide +kernel) rfl (pav_cons rfl (v_fld (i := 0) h rfl rfl (v_var (i := 0) h (by decide +kernel))) pav_nil))) (fun _ h1 => ⟨(g_name h1 (by decide +kernel) rfl), (ptv_one (t_cmp C_eq h1 rfl (v_call h1 G_form_by rfl (by decide +kernel) rfl (pav_cons rfl (v_fld (i := 1) h1 rfl rfl (v_var (i := 0) h1 (by decide +kernel))) (pav_cons rfl (v_var (i := 2) h1 (by decide +kernel)) pav_nil))) (v_var (i := 1) h1 (by decide +kernel)))), (v_var (i := 2) h1 (by decide +kernel))⟩)))
  psv_nil)))
theorem g_own_renamings {Z : Cfg} (z : Z.Ok tx) (D : DefAt Z "own_renamings" d_own_renamings) (G_check_few : FnG Z "check_few" 2 (f_check_few Z.T)) (G_orders_of : FnG Z "orders_of" 1 (f_orders_of Z.T)) (G_form_by : FnG Z "form_by" 1 (f_form_by Z.T)) : FnG Z "own_renamings" 3 (f_own_renamings Z.T) :=
  fn_of (k := 2) (N := ["layout", "goal", "order"]) (ps := ["layout"]) z D ⟨rfl, rfl, rfl, by decide +kernel, rfl, by decide +kernel, by decide +kernel⟩ (fun _ _ _ _ _ _ us hl => match us, hl with | [_], _ => rfl) fun X W h => b_own_renamings G_check_few G_orders_of G_form_by h
abbrev d_kinds : Stmt := top 36
def l1_kinds (T : Tb) : SS := (ssCons (ssIf (sOp (inD true) (sVar 4) (sVar 3))
  (ssCons (ssAsg (sUn (srtSetL false) (sLc false [6] (siSeq (sVar 1)) (sgName 6) (fun _ h => .ok true h) (sOp ixD (sVar 6) (sVar 4)))) (sgName 5))
  (ssCons (ssExpr (sBm appD (sVar 2) (saCons (sCall tupleD (saCons (sVar 5) saNil)) saNil)))
  (ssCons (ssExpr (sBm extD (sVar 3) (saCons (sVar 5) saNil)))
  ssNil)))
  ssNil)
  ssNil)
def s_kinds (T : Tb) : SS := (ssCons (ssAsg (sTup (saCons (sCall (f_own_renamings T) (saCons (sVar 0) saNil)) (saCons (sLst true saNil) (saCons (sLst true saNil) saNil)))) (sgTup 3 (sgCons (sgName 1) (sgCons (sgName 2) (sgCons (sgName 3) sgNil)))))
  (ssCons (ssFor (siArg itRng1 (saCons (sUn (fldD T 0) (sVar 0)) saNil)) (sgName 4)
  (l1_kinds T))
  (ssCons (ssRet (sVar 2))
  ssNil)))
def f_kinds (T : Tb) : List D → Bs → R D := runFn 1 7 (s_kinds T)
theorem b_kinds {Z : Cfg} {X : Cx} {W : WX} (G_own_renamings : FnG Z "own_renamings" 3 (f_own_renamings Z.T)) (h : XO Z tx 3 ["layout", "orders", "found", "seen", "server", "kind", "order"] (defScope d_kinds) none X W) : PSs X (defBody d_kinds) (tS' Z.T W (s_kinds Z.T)) :=
  (psv_cons (s_par3 h (by decide +kernel) (by decide +kernel) (by decide +kernel) (by decide +kernel) (by decide +kernel) (pav_cons rfl (v_call h G_own_renamings rfl (by decide +kernel) rfl (pav_cons rfl (v_var (i := 0) h (by decide +kernel)) pav_nil)) (pav_cons rfl (pv_lst pav_nil) (pav_cons rfl (pv_lst pav_nil) pav_nil))))
  (psv_cons (s_for (own := [4]) h rfl (i_rng1 h (by decide +kernel) (pav_cons rfl (v_fld (i := 0) h rfl rfl (v_var (i := 0) h (by decide +kernel))) pav_nil)) (g_name h (by decide +kernel) rfl)
  (psv_cons (psv_if (t_cmp C_notIn h rfl (v_var (i := 4) h (by decide +kernel)) (v_var (i := 3) h (by decide +kernel)))
  (psv_cons (s_set h (by decide +kernel) rfl (v_sl' h (by decide +kernel) (v_lc (own := [("order", 6)]) h (by decide +kernel) (i_seq h (v_var (i := 1) h (by decide +kernel))) (fun _ h1 => ⟨(g_name h1 (by decide +kernel) rfl), ptv_nil, (v_ix h1 rfl (v_var (i := 6) h1 (by decide +kernel)) (v_var (i := 4) h1 (by decide +kernel)))⟩))))
  (psv_cons (psv_expr rfl (v_bm M_append h (by decide +kernel) (v_var (i := 2) h (by decide +kernel)) (pav_cons rfl (v_bt B_tuple h (by decide +kernel) (pav_cons rfl (v_var (i := 5) h (by decide +kernel)) pav_nil)) pav_nil)))
  (psv_cons (psv_expr rfl (v_bm M_extend h (by decide +kernel) (v_var (i := 3) h (by decide +kernel)) (pav_cons rfl (v_var (i := 5) h (by decide +kernel)) pav_nil)))
  psv_nil)))
  psv_nil)
  psv_nil))
  (psv_cons (psv_ret (v_var (i := 2) h (by decide +kernel)))
  psv_nil)))
theorem g_kinds {Z : Cfg} (z : Z.Ok tx) (D : DefAt Z "kinds" d_kinds) (G_own_renamings : FnG Z "own_renamings" 3 (f_own_renamings Z.T)) : FnG Z "kinds" 4 (f_kinds Z.T) :=
  fn_of (k := 3) (N := ["layout", "orders", "found", "seen", "server", "kind", "order"]) (ps := ["layout"]) z D ⟨rfl, rfl, rfl, by decide +kernel, rfl, by decide +kernel, by decide +kernel⟩ (fun _ _ _ _ _ _ us hl => match us, hl with | [_], _ => rfl) fun X W h => b_kinds G_own_renamings h
abbrev d_factorial : Stmt := top 22
def l1_factorial (T : Tb) : SS := (ssCons (ssAug 1 imulD (sVar 2))
  ssNil)
def s_factorial (T : Tb) : SS := (ssCons (ssAsg (sK (.int 1)) (sgName 1))
  (ssCons (ssFor (siArg itRng2 (saCons (sK (.int 2)) (saCons (sOp (addD false) (sVar 0) (sK (.int 1))) saNil))) (sgName 2)
  (l1_factorial T))
  (ssCons (ssRet (sVar 1))
  ssNil)))
def f_factorial (T : Tb) : List D → Bs → R D := runFn 1 3 (s_factorial T)
theorem b_factorial {Z : Cfg} {X : Cx} {W : WX}  (h : XO Z tx 0 ["many", "found", "late"] (defScope d_factorial) none X W) : PSs X (defBody d_factorial) (tS' Z.T W (s_factorial Z.T)) :=
  (psv_cons (s_set h (by decide +kernel) rfl pv_int)
  (psv_cons (s_for (own := [2]) h rfl (i_rng2 h (by decide +kernel) (pav_cons rfl pv_int (pav_cons rfl (v_add h (v_var (i := 0) h (by decide +kernel)) pv_int) pav_nil))) (g_name h (by decide +kernel) rfl)
  (psv_cons (s_aug (i := 1) I_mul h (by decide +kernel) (v_var (i := 2) h (by decide +kernel)))
  psv_nil))
  (psv_cons (psv_ret (v_var (i := 1) h (by decide +kernel)))
  psv_nil)))
theorem g_factorial {Z : Cfg} (z : Z.Ok tx) (D : DefAt Z "factorial" d_factorial)  : FnG Z "factorial" 1 (f_factorial Z.T) :=
  fn_of (k := 0) (N := ["many", "found", "late"]) (ps := ["many"]) z D ⟨rfl, rfl, rfl, by decide +kernel, rfl, by decide +kernel, by decide +kernel⟩ (fun _ _ _ _ _ _ us hl => match us, hl with | [_], _ => rfl) fun X W h => b_factorial  h
abbrev d_count_named : Stmt := top 37
def s_count_named (T : Tb) : SS := (ssCons (ssRet (sOp fdivD (sCall (f_factorial T) (saCons (sUn (fldD T 0) (sVar 0)) saNil)) (sCall lenD (saCons (sCall (f_own_renamings T) (saCons (sVar 0) saNil)) saNil))))
  ssNil)
def f_count_named (T : Tb) : List D → Bs → R D := runFn 1 1 (s_count_named T)
theorem b_count_named {Z : Cfg} {X : Cx} {W : WX} (G_own_renamings : FnG Z "own_renamings" 3 (f_own_renamings Z.T)) (G_factorial : FnG Z "factorial" 1 (f_factorial Z.T)) (h : XO Z tx 3 ["layout"] (defScope d_count_named) none X W) : PSs X (defBody d_count_named) (tS' Z.T W (s_count_named Z.T)) :=
  (psv_cons (psv_ret (v_fdiv h (v_call h G_factorial rfl (by decide +kernel) rfl (pav_cons rfl (v_fld (i := 0) h rfl rfl (v_var (i := 0) h (by decide +kernel))) pav_nil)) (v_bf B_len h (by decide +kernel) (pav_cons rfl (v_call h G_own_renamings rfl (by decide +kernel) rfl (pav_cons rfl (v_var (i := 0) h (by decide +kernel)) pav_nil)) pav_nil))))
  psv_nil)
theorem g_count_named {Z : Cfg} (z : Z.Ok tx) (D : DefAt Z "count_named" d_count_named) (G_own_renamings : FnG Z "own_renamings" 3 (f_own_renamings Z.T)) (G_factorial : FnG Z "factorial" 1 (f_factorial Z.T)) : FnG Z "count_named" 4 (f_count_named Z.T) :=
  fn_of (k := 3) (N := ["layout"]) (ps := ["layout"]) z D ⟨rfl, rfl, rfl, by decide +kernel, rfl, by decide +kernel, by decide +kernel⟩ (fun _ _ _ _ _ _ us hl => match us, hl with | [_], _ => rfl) fun X W h => b_count_named G_own_renamings G_factorial h
abbrev d_check_two : Stmt := top 28
def s_check_two (T : Tb) : SS := (ssCons (ssExpr (sCall (f_check_few T) (saCons (sVar 0) saNil)))
  (ssCons (ssExpr (sCall (f_check_few T) (saCons (sVar 1) saNil)))
  ssNil))
def f_check_two (T : Tb) : List D → Bs → R D := runFn 2 2 (s_check_two T)
theorem b_check_two {Z : Cfg} {X : Cx} {W : WX} (G_check_few : FnG Z "check_few" 2 (f_check_few Z.T)) (h : XO Z tx 2 ["one", "other"] (defScope d_check_two) none X W) : PSs X (defBody d_check_two) (tS' Z.T W (s_check_two Z.T)) :=
  (psv_cons (psv_expr rfl (v_call h G_check_few rfl (by decide +kernel) rfl (pav_cons rfl (v_var (i := 0) h (by decide +kernel)) pav_nil)))
  (psv_cons (psv_expr rfl (v_call h G_check_few rfl (by decide +kernel) rfl (pav_cons rfl (v_var (i := 1) h (by decide +kernel)) pav_nil)))
  psv_nil))
theorem g_check_two {Z : Cfg} (z : Z.Ok tx) (D : DefAt Z "check_two" d_check_two) (G_check_few : FnG Z "check_few" 2 (f_check_few Z.T)) : FnG Z "check_two" 3 (f_check_two Z.T) :=
  fn_of (k := 2) (N := ["one", "other"]) (ps := ["one", "other"]) z D ⟨rfl, rfl, rfl, by decide +kernel, rfl, by decide +kernel, by decide +kernel⟩ (fun _ _ _ _ _ _ us hl => match us, hl with | [_, _], _ => rfl) fun X W h => b_check_two G_check_few h
abbrev d_Renaming_init : Stmt := ((clsBody (top 25)).getD 0 (.Pass ⟨0, 0, 0, 0⟩))
def s_Renaming_init (T : Tb) : SS := (ssCons (ssFld T 2 (sVar 0) (sCall tupleD (saCons (sVar 1) saNil)))
  ssNil)
def f_Renaming_init (T : Tb) : List D → Bs → R D := runFn 2 2 (s_Renaming_init T)
theorem b_Renaming_init {Z : Cfg} {X : Cx} {W : WX}  (h : XO Z tx 0 ["self", "order"] (defScope d_Renaming_init) none X W) : PSs X (defBody d_Renaming_init) (tS' Z.T W (s_Renaming_init Z.T)) :=
  (psv_cons (s_fld (i := 2) h rfl (v_var (i := 0) h (by decide +kernel)) (v_bt B_tuple h (by decide +kernel) (pav_cons rfl (v_var (i := 1) h (by decide +kernel)) pav_nil)))
  psv_nil)
theorem g_Renaming_init {Z : Cfg} (z : Z.Ok tx) (D : IDef Z "Renaming" 1 "Renaming.__init__" d_Renaming_init)  : MkG Z "Renaming" 1 1 (f_Renaming_init Z.T) :=
  mk_of (k := 0) (N := ["self", "order"]) (ps := ["self", "order"]) z D ⟨rfl, rfl, rfl, by decide +kernel, rfl, by decide +kernel, by decide +kernel⟩ (fun _ _ _ _ _ _ us hl => match us, hl with | [_, _], _ => rfl) fun X W h => b_Renaming_init  h
abbrev d_Forms_init : Stmt := ((clsBody (top 26)).getD 0 (.Pass ⟨0, 0, 0, 0⟩))
def s_Forms_init (T : Tb) : SS := (ssCons (ssFld T 3 (sVar 0) (sCall tupleD (saCons (sVar 1) saNil)))
  (ssCons (ssFld T 4 (sVar 0) (sCall tupleD (saCons (sVar 2) saNil)))
  ssNil))
def f_Forms_init (T : Tb) : List D → Bs → R D := runFn 3 3 (s_Forms_init T)
theorem b_Forms_init {Z : Cfg} {X : Cx} {W : WX}  (h : XO Z tx 0 ["self", "one", "other"] (defScope d_Forms_init) none X W) : PSs X (defBody d_Forms_init) (tS' Z.T W (s_Forms_init Z.T)) :=
  (psv_cons (s_fld (i := 3) h rfl (v_var (i := 0) h (by decide +kernel)) (v_bt B_tuple h (by decide +kernel) (pav_cons rfl (v_var (i := 1) h (by decide +kernel)) pav_nil)))
  (psv_cons (s_fld (i := 4) h rfl (v_var (i := 0) h (by decide +kernel)) (v_bt B_tuple h (by decide +kernel) (pav_cons rfl (v_var (i := 2) h (by decide +kernel)) pav_nil)))
  psv_nil))
theorem g_Forms_init {Z : Cfg} (z : Z.Ok tx) (D : IDef Z "Forms" 2 "Forms.__init__" d_Forms_init)  : MkG Z "Forms" 2 1 (f_Forms_init Z.T) :=
  mk_of (k := 0) (N := ["self", "one", "other"]) (ps := ["self", "one", "other"]) z D ⟨rfl, rfl, rfl, by decide +kernel, rfl, by decide +kernel, by decide +kernel⟩ (fun _ _ _ _ _ _ us hl => match us, hl with | [_, _, _], _ => rfl) fun X W h => b_Forms_init  h
abbrev d_compare_layouts : Stmt := top 33
def l1_compare_layouts (T : Tb) : SS := (ssCons (ssIf (sOp (eqD false) (sCall (f_form_by T) (saCons (sUn (fldD T 1) (sVar 0)) (saCons (sVar 3) saNil))) (sVar 2))
  (ssCons (ssRet (sCall (makeD 1 true (f_Renaming_init T)) (saCons (sVar 3) saNil)))
  ssNil)
  ssNil)
  ssNil)
def s_compare_layouts (T : Tb) : SS := (ssCons (ssExpr (sCall (f_check_two T) (saCons (sVar 0) (saCons (sVar 1) saNil))))
  (ssCons (ssIf (sOp (eqD false) (sUn (fldD T 0) (sVar 0)) (sUn (fldD T 0) (sVar 1)))
  (ssCons (ssAsg (sCall tupleD (saCons (sCall (sortDS false) (saCons (sUn (fldD T 1) (sVar 1)) saNil)) saNil)) (sgName 2))
  (ssCons (ssFor (siSeq (sCall (f_orders_of T) (saCons (sUn (fldD T 0) (sVar 0)) saNil))) (sgName 3)
  (l1_compare_layouts T))
  ssNil))
  ssNil)
  (ssCons (ssRet (sCall (makeD 2 true (f_Forms_init T)) (saCons (sCall (f_smallest T) (saCons (sVar 0) saNil)) (saCons (sCall (f_smallest T) (saCons (sVar 1) saNil)) saNil))))
  ssNil)))
def f_compare_layouts (T : Tb) : List D → Bs → R D := runFn 2 4 (s_compare_layouts T)
theorem b_compare_layouts {Z : Cfg} {X : Cx} {W : WX} (G_orders_of : FnG Z "orders_of" 1 (f_orders_of Z.T)) (G_form_by : FnG Z "form_by" 1 (f_form_by Z.T)) (G_smallest : FnG Z "smallest" 2 (f_smallest Z.T)) (G_check_two : FnG Z "check_two" 3 (f_check_two Z.T)) (K_Renaming : MkG Z "Renaming" 1 1 (f_Renaming_init Z.T)) (K_Forms : MkG Z "Forms" 2 1 (f_Forms_init Z.T)) (h : XO Z tx 3 ["one", "other", "goal", "order"] (defScope d_compare_layouts) none X W) : PSs X (defBody d_compare_layouts) (tS' Z.T W (s_compare_layouts Z.T)) :=
  (psv_cons (psv_expr rfl (v_call h G_check_two rfl (by decide +kernel) rfl (pav_cons rfl (v_var (i := 0) h (by decide +kernel)) (pav_cons rfl (v_var (i := 1) h (by decide +kernel)) pav_nil))))
  (psv_cons (psv_if (t_cmp C_eq h rfl (v_fld (i := 0) h rfl rfl (v_var (i := 0) h (by decide +kernel))) (v_fld (i := 0) h rfl rfl (v_var (i := 1) h (by decide +kernel))))
  (psv_cons (s_set h (by decide +kernel) rfl (v_bt B_tuple h (by decide +kernel) (pav_cons rfl (v_bf B_sortDS h (by decide +kernel) (pav_cons rfl (v_fld (i := 1) h rfl rfl (v_var (i := 1) h (by decide +kernel))) pav_nil)) pav_nil)))
  (psv_cons (s_for (own := [3]) h rfl (i_seq h (v_call h G_orders_of rfl (by decide +kernel) rfl (pav_cons rfl (v_fld (i := 0) h rfl rfl (v_var (i := 0) h (by decide +kernel))) pav_nil))) (g_name h (by decide +kernel) rfl)
  (psv_cons (psv_if (t_cmp C_eq h rfl (v_call h G_form_by rfl (by decide +kernel) rfl (pav_cons rfl (v_fld (i := 1) h rfl rfl (v_var (i := 0) h (by decide +kernel))) (pav_cons rfl (v_var (i := 3) h (by decide +kernel)) pav_nil))) (v_var (i := 2) h (by decide +kernel)))
  (psv_cons (psv_ret (v_make h K_Renaming rfl (by decide +kernel) rfl (pav_cons rfl (v_var (i := 3) h (by decide +kernel)) pav_nil)))
  psv_nil)
  psv_nil)
  psv_nil))
  psv_nil))
  psv_nil)
  (psv_cons (psv_ret (v_make h K_Forms rfl (by decide +kernel) rfl (pav_cons rfl (v_call h G_smallest rfl (by decide +kernel) rfl (pav_cons rfl (v_var (i := 0) h (by decide +kernel)) pav_nil)) (pav_cons rfl (v_call h G_smallest rfl (by decide +kernel) rfl (pav_cons rfl (v_var (i := 1) h (by decide +kernel)) pav_nil)) pav_nil))))
  psv_nil)))
theorem g_compare_layouts {Z : Cfg} (z : Z.Ok tx) (D : DefAt Z "compare_layouts" d_compare_layouts) (G_orders_of : FnG Z "orders_of" 1 (f_orders_of Z.T)) (G_form_by : FnG Z "form_by" 1 (f_form_by Z.T)) (G_smallest : FnG Z "smallest" 2 (f_smallest Z.T)) (G_check_two : FnG Z "check_two" 3 (f_check_two Z.T)) (K_Renaming : MkG Z "Renaming" 1 1 (f_Renaming_init Z.T)) (K_Forms : MkG Z "Forms" 2 1 (f_Forms_init Z.T)) : FnG Z "compare_layouts" 4 (f_compare_layouts Z.T) :=
  fn_of (k := 3) (N := ["one", "other", "goal", "order"]) (ps := ["one", "other"]) z D ⟨rfl, rfl, rfl, by decide +kernel, rfl, by decide +kernel, by decide +kernel⟩ (fun _ _ _ _ _ _ us hl => match us, hl with | [_, _], _ => rfl) fun X W h => b_compare_layouts G_orders_of G_form_by G_smallest G_check_two K_Renaming K_Forms h
abbrev d_are_alike : Stmt := top 34
def s_are_alike (T : Tb) : SS := (ssCons (ssRet (sUn (isiD T 8) (sCall (f_compare_layouts T) (saCons (sVar 0) (saCons (sVar 1) saNil)))))
  ssNil)
def f_are_alike (T : Tb) : List D → Bs → R D := runFn 2 2 (s_are_alike T)
theorem b_are_alike {Z : Cfg} {X : Cx} {W : WX} (G_compare_layouts : FnG Z "compare_layouts" 4 (f_compare_layouts Z.T)) (h : XO Z tx 4 ["one", "other"] (defScope d_are_alike) none X W) : PSs X (defBody d_are_alike) (tS' Z.T W (s_are_alike Z.T)) :=
  (psv_cons (psv_ret (v_isi h (by decide +kernel) (N_own (i := 1) h rfl (by decide +kernel)) (v_call h G_compare_layouts rfl (by decide +kernel) rfl (pav_cons rfl (v_var (i := 0) h (by decide +kernel)) (pav_cons rfl (v_var (i := 1) h (by decide +kernel)) pav_nil)))))
  psv_nil)
theorem g_are_alike {Z : Cfg} (z : Z.Ok tx) (D : DefAt Z "are_alike" d_are_alike) (G_compare_layouts : FnG Z "compare_layouts" 4 (f_compare_layouts Z.T)) : FnG Z "are_alike" 5 (f_are_alike Z.T) :=
  fn_of (k := 4) (N := ["one", "other"]) (ps := ["one", "other"]) z D ⟨rfl, rfl, rfl, by decide +kernel, rfl, by decide +kernel, by decide +kernel⟩ (fun _ _ _ _ _ _ us hl => match us, hl with | [_, _], _ => rfl) fun X W h => b_are_alike G_compare_layouts h
abbrev d_is_order : Stmt := top 17
def s_is_order (T : Tb) : SS := (ssCons (ssIf (sOr (sOp (eqD true) (sCall lenD (saCons (sVar 0) saNil)) (sVar 1)) (sNot (sCall allD' (saCons (sLc false [2] (siSeq (sVar 0)) (sgName 2) (fun _ h => .ok true h) (sCall (f_is_number T) (saCons (sVar 2) (saCons (sK (.int 0)) (saCons (sOp subD (sVar 1) (sK (.int 1))) saNil))))) saNil))))
  (ssCons (ssRet (sK (.bl false)))
  ssNil)
  ssNil)
  (ssCons (ssRet (sOp (eqD false) (sUn lenSetD (sVar 0)) (sVar 1)))
  ssNil))
def f_is_order (T : Tb) : List D → Bs → R D := runFn 2 3 (s_is_order T)
theorem b_is_order {Z : Cfg} {X : Cx} {W : WX} (G_is_number : FnG Z "is_number" 1 (f_is_number Z.T)) (h : XO Z tx 1 ["thing", "many", "number"] (defScope d_is_order) none X W) : PSs X (defBody d_is_order) (tS' Z.T W (s_is_order Z.T)) :=
  (psv_cons (psv_if (PW.pt (pvt_or (t_cmp C_ne h rfl (v_bf B_len h (by decide +kernel) (pav_cons rfl (v_var (i := 0) h (by decide +kernel)) pav_nil)) (v_var (i := 1) h (by decide +kernel))) (pvt_or1 (pvt_not (pvt_val rfl (v_bf B_all h (by decide +kernel) (pav_cons rfl (v_lc (own := [("number", 2)]) h (by decide +kernel) (i_seq h (v_var (i := 0) h (by decide +kernel))) (fun _ h1 => ⟨(g_name h1 (by decide +kernel) rfl), ptv_nil, (v_call h1 G_is_number rfl (by decide +kernel) rfl (pav_cons rfl (v_var (i := 2) h1 (by decide +kernel)) (pav_cons rfl pv_int (pav_cons rfl (v_sub h1 (v_var (i := 1) h1 (by decide +kernel)) pv_int) pav_nil))))⟩)) pav_nil)))))))
  (psv_cons (psv_ret pv_bl)
  psv_nil)
  psv_nil)
  (psv_cons (psv_ret (v_cmp C_eq h rfl (v_ls h (by decide +kernel) (v_var (i := 0) h (by decide +kernel))) (v_var (i := 1) h (by decide +kernel))))
  psv_nil))
theorem g_is_order {Z : Cfg} (z : Z.Ok tx) (D : DefAt Z "is_order" d_is_order) (G_is_number : FnG Z "is_number" 1 (f_is_number Z.T)) : FnG Z "is_order" 2 (f_is_order Z.T) :=
  fn_of (k := 1) (N := ["thing", "many", "number"]) (ps := ["thing", "many"]) z D ⟨rfl, rfl, rfl, by decide +kernel, rfl, by decide +kernel, by decide +kernel⟩ (fun _ _ _ _ _ _ us hl => match us, hl with | [_, _], _ => rfl) fun X W h => b_is_order G_is_number h
abbrev d_Layout_renamed : Stmt := ((clsBody (top 16)).getD 9 (.Pass ⟨0, 0, 0, 0⟩))
def s_Layout_renamed (T : Tb) : SS := (ssCons (ssIf (sOr (sNot (sUn (isiD T 4) (sVar 1))) (sNot (sCall (f_is_order T) (saCons (sVar 1) (saCons (sUn (fldD T 0) (sVar 0)) saNil)))))
  (ssCons (fun _ _ => .no)
  ssNil)
  ssNil)
  (ssCons (ssAsg (sLc false [3, 4] (siSeq (sUn (fldD T 1) (sVar 0))) (sgTup 2 (sgCons (sgName 3) (sgCons (sgName 4) sgNil))) (fun _ h => .ok true h) (sTup (saCons (sCall tupleD (saCons (sCall (sortDS false) (saCons (sLc false [5] (siSeq (sVar 3)) (sgName 5) (fun _ h => .ok true h) (sOp ixD (sVar 1) (sVar 5))) saNil)) saNil)) (saCons (sVar 4) saNil)))) (sgName 2))
  (ssCons (ssRet (sCall (makeD 0 true (f_Layout_init T)) (saCons (sUn (fldD T 0) (sVar 0)) (saCons (sVar 2) saNil))))
  ssNil)))
def f_Layout_renamed (T : Tb) : List D → Bs → R D := runFn 2 6 (s_Layout_renamed T)
theorem b_Layout_renamed {Z : Cfg} {X : Cx} {W : WX} (K_Layout : MkG Z "Layout" 0 4 (f_Layout_init Z.T)) (G_is_order : FnG Z "is_order" 2 (f_is_order Z.T)) (h : XO Z tx 5 ["self", "order", "rows", "holders", "need", "server"] (defScope d_Layout_renamed) none X W) : PSs X (defBody d_Layout_renamed) (tS' Z.T W (s_Layout_renamed Z.T)) :=
  (psv_cons (psv_if (PW.pt (pvt_or (pvt_not (pvt_val rfl (v_isi h (by decide +kernel) (N_tuple h (by decide +kernel)) (v_var (i := 1) h (by decide +kernel))))) (pvt_or1 (pvt_not (pvt_val rfl (v_call h G_is_order rfl (by decide +kernel) rfl (pav_cons rfl (v_var (i := 1) h (by decide +kernel)) (pav_cons rfl (v_fld (i := 0) h rfl rfl (v_var (i := 0) h (by decide +kernel))) pav_nil))))))))
  (psv_cons pvs_never
  psv_nil)
  psv_nil)
  (psv_cons (s_setLc (own := [("holders", 3), ("need", 4)]) h (by decide +kernel) (by decide +kernel) (i_seq h (v_fld (i := 1) h rfl rfl (v_var (i := 0) h (by decide +kernel)))) (fun _ h1 => ⟨(g_tup h1 rfl (pgsv_cons rfl (g_name h1 (by decide +kernel) rfl) (pgsv_cons rfl (g_name h1 (by decide +kernel) rfl) pgsv_nil))), ptv_nil, (pv_tup (pav_cons rfl (v_bt B_tuple h1 (by decide +kernel) (pav_cons rfl (v_bf B_sortDS h1 (by decide +kernel) (pav_cons rfl (v_lc (own := [("server", 5)]) h1 (by decide +kernel) (i_seq h1 (v_var (i := 3) h1 (by decide +kernel))) (fun _ h2 => ⟨(g_name h2 (by decide +kernel) rfl), ptv_nil, (v_ix h2 rfl (v_var (i := 1) h2 (by decide +kernel)) (v_var (i := 5) h2 (by decide +kernel)))⟩)) pav_nil)) pav_nil)) (pav_cons rfl (v_var (i := 4) h1 (by decide +kernel)) pav_nil)))⟩))
  (psv_cons (psv_ret (v_make h K_Layout rfl (by decide +kernel) rfl (pav_cons rfl (v_fld (i := 0) h rfl rfl (v_var (i := 0) h (by decide +kernel))) (pav_cons rfl (v_var (i := 2) h (by decide +kernel)) pav_nil))))
  psv_nil)))
theorem g_Layout_renamed {Z : Cfg} (z : Z.Ok tx) (D : MDef Z 0 "renamed" "Layout.renamed" d_Layout_renamed) (K_Layout : MkG Z "Layout" 0 4 (f_Layout_init Z.T)) (G_is_order : FnG Z "is_order" 2 (f_is_order Z.T)) : MtG Z 0 "renamed" 6 (f_Layout_renamed Z.T) :=
  mt_of (k := 5) (N := ["self", "order", "rows", "holders", "need", "server"]) (ps := ["self", "order"]) z D ⟨rfl, rfl, rfl, by decide +kernel, rfl, by decide +kernel, by decide +kernel⟩ (fun _ _ _ _ _ _ us hl => match us, hl with | [_, _], _ => rfl) fun X W h => b_Layout_renamed K_Layout G_is_order h
abbrev d_Renaming_shows : Stmt := ((clsBody (top 25)).getD 2 (.Pass ⟨0, 0, 0, 0⟩))
def s_Renaming_shows (T : Tb) : SS := (ssCons (ssExpr (sCall (f_check_two T) (saCons (sVar 1) (saCons (sVar 2) saNil))))
  (ssCons (ssIf (sOr (sOp (eqD true) (sUn (fldD T 0) (sVar 1)) (sUn (fldD T 0) (sVar 2))) (sNot (sCall (f_is_order T) (saCons (sUn (fldD T 2) (sVar 0)) (saCons (sUn (fldD T 0) (sVar 1)) saNil)))))
  (ssCons (ssRet (sK (.bl false)))
  ssNil)
  ssNil)
  (ssCons (ssRet (sOp (eqD false) (sCall (sortDS false) (saCons (sUn (fldD T 1) (sMeth 13 (fun c => List.lookup c [(0, (f_Layout_renamed T))]) (sVar 1) (saCons (sUn (fldD T 2) (sVar 0)) saNil))) saNil)) (sCall (sortDS false) (saCons (sUn (fldD T 1) (sVar 2)) saNil))))
  ssNil)))
def f_Renaming_shows (T : Tb) : List D → Bs → R D := runFn 3 3 (s_Renaming_shows T)
theorem b_Renaming_shows {Z : Cfg} {X : Cx} {W : WX} (G_check_two : FnG Z "check_two" 3 (f_check_two Z.T)) (G_is_order : FnG Z "is_order" 2 (f_is_order Z.T)) (M_Layout_renamed : MtG Z 0 "renamed" 6 (f_Layout_renamed Z.T)) (h : XO Z tx 6 ["self", "one", "other"] (defScope d_Renaming_shows) none X W) : PSs X (defBody d_Renaming_shows) (tS' Z.T W (s_Renaming_shows Z.T)) :=
  (psv_cons (psv_expr rfl (v_call h G_check_two rfl (by decide +kernel) rfl (pav_cons rfl (v_var (i := 1) h (by decide +kernel)) (pav_cons rfl (v_var (i := 2) h (by decide +kernel)) pav_nil))))
  (psv_cons (psv_if (PW.pt (pvt_or (t_cmp C_ne h rfl (v_fld (i := 0) h rfl rfl (v_var (i := 1) h (by decide +kernel))) (v_fld (i := 0) h rfl rfl (v_var (i := 2) h (by decide +kernel)))) (pvt_or1 (pvt_not (pvt_val rfl (v_call h G_is_order rfl (by decide +kernel) rfl (pav_cons rfl (v_fld (i := 2) h rfl rfl (v_var (i := 0) h (by decide +kernel))) (pav_cons rfl (v_fld (i := 0) h rfl rfl (v_var (i := 1) h (by decide +kernel))) pav_nil))))))))
  (psv_cons (psv_ret pv_bl)
  psv_nil)
  psv_nil)
  (psv_cons (psv_ret (v_cmp C_eq h rfl (v_bf B_sortDS h (by decide +kernel) (pav_cons rfl (v_fld (i := 1) h rfl rfl (v_meth (i := 13) (j := 6) h (MtL.cons M_Layout_renamed (rfl : Nat.ble 6 6 = true) MtL.nil) rfl rfl (by decide +kernel) (v_var (i := 1) h (by decide +kernel)) (pav_cons rfl (v_fld (i := 2) h rfl rfl (v_var (i := 0) h (by decide +kernel))) pav_nil))) pav_nil)) (v_bf B_sortDS h (by decide +kernel) (pav_cons rfl (v_fld (i := 1) h rfl rfl (v_var (i := 2) h (by decide +kernel))) pav_nil))))
  psv_nil)))
theorem g_Renaming_shows {Z : Cfg} (z : Z.Ok tx) (D : MDef Z 1 "shows" "Renaming.shows" d_Renaming_shows) (G_check_two : FnG Z "check_two" 3 (f_check_two Z.T)) (G_is_order : FnG Z "is_order" 2 (f_is_order Z.T)) (M_Layout_renamed : MtG Z 0 "renamed" 6 (f_Layout_renamed Z.T)) : MtG Z 1 "shows" 7 (f_Renaming_shows Z.T) :=
  mt_of (k := 6) (N := ["self", "one", "other"]) (ps := ["self", "one", "other"]) z D ⟨rfl, rfl, rfl, by decide +kernel, rfl, by decide +kernel, by decide +kernel⟩ (fun _ _ _ _ _ _ us hl => match us, hl with | [_, _, _], _ => rfl) fun X W h => b_Renaming_shows G_check_two G_is_order M_Layout_renamed h
abbrev d_Forms_shows : Stmt := ((clsBody (top 26)).getD 2 (.Pass ⟨0, 0, 0, 0⟩))
def s_Forms_shows (T : Tb) : SS := (ssCons (ssExpr (sCall (f_check_two T) (saCons (sVar 1) (saCons (sVar 2) saNil))))
  (ssCons (ssIf (sOp (eqD true) (sTup (saCons (sUn (fldD T 3) (sVar 0)) (saCons (sUn (fldD T 4) (sVar 0)) saNil))) (sTup (saCons (sCall (f_smallest T) (saCons (sVar 1) saNil)) (saCons (sCall (f_smallest T) (saCons (sVar 2) saNil)) saNil))))
  (ssCons (ssRet (sK (.bl false)))
  ssNil)
  ssNil)
  (ssCons (ssRet (sOr (sOp (eqD true) (sUn (fldD T 0) (sVar 1)) (sUn (fldD T 0) (sVar 2))) (sOp (eqD true) (sUn (fldD T 3) (sVar 0)) (sUn (fldD T 4) (sVar 0)))))
  ssNil)))
def f_Forms_shows (T : Tb) : List D → Bs → R D := runFn 3 3 (s_Forms_shows T)
theorem b_Forms_shows {Z : Cfg} {X : Cx} {W : WX} (G_smallest : FnG Z "smallest" 2 (f_smallest Z.T)) (G_check_two : FnG Z "check_two" 3 (f_check_two Z.T)) (h : XO Z tx 3 ["self", "one", "other"] (defScope d_Forms_shows) none X W) : PSs X (defBody d_Forms_shows) (tS' Z.T W (s_Forms_shows Z.T)) :=
  (psv_cons (psv_expr rfl (v_call h G_check_two rfl (by decide +kernel) rfl (pav_cons rfl (v_var (i := 1) h (by decide +kernel)) (pav_cons rfl (v_var (i := 2) h (by decide +kernel)) pav_nil))))
  (psv_cons (psv_if (t_cmp C_ne h rfl (pv_tup (pav_cons rfl (v_fld (i := 3) h rfl rfl (v_var (i := 0) h (by decide +kernel))) (pav_cons rfl (v_fld (i := 4) h rfl rfl (v_var (i := 0) h (by decide +kernel))) pav_nil))) (pv_tup (pav_cons rfl (v_call h G_smallest rfl (by decide +kernel) rfl (pav_cons rfl (v_var (i := 1) h (by decide +kernel)) pav_nil)) (pav_cons rfl (v_call h G_smallest rfl (by decide +kernel) rfl (pav_cons rfl (v_var (i := 2) h (by decide +kernel)) pav_nil)) pav_nil))))
  (psv_cons (psv_ret pv_bl)
  psv_nil)
  psv_nil)
  (psv_cons (psv_ret (pv_or (v_cmp C_ne h rfl (v_fld (i := 0) h rfl rfl (v_var (i := 1) h (by decide +kernel))) (v_fld (i := 0) h rfl rfl (v_var (i := 2) h (by decide +kernel)))) (pv_one (v_cmp C_ne h rfl (v_fld (i := 3) h rfl rfl (v_var (i := 0) h (by decide +kernel))) (v_fld (i := 4) h rfl rfl (v_var (i := 0) h (by decide +kernel)))))))
  psv_nil)))
theorem g_Forms_shows {Z : Cfg} (z : Z.Ok tx) (D : MDef Z 2 "shows" "Forms.shows" d_Forms_shows) (G_smallest : FnG Z "smallest" 2 (f_smallest Z.T)) (G_check_two : FnG Z "check_two" 3 (f_check_two Z.T)) : MtG Z 2 "shows" 4 (f_Forms_shows Z.T) :=
  mt_of (k := 3) (N := ["self", "one", "other"]) (ps := ["self", "one", "other"]) z D ⟨rfl, rfl, rfl, by decide +kernel, rfl, by decide +kernel, by decide +kernel⟩ (fun _ _ _ _ _ _ us hl => match us, hl with | [_, _, _], _ => rfl) fun X W h => b_Forms_shows G_smallest G_check_two h
abbrev d_Layout___eq__ : Stmt := ((clsBody (top 16)).getD 1 (.Pass ⟨0, 0, 0, 0⟩))
def s_Layout___eq__ (T : Tb) : SS := (ssCons (ssRet (sAnd (sUn (isiD T 7) (sVar 1)) (sOp (eqD false) (sTup (saCons (sUn (fldD T 0) (sVar 0)) (saCons (sUn (fldD T 1) (sVar 0)) saNil))) (sTup (saCons (sUn (fldD T 0) (sVar 1)) (saCons (sUn (fldD T 1) (sVar 1)) saNil))))))
  ssNil)
def f_Layout___eq__ (T : Tb) : List D → Bs → R D := runFn 2 2 (s_Layout___eq__ T)
theorem b_Layout___eq__ {Z : Cfg} {X : Cx} {W : WX}  (h : XO Z tx 0 ["self", "other"] (defScope d_Layout___eq__) none X W) : PSs X (defBody d_Layout___eq__) (tS' Z.T W (s_Layout___eq__ Z.T)) :=
  (psv_cons (psv_ret (pv_and (v_isi h (by decide +kernel) (N_own (i := 0) h rfl (by decide +kernel)) (v_var (i := 1) h (by decide +kernel))) (pv_one (v_cmp C_eq h rfl (pv_tup (pav_cons rfl (v_fld (i := 0) h rfl rfl (v_var (i := 0) h (by decide +kernel))) (pav_cons rfl (v_fld (i := 1) h rfl rfl (v_var (i := 0) h (by decide +kernel))) pav_nil))) (pv_tup (pav_cons rfl (v_fld (i := 0) h rfl rfl (v_var (i := 1) h (by decide +kernel))) (pav_cons rfl (v_fld (i := 1) h rfl rfl (v_var (i := 1) h (by decide +kernel))) pav_nil)))))))
  psv_nil)
theorem g_Layout___eq__ {Z : Cfg} (z : Z.Ok tx) (D : MDef Z 0 "__eq__" "Layout.__eq__" d_Layout___eq__)  : MtG Z 0 "__eq__" 1 (f_Layout___eq__ Z.T) :=
  mt_of (k := 0) (N := ["self", "other"]) (ps := ["self", "other"]) z D ⟨rfl, rfl, rfl, by decide +kernel, rfl, by decide +kernel, by decide +kernel⟩ (fun _ _ _ _ _ _ us hl => match us, hl with | [_, _], _ => rfl) fun X W h => b_Layout___eq__  h
abbrev d_Renaming___eq__ : Stmt := ((clsBody (top 25)).getD 1 (.Pass ⟨0, 0, 0, 0⟩))
def s_Renaming___eq__ (T : Tb) : SS := (ssCons (ssRet (sAnd (sUn (isiD T 8) (sVar 1)) (sOp (eqD false) (sUn (fldD T 2) (sVar 0)) (sUn (fldD T 2) (sVar 1)))))
  ssNil)
def f_Renaming___eq__ (T : Tb) : List D → Bs → R D := runFn 2 2 (s_Renaming___eq__ T)
theorem b_Renaming___eq__ {Z : Cfg} {X : Cx} {W : WX}  (h : XO Z tx 0 ["self", "other"] (defScope d_Renaming___eq__) none X W) : PSs X (defBody d_Renaming___eq__) (tS' Z.T W (s_Renaming___eq__ Z.T)) :=
  (psv_cons (psv_ret (pv_and (v_isi h (by decide +kernel) (N_own (i := 1) h rfl (by decide +kernel)) (v_var (i := 1) h (by decide +kernel))) (pv_one (v_cmp C_eq h rfl (v_fld (i := 2) h rfl rfl (v_var (i := 0) h (by decide +kernel))) (v_fld (i := 2) h rfl rfl (v_var (i := 1) h (by decide +kernel)))))))
  psv_nil)
theorem g_Renaming___eq__ {Z : Cfg} (z : Z.Ok tx) (D : MDef Z 1 "__eq__" "Renaming.__eq__" d_Renaming___eq__)  : MtG Z 1 "__eq__" 1 (f_Renaming___eq__ Z.T) :=
  mt_of (k := 0) (N := ["self", "other"]) (ps := ["self", "other"]) z D ⟨rfl, rfl, rfl, by decide +kernel, rfl, by decide +kernel, by decide +kernel⟩ (fun _ _ _ _ _ _ us hl => match us, hl with | [_, _], _ => rfl) fun X W h => b_Renaming___eq__  h
abbrev d_Forms___eq__ : Stmt := ((clsBody (top 26)).getD 1 (.Pass ⟨0, 0, 0, 0⟩))
def s_Forms___eq__ (T : Tb) : SS := (ssCons (ssRet (sAnd (sUn (isiD T 9) (sVar 1)) (sOp (eqD false) (sTup (saCons (sUn (fldD T 3) (sVar 0)) (saCons (sUn (fldD T 4) (sVar 0)) saNil))) (sTup (saCons (sUn (fldD T 3) (sVar 1)) (saCons (sUn (fldD T 4) (sVar 1)) saNil))))))
  ssNil)
def f_Forms___eq__ (T : Tb) : List D → Bs → R D := runFn 2 2 (s_Forms___eq__ T)
theorem b_Forms___eq__ {Z : Cfg} {X : Cx} {W : WX}  (h : XO Z tx 0 ["self", "other"] (defScope d_Forms___eq__) none X W) : PSs X (defBody d_Forms___eq__) (tS' Z.T W (s_Forms___eq__ Z.T)) :=
  (psv_cons (psv_ret (pv_and (v_isi h (by decide +kernel) (N_own (i := 2) h rfl (by decide +kernel)) (v_var (i := 1) h (by decide +kernel))) (pv_one (v_cmp C_eq h rfl (pv_tup (pav_cons rfl (v_fld (i := 3) h rfl rfl (v_var (i := 0) h (by decide +kernel))) (pav_cons rfl (v_fld (i := 4) h rfl rfl (v_var (i := 0) h (by decide +kernel))) pav_nil))) (pv_tup (pav_cons rfl (v_fld (i := 3) h rfl rfl (v_var (i := 1) h (by decide +kernel))) (pav_cons rfl (v_fld (i := 4) h rfl rfl (v_var (i := 1) h (by decide +kernel))) pav_nil)))))))
  psv_nil)
theorem g_Forms___eq__ {Z : Cfg} (z : Z.Ok tx) (D : MDef Z 2 "__eq__" "Forms.__eq__" d_Forms___eq__)  : MtG Z 2 "__eq__" 1 (f_Forms___eq__ Z.T) :=
  mt_of (k := 0) (N := ["self", "other"]) (ps := ["self", "other"]) z D ⟨rfl, rfl, rfl, by decide +kernel, rfl, by decide +kernel, by decide +kernel⟩ (fun _ _ _ _ _ _ us hl => match us, hl with | [_, _], _ => rfl) fun X W h => b_Forms___eq__  h
abbrev d__law_pair_right : Stmt := top 43
def l1__law_pair_right (T : Tb) : SS := (ssCons (ssIf (sOp (eqD true) (sMeth 14 (fun c => List.lookup c [(1, (f_Renaming_shows T)), (2, (f_Forms_shows T))]) (sCall (makeD 1 true (f_Renaming_init T)) (saCons (sCall (listD false) (saCons (sVar 6) saNil)) saNil)) (saCons (sVar 1) (saCons (sVar 2) saNil))) (sOp (inD false) (sVar 6) (sVar 4)))
  (ssCons (ssRet (sK (.bl false)))
  ssNil)
  ssNil)
  ssNil)
def s__law_pair_right (T : Tb) : SS := (ssCons (ssAsg (sIte (sOp (eqD false) (sUn (fldD T 0) (sVar 1)) (sUn (fldD T 0) (sVar 2))) (sCall (f__law_orders T) (saCons (sUn (fldD T 0) (sVar 1)) saNil)) (sLst false saNil)) (sgName 3))
  (ssCons (ssAsg (sLc false [6] (siSeq (sVar 3)) (sgName 6) (sTru (sOp (eqD false) (sCall (f__law_renamed T) (saCons (sUn (fldD T 1) (sVar 1)) (saCons (sVar 6) saNil))) (sCall (sortDS false) (saCons (sUn (fldD T 1) (sVar 2)) saNil)))) (sVar 6)) (sgName 4))
  (ssCons (ssAsg (sCall (f_compare_layouts T) (saCons (sVar 1) (saCons (sVar 2) saNil))) (sgName 5))
  (ssCons (ssIf (sOr (sOp (eqD true) (sCall (f_are_alike T) (saCons (sVar 1) (saCons (sVar 2) saNil))) (sOp (eqD true) (sVar 4) (sLst false saNil))) (sNot (sMeth 14 (fun c => List.lookup c [(1, (f_Renaming_shows T)), (2, (f_Forms_shows T))]) (sVar 5) (saCons (sVar 1) (saCons (sVar 2) saNil)))))
  (ssCons (ssRet (sK (.bl false)))
  ssNil)
  ssNil)
  (ssCons (ssIf (sAnd (sOp (eqD true) (sVar 4) (sLst false saNil)) (sOr (sNot (sUn (isiD T 8) (sVar 5))) (sOp (inD true) (sUn (fldD T 2) (sVar 5)) (sVar 4))))
  (ssCons (ssRet (sK (.bl false)))
  ssNil)
  ssNil)
  (ssCons (ssIf (sAnd (sOp (eqD false) (sVar 4) (sLst false saNil)) (sOp (neO [(0, (f_Layout___eq__ T)), (1, (f_Renaming___eq__ T)), (2, (f_Forms___eq__ T))]) (sVar 5) (sCall (makeD 2 true (f_Forms_init T)) (saCons (sCall (f_form T) (saCons (sVar 1) saNil)) (saCons (sCall (f_form T) (saCons (sVar 2) saNil)) saNil)))))
  (ssCons (ssRet (sK (.bl false)))
  ssNil)
  ssNil)
  (ssCons (ssFor (siSeq (sOp (addD false) (sSl false (sVar 3) soNone (soSome (sK (.int 3)))) (sSl false (sVar 3) (soSome (sUn negD (sK (.int 3)))) soNone))) (sgName 6)
  (l1__law_pair_right T))
  (ssCons (ssAsg (sLst false (saCons (sCall (makeD 1 true (f_Renaming_init T)) (saCons (sTup saNil) saNil)) (saCons (sCall (makeD 1 true (f_Renaming_init T)) (saCons (sOp (addD false) (sOp (mulD false) (sTup (saCons (sK (.int 0)) saNil)) (sUn (fldD T 0) (sVar 1))) (sTup (saCons (sK (.int 1)) saNil))) saNil)) (saCons (sCall (makeD 2 true (f_Forms_init T)) (saCons (sSl false (sCall (f_form T) (saCons (sVar 1) saNil)) (soSome (sK (.int 1))) soNone) (saCons (sCall (f_form T) (saCons (sVar 2) saNil)) saNil))) (saCons (sCall (makeD 2 true (f_Forms_init T)) (saCons (sTup saNil) (saCons (sTup saNil) saNil))) saNil))))) (sgName 7))
  (ssCons (ssIf (sAnd (sOp (eqD true) (sVar 4) (sLst false saNil)) (sMeth 14 (fun c => List.lookup c [(1, (f_Renaming_shows T)), (2, (f_Forms_shows T))]) (sCall (makeD 2 true (f_Forms_init T)) (saCons (sCall (f_form T) (saCons (sVar 1) saNil)) (saCons (sCall (f_form T) (saCons (sVar 2) saNil)) saNil))) (saCons (sVar 1) (saCons (sVar 2) saNil))))
  (ssCons (ssRet (sK (.bl false)))
  ssNil)
  ssNil)
  (ssCons (ssRet (sAnd (sNot (sCall anyD' (saCons (sLc false [8] (siSeq (sVar 7)) (sgName 8) (fun _ h => .ok true h) (sMeth 14 (fun c => List.lookup c [(1, (f_Renaming_shows T)), (2, (f_Forms_shows T))]) (sVar 8) (saCons (sVar 1) (saCons (sVar 2) saNil)))) saNil))) (sNot (sCall anyD' (saCons (sLc false [8] (siSeq (sVar 7)) (sgName 8) (fun _ h => .ok true h) (sOp (eqW T [(0, (f_Layout___eq__ T)), (1, (f_Renaming___eq__ T)), (2, (f_Forms___eq__ T))]) (sVar 8) (sVar 5))) saNil)))))
  ssNil))))))))))
def f__law_pair_right (T : Tb) : List D → Bs → R D := runFn 3 9 (s__law_pair_right T)
theorem b__law_pair_right {Z : Cfg} {X : Cx} {W : WX} (G__law_orders : FnG Z "_law_orders" 1 (f__law_orders Z.T)) (G__law_renamed : FnG Z "_law_renamed" 1 (f__law_renamed Z.T)) (G_form : FnG Z "form" 3 (f_form Z.T)) (K_Renaming : MkG Z "Renaming" 1 1 (f_Renaming_init Z.T)) (K_Forms : MkG Z "Forms" 2 1 (f_Forms_init Z.T)) (G_compare_layouts : FnG Z "compare_layouts" 4 (f_compare_layouts Z.T)) (G_are_alike : FnG Z "are_alike" 5 (f_are_alike Z.T)) (M_Renaming_shows : MtG Z 1 "shows" 7 (f_Renaming_shows Z.T)) (M_Forms_shows : MtG Z 2 "shows" 4 (f_Forms_shows Z.T)) (M_Layout___eq__ : MtG Z 0 "__eq__" 1 (f_Layout___eq__ Z.T)) (M_Renaming___eq__ : MtG Z 1 "__eq__" 1 (f_Renaming___eq__ Z.T)) (M_Forms___eq__ : MtG Z 2 "__eq__" 1 (f_Forms___eq__ Z.T)) (h : XO Z tx 7 ["_law_script", "_law_one", "_law_other", "_law_orders_here", "_law_good", "_law_found", "_law_order", "_law_wrong", "_law_some"] (defScope d__law_pair_right) none X W) : PSs X (defBody d__law_pair_right) (tS' Z.T W (s__law_pair_right Z.T)) :=
  (psv_cons (s_set h (by decide +kernel) rfl (pv_ite (t_cmp C_eq h rfl (v_fld (i := 0) h rfl rfl (v_var (i := 1) h (by decide +kernel))) (v_fld (i := 0) h rfl rfl (v_var (i := 2) h (by decide +kernel)))) (v_call h G__law_orders rfl (by decide +kernel) rfl (pav_cons rfl (v_fld (i := 0) h rfl rfl (v_var (i := 1) h (by decide +kernel))) pav_nil)) (pv_lst pav_nil)))
  (psv_cons (s_setLc (own := [("_law_order", 6)]) h (by decide +kernel) (by decide +kernel) (i_seq h (v_var (i := 3) h (by decide +kernel))) (fun _ h1 => ⟨(g_name h1 (by decide +kernel) rfl), (ptv_one (t_cmp C_eq h1 rfl (v_call h1 G__law_renamed rfl (by decide +kernel) rfl (pav_cons rfl (v_fld (i := 1) h1 rfl rfl (v_var (i := 1) h1 (by decide +kernel))) (pav_cons rfl (v_var (i := 6) h1 (by decide +kernel)) pav_nil))) (v_bf B_sortDS h1 (by decide +kernel) (pav_cons rfl (v_fld (i := 1) h1 rfl rfl (v_var (i := 2) h1 (by decide +kernel))) pav_nil)))), (v_var (i := 6) h1 (by decide +kernel))⟩))
  (psv_cons (s_set h (by decide +kernel) rfl (v_call h G_compare_layouts rfl (by decide +kernel) rfl (pav_cons rfl (v_var (i := 1) h (by decide +kernel)) (pav_cons rfl (v_var (i := 2) h (by decide +kernel)) pav_nil))))
  (psv_cons (psv_if (PW.pt (pvt_or (t_cmp C_ne h rfl (v_call h G_are_alike rfl (by decide +kernel) rfl (pav_cons rfl (v_var (i := 1) h (by decide +kernel)) (pav_cons rfl (v_var (i := 2) h (by decide +kernel)) pav_nil))) (v_cmp C_ne h rfl (v_var (i := 4) h (by decide +kernel)) (pv_lst pav_nil))) (pvt_or1 (pvt_not (pvt_val rfl (v_meth (i := 14) (j := 7) h (MtL.cons M_Renaming_shows (rfl : Nat.ble 7 7 = true) (MtL.cons M_Forms_shows (rfl : Nat.ble 4 7 = true) MtL.nil)) rfl rfl (by decide +kernel) (v_var (i := 5) h (by decide +kernel)) (pav_cons rfl (v_var (i := 1) h (by decide +kernel)) (pav_cons rfl (v_var (i := 2) h (by decide +kernel)) pav_nil))))))))
  (psv_cons (psv_ret pv_bl)
  psv_nil)
  psv_nil)
  (psv_cons (psv_if (PW.pt (pvt_and (t_cmp C_ne h rfl (v_var (i := 4) h (by decide +kernel)) (pv_lst pav_nil)) (pvt_and1 (PW.pt (pvt_or (pvt_not (pvt_val rfl (v_isi h (by decide +kernel) (N_own (i := 1) h rfl (by decide +kernel)) (v_var (i := 5) h (by decide +kernel))))) (pvt_or1 (t_cmp C_notIn h rfl (v_fld (i := 2) h rfl rfl (v_var (i := 5) h (by decide +kernel))) (v_var (i := 4) h (by decide +kernel)))))))))
  (psv_cons (psv_ret pv_bl)
  psv_nil)
  psv_nil)
  (psv_cons (psv_if (PW.pt (pvt_and (t_cmp C_eq h rfl (v_var (i := 4) h (by decide +kernel)) (pv_lst pav_nil)) (pvt_and1 (t_neO (j := 1) h (MtL.cons M_Layout___eq__ (rfl : Nat.ble 1 1 = true) (MtL.cons M_Renaming___eq__ (rfl : Nat.ble 1 1 = true) (MtL.cons M_Forms___eq__ (rfl : Nat.ble 1 1 = true) MtL.nil))) rfl rfl (v_var (i := 5) h (by decide +kernel)) (v_make h K_Forms rfl (by decide +kernel) rfl (pav_cons rfl (v_call h G_form rfl (by decide +kernel) rfl (pav_cons rfl (v_var (i := 1) h (by decide +kernel)) pav_nil)) (pav_cons rfl (v_call h G_form rfl (by decide +kernel) rfl (pav_cons rfl (v_var (i := 2) h (by decide +kernel)) pav_nil)) pav_nil)))))))
  (psv_cons (psv_ret pv_bl)
  psv_nil)
  psv_nil)
  (psv_cons (s_for (own := [6]) h rfl (i_seq h (v_add h (v_sl h (v_var (i := 3) h (by decide +kernel)) pov_none (pov_some pv_int)) (v_sl h (v_var (i := 3) h (by decide +kernel)) (pov_some (pv_neg pv_int)) pov_none))) (g_name h (by decide +kernel) rfl)
  (psv_cons (psv_if (t_cmp C_ne h rfl (v_meth (i := 14) (j := 7) h (MtL.cons M_Renaming_shows (rfl : Nat.ble 7 7 = true) (MtL.cons M_Forms_shows (rfl : Nat.ble 4 7 = true) MtL.nil)) rfl rfl (by decide +kernel) (v_make h K_Renaming rfl (by decide +kernel) rfl (pav_cons rfl (v_bt B_list h (by decide +kernel) (pav_cons rfl (v_var (i := 6) h (by decide +kernel)) pav_nil)) pav_nil)) (pav_cons rfl (v_var (i := 1) h (by decide +kernel)) (pav_cons rfl (v_var (i := 2) h (by decide +kernel)) pav_nil))) (v_cmp C_in h rfl (v_var (i := 6) h (by decide +kernel)) (v_var (i := 4) h (by decide +kernel))))
  (psv_cons (psv_ret pv_bl)
  psv_nil)
  psv_nil)
  psv_nil))
  (psv_cons (s_set h (by decide +kernel) rfl (pv_lst (pav_cons rfl (v_make h K_Renaming rfl (by decide +kernel) rfl (pav_cons rfl (pv_tup pav_nil) pav_nil)) (pav_cons rfl (v_make h K_Renaming rfl (by decide +kernel) rfl (pav_cons rfl (v_add h (v_mul h (pv_tup (pav_cons rfl pv_int pav_nil)) (v_fld (i := 0) h rfl rfl (v_var (i := 1) h (by decide +kernel)))) (pv_tup (pav_cons rfl pv_int pav_nil))) pav_nil)) (pav_cons rfl (v_make h K_Forms rfl (by decide +kernel) rfl (pav_cons rfl (v_sl h (v_call h G_form rfl (by decide +kernel) rfl (pav_cons rfl (v_var (i := 1) h (by decide +kernel)) pav_nil)) (pov_some pv_int) pov_none) (pav_cons rfl (v_call h G_form rfl (by decide +kernel) rfl (pav_cons rfl (v_var (i := 2) h (by decide +kernel)) pav_nil)) pav_nil))) (pav_cons rfl (v_make h K_Forms rfl (by decide +kernel) rfl (pav_cons rfl (pv_tup pav_nil) (pav_cons rfl (pv_tup pav_nil) pav_nil))) pav_nil))))))
  (psv_cons (psv_if (PW.pt (pvt_and (t_cmp C_ne h rfl (v_var (i := 4) h (by decide +kernel)) (pv_lst pav_nil)) (pvt_and1 (pvt_val rfl (v_meth (i := 14) (j := 7) h (MtL.cons M_Renaming_shows (rfl : Nat.ble 7 7 = true) (MtL.cons M_Forms_shows (rfl : Nat.ble 4 7 = true) MtL.nil)) rfl rfl (by decide +kernel) (v_make h K_Forms rfl (by decide +kernel) rfl (pav_cons rfl (v_call h G_form rfl (by decide +kernel) rfl (pav_cons rfl (v_var (i := 1) h (by decide +kernel)) pav_nil)) (pav_cons rfl (v_call h G_form rfl (by decide +kernel) rfl (pav_cons rfl (v_var (i := 2) h (by decide +kernel)) pav_nil)) pav_nil))) (pav_cons rfl (v_var (i := 1) h (by decide +kernel)) (pav_cons rfl (v_var (i := 2) h (by decide +kernel)) pav_nil)))))))
  (psv_cons (psv_ret pv_bl)
  psv_nil)
  psv_nil)
  (psv_cons (psv_ret (pv_and (pv_not (v_bf B_any h (by decide +kernel) (pav_cons rfl (v_lc (own := [("_law_some", 8)]) h (by decide +kernel) (i_seq h (v_var (i := 7) h (by decide +kernel))) (fun _ h1 => ⟨(g_name h1 (by decide +kernel) rfl), ptv_nil, (v_meth (i := 14) (j := 7) h1 (MtL.cons M_Renaming_shows (rfl : Nat.ble 7 7 = true) (MtL.cons M_Forms_shows (rfl : Nat.ble 4 7 = true) MtL.nil)) rfl rfl (by decide +kernel) (v_var (i := 8) h1 (by decide +kernel)) (pav_cons rfl (v_var (i := 1) h1 (by decide +kernel)) (pav_cons rfl (v_var (i := 2) h1 (by decide +kernel)) pav_nil)))⟩)) pav_nil))) (pv_one (pv_not (v_bf B_any h (by decide +kernel) (pav_cons rfl (v_lc (own := [("_law_some", 8)]) h (by decide +kernel) (i_seq h (v_var (i := 7) h (by decide +kernel))) (fun _ h1 => ⟨(g_name h1 (by decide +kernel) rfl), ptv_nil, (v_eqW (j := 1) h1 (MtL.cons M_Layout___eq__ (rfl : Nat.ble 1 1 = true) (MtL.cons M_Renaming___eq__ (rfl : Nat.ble 1 1 = true) (MtL.cons M_Forms___eq__ (rfl : Nat.ble 1 1 = true) MtL.nil))) rfl rfl (v_var (i := 8) h1 (by decide +kernel)) (v_var (i := 5) h1 (by decide +kernel)))⟩)) pav_nil))))))
  psv_nil))))))))))
theorem g__law_pair_right {Z : Cfg} (z : Z.Ok tx) (D : DefAt Z "_law_pair_right" d__law_pair_right) (G__law_orders : FnG Z "_law_orders" 1 (f__law_orders Z.T)) (G__law_renamed : FnG Z "_law_renamed" 1 (f__law_renamed Z.T)) (G_form : FnG Z "form" 3 (f_form Z.T)) (K_Renaming : MkG Z "Renaming" 1 1 (f_Renaming_init Z.T)) (K_Forms : MkG Z "Forms" 2 1 (f_Forms_init Z.T)) (G_compare_layouts : FnG Z "compare_layouts" 4 (f_compare_layouts Z.T)) (G_are_alike : FnG Z "are_alike" 5 (f_are_alike Z.T)) (M_Renaming_shows : MtG Z 1 "shows" 7 (f_Renaming_shows Z.T)) (M_Forms_shows : MtG Z 2 "shows" 4 (f_Forms_shows Z.T)) (M_Layout___eq__ : MtG Z 0 "__eq__" 1 (f_Layout___eq__ Z.T)) (M_Renaming___eq__ : MtG Z 1 "__eq__" 1 (f_Renaming___eq__ Z.T)) (M_Forms___eq__ : MtG Z 2 "__eq__" 1 (f_Forms___eq__ Z.T)) : FnG Z "_law_pair_right" 8 (f__law_pair_right Z.T) :=
  fn_of (k := 7) (N := ["_law_script", "_law_one", "_law_other", "_law_orders_here", "_law_good", "_law_found", "_law_order", "_law_wrong", "_law_some"]) (ps := ["_law_script", "_law_one", "_law_other"]) z D ⟨rfl, rfl, rfl, by decide +kernel, rfl, by decide +kernel, by decide +kernel⟩ (fun _ _ _ _ _ _ us hl => match us, hl with | [_, _, _], _ => rfl) fun X W h => b__law_pair_right G__law_orders G__law_renamed G_form K_Renaming K_Forms G_compare_layouts G_are_alike M_Renaming_shows M_Forms_shows M_Layout___eq__ M_Renaming___eq__ M_Forms___eq__ h
abbrev d_law : Stmt := top 44
def t1_law (T : Tb) : SS := (ssAsg (sOp (addD false) (sK (.int 1)) (sOp modD (sCall intD (saCons (sCall (f__law_number T) (saCons (sVar 0) (saCons (sK (.int 0)) saNil))) saNil)) (sK (.int 4)))) (sgName 1))
def t2_law (T : Tb) : SS := (ssAsg (sTup (saCons (sCall (f__law_items T) (saCons (sVar 0) (saCons (sK (.int 1)) (saCons (sVar 1) (saCons (sK (.int 4)) saNil))))) (saCons (sCall (f__law_orders T) (saCons (sVar 1) saNil)) saNil))) (sgTup 2 (sgCons (sgName 2) (sgCons (sgName 3) sgNil))))
def t3_law (T : Tb) : SS := (ssAsg (sCall (makeD 0 true (f_Layout_init T)) (saCons (sVar 1) (saCons (sVar 2) saNil))) (sgName 4))
def t4_law (T : Tb) : SS := (ssAsg (sCall minNS (saCons (sLc false [10] (siSeq (sVar 3)) (sgName 10) (fun _ h => .ok true h) (sCall (f__law_renamed T) (saCons (sVar 2) (saCons (sVar 10) saNil)))) saNil)) (sgName 5))
def t5_law (T : Tb) : SS := (ssIf (sOp (eqD true) (sCall (f_form T) (saCons (sVar 4) saNil)) (sCall tupleD (saCons (sVar 5) saNil)))
  (ssCons (ssRet (sK (.bl false)))
  ssNil)
  ssNil)
def t6_law (T : Tb) : SS := (ssAsg (sLc false [10] (siSeq (sVar 3)) (sgName 10) (sTru (sOp (eqD false) (sCall (f__law_renamed T) (saCons (sVar 2) (saCons (sVar 10) saNil))) (sCall (sortDS false) (saCons (sVar 2) saNil)))) (sVar 10)) (sgName 6))
def t7_law (T : Tb) : SS := (ssIf (sOp (eqD true) (sCall (f_own_renamings T) (saCons (sVar 4) saNil)) (sVar 6))
  (ssCons (ssRet (sK (.bl false)))
  ssNil)
  ssNil)
def t8_law (T : Tb) : SS := (ssAsg (sLst true saNil) (sgName 7))
def t9_law (T : Tb) : SS := (ssAsg (sLc false [10] (siSeq (sVar 6)) (sgName 10) (fun _ h => .ok true h) (sOp ixD (sVar 10) (sVar 8))) (sgName 15))
def t10_law (T : Tb) : SS := (ssExpr (sBm appD (sVar 7) (saCons (sCall tupleD (saCons (sLc false [18] (siArg itRng1 (saCons (sVar 1) saNil)) (sgName 18) (sTru (sOp (inD false) (sVar 18) (sVar 15))) (sVar 18)) saNil)) saNil)))
def l11_law (T : Tb) : SS := (ssCons (t9_law T)
  (ssCons (t10_law T)
  ssNil))
def t11_law (T : Tb) : SS := (ssFor (siArg itRng1 (saCons (sVar 1) saNil)) (sgName 8)
  (l11_law T))
def t12_law (T : Tb) : SS := (ssIf (sOp (eqD true) (sCall (f_kinds T) (saCons (sVar 4) saNil)) (sLc false [16, 17] (siArg itEnum2 (saCons (sVar 7) saNil)) (sgTup 2 (sgCons (sgName 16) (sgCons (sgName 17) sgNil))) (sTru (sOp (inD true) (sVar 17) (sSl false (sVar 7) soNone (soSome (sVar 16))))) (sVar 17)))
  (ssCons (ssRet (sK (.bl false)))
  ssNil)
  ssNil)
def t13_law (T : Tb) : SS := (ssAsg (sCall (sortNS false) (saCons (sLc false [10] (siSeq (sVar 3)) (sgName 10) (fun _ h => .ok true h) (sCall (f__law_renamed T) (saCons (sVar 2) (saCons (sVar 10) saNil)))) saNil)) (sgName 9))
def t14_law (T : Tb) : SS := (ssIf (sOp (eqD true) (sCall (f_count_named T) (saCons (sVar 4) saNil)) (sCall lenD (saCons (sLc false [16, 17] (siArg itEnum2 (saCons (sVar 9) saNil)) (sgTup 2 (sgCons (sgName 16) (sgCons (sgName 17) sgNil))) (sTru (sOr (sOp (eqD false) (sVar 16) (sK (.int 0))) (sOp (eqD true) (sOp ixD (sVar 9) (sOp subD (sVar 16) (sK (.int 1)))) (sVar 17)))) (sVar 17)) saNil)))
  (ssCons (ssRet (sK (.bl false)))
  ssNil)
  ssNil)
def t15_law (T : Tb) : SS := (ssAsg (sOp ixD (sVar 3) (sOp modD (sCall intD (saCons (sCall (f__law_number T) (saCons (sVar 0) (saCons (sK (.int 90)) saNil))) saNil)) (sCall lenD (saCons (sVar 3) saNil)))) (sgName 10))
def t16_law (T : Tb) : SS := (ssAsg (sCall (makeD 0 true (f_Layout_init T)) (saCons (sVar 1) (saCons (sUn (revY false) (sCall (f__law_renamed T) (saCons (sVar 2) (saCons (sVar 10) saNil)))) saNil))) (sgName 11))
def t17_law (T : Tb) : SS := (ssAsg (sOp (addD false) (sK (.int 1)) (sOp modD (sCall intD (saCons (sCall (f__law_number T) (saCons (sVar 0) (saCons (sK (.int 91)) saNil))) saNil)) (sK (.int 4)))) (sgName 12))
def t18_law (T : Tb) : SS := (ssAsg (sCall (makeD 0 true (f_Layout_init T)) (saCons (sVar 12) (saCons (sCall (f__law_items T) (saCons (sVar 0) (saCons (sK (.int 101)) (saCons (sVar 12) (saCons (sK (.int 3)) saNil))))) saNil))) (sgName 13))
def t19_law (T : Tb) : SS := (ssAsg (sCall (makeD 0 true (f_Layout_init T)) (saCons (sOp (addD false) (sVar 1) (sK (.int 1))) (saCons (sVar 2) saNil))) (sgName 14))
def t20_law (T : Tb) : SS := (ssIf (sOr (sNot (sCall (f_are_alike T) (saCons (sVar 4) (saCons (sVar 11) saNil)))) (sOr (sOp (eqD true) (sCall (f_form T) (saCons (sVar 11) saNil)) (sCall (f_form T) (saCons (sVar 4) saNil))) (sCall (f_are_alike T) (saCons (sVar 4) (saCons (sVar 14) saNil)))))
  (ssCons (ssRet (sK (.bl false)))
  ssNil)
  ssNil)
def t21_law (T : Tb) : SS := (ssIf (sOr (sNot (sCall (f__law_pair_right T) (saCons (sVar 0) (saCons (sVar 4) (saCons (sVar 11) saNil))))) (sNot (sCall (f__law_pair_right T) (saCons (sVar 0) (saCons (sVar 4) (saCons (sVar 14) saNil))))))
  (ssCons (ssRet (sK (.bl false)))
  ssNil)
  ssNil)
def t22_law (T : Tb) : SS := (ssRet (sAnd (sCall (f__law_pair_right T) (saCons (sVar 0) (saCons (sVar 4) (saCons (sVar 13) saNil)))) (sCall (f__law_pair_right T) (saCons (sVar 0) (saCons (sVar 13) (saCons (sVar 11) saNil))))))
def s_law (T : Tb) : SS := (ssCons (t1_law T)
  (ssCons (t2_law T)
  (ssCons (t3_law T)
  (ssCons (t4_law T)
  (ssCons (t5_law T)
  (ssCons (t6_law T)
  (ssCons (t7_law T)
  (ssCons (t8_law T)
  (ssCons (t11_law T)
  (ssCons (t12_law T)
  (ssCons (t13_law T)
  (ssCons (t14_law T)
  (ssCons (t15_law T)
  (ssCons (t16_law T)
  (ssCons (t17_law T)
  (ssCons (t18_law T)
  (ssCons (t19_law T)
  (ssCons (t20_law T)
  (ssCons (t21_law T)
  (ssCons (t22_law T)
  ssNil))))))))))))))))))))
def f_law (T : Tb) : List D → Bs → R D := runFn 1 19 (s_law T)
theorem b_law {Z : Cfg} {X : Cx} {W : WX} (G__law_number : FnG Z "_law_number" 1 (f__law_number Z.T)) (G__law_items : FnG Z "_law_items" 2 (f__law_items Z.T)) (G__law_orders : FnG Z "_law_orders" 1 (f__law_orders Z.T)) (K_Layout : MkG Z "Layout" 0 4 (f_Layout_init Z.T)) (G__law_renamed : FnG Z "_law_renamed" 1 (f__law_renamed Z.T)) (G_form : FnG Z "form" 3 (f_form Z.T)) (G_own_renamings : FnG Z "own_renamings" 3 (f_own_renamings Z.T)) (G_kinds : FnG Z "kinds" 4 (f_kinds Z.T)) (G_count_named : FnG Z "count_named" 4 (f_count_named Z.T)) (G_are_alike : FnG Z "are_alike" 5 (f_are_alike Z.T)) (G__law_pair_right : FnG Z "_law_pair_right" 8 (f__law_pair_right Z.T)) (h : XO Z tx 8 ["_law_script", "_law_servers", "_law_items_here", "_law_orders_here", "_law_layout", "_law_smallest_now", "_law_own", "_law_rows", "_law_server", "_law_named", "_law_order", "_law_turned", "_law_more", "_law_other", "_law_wide", "_law_names", "_law_at", "_law_row", "_law_late"] (defScope d_law) none X W) : PSs X (defBody d_law) (tS' Z.T W (s_law Z.T)) :=
  (psv_cons (s_set h (by decide +kernel) rfl (v_add h pv_int (v_mod h (v_bt B_int h (by decide +kernel) (pav_cons rfl (v_call h G__law_number rfl (by decide +kernel) rfl (pav_cons rfl (v_var (i := 0) h (by decide +kernel)) (pav_cons rfl pv_int pav_nil))) pav_nil)) pv_int)))
  (psv_cons (s_asgT (own := [2, 3]) h (by decide +kernel) (pv_tup (pav_cons rfl (v_call h G__law_items rfl (by decide +kernel) rfl (pav_cons rfl (v_var (i := 0) h (by decide +kernel)) (pav_cons rfl pv_int (pav_cons rfl (v_var (i := 1) h (by decide +kernel)) (pav_cons rfl pv_int pav_nil))))) (pav_cons rfl (v_call h G__law_orders rfl (by decide +kernel) rfl (pav_cons rfl (v_var (i := 1) h (by decide +kernel)) pav_nil)) pav_nil))) (g_tup h rfl (pgsv_cons rfl (g_name h (by decide +kernel) rfl) (pgsv_cons rfl (g_name h (by decide +kernel) rfl) pgsv_nil))))
  (psv_cons (s_set h (by decide +kernel) rfl (v_make h K_Layout rfl (by decide +kernel) rfl (pav_cons rfl (v_var (i := 1) h (by decide +kernel)) (pav_cons rfl (v_var (i := 2) h (by decide +kernel)) pav_nil))))
  (psv_cons (s_set h (by decide +kernel) rfl (v_bf B_minNS h (by decide +kernel) (pav_cons rfl (v_lc (own := [("_law_order", 10)]) h (by decide +kernel) (i_seq h (v_var (i := 3) h (by decide +kernel))) (fun _ h1 => ⟨(g_name h1 (by decide +kernel) rfl), ptv_nil, (v_call h1 G__law_renamed rfl (by decide +kernel) rfl (pav_cons rfl (v_var (i := 2) h1 (by decide +kernel)) (pav_cons rfl (v_var (i := 10) h1 (by decide +kernel)) pav_nil)))⟩)) pav_nil)))
  (psv_cons (psv_if (t_cmp C_ne h rfl (v_call h G_form rfl (by decide +kernel) rfl (pav_cons rfl (v_var (i := 4) h (by decide +kernel)) pav_nil)) (v_bt B_tuple h (by decide +kernel) (pav_cons rfl (v_var (i := 5) h (by decide +kernel)) pav_nil)))
  (psv_cons (psv_ret pv_bl)
  psv_nil)
  psv_nil)
  (psv_cons (s_setLc (own := [("_law_order", 10)]) h (by decide +kernel) (by decide +kernel) (i_seq h (v_var (i := 3) h (by decide +kernel))) (fun _ h1 => ⟨(g_name h1 (by decide +kernel) rfl), (ptv_one (t_cmp C_eq h1 rfl (v_call h1 G__law_renamed rfl (by decide +kernel) rfl (pav_cons rfl (v_var (i := 2) h1 (by decide +kernel)) (pav_cons rfl (v_var (i := 10) h1 (by decide +kernel)) pav_nil))) (v_bf B_sortDS h1 (by decide +kernel) (pav_cons rfl (v_var (i := 2) h1 (by decide +kernel)) pav_nil)))), (v_var (i := 10) h1 (by decide +kernel))⟩))
  (psv_cons (psv_if (t_cmp C_ne h rfl (v_call h G_own_renamings rfl (by decide +kernel) rfl (pav_cons rfl (v_var (i := 4) h (by decide +kernel)) pav_nil)) (v_var (i := 6) h (by decide +kernel)))
  (psv_cons (psv_ret pv_bl)
  psv_nil)
  psv_nil)
  (psv_cons (s_set h (by decide +kernel) rfl (pv_lst pav_nil))
  (psv_cons (s_for (own := [8]) h rfl (i_rng1 h (by decide +kernel) (pav_cons rfl (v_var (i := 1) h (by decide +kernel)) pav_nil)) (g_name h (by decide +kernel) rfl)
  (psv_cons (s_setLcN h (by decide +kernel) (by decide +kernel) (v_lc (own := [("_law_order", 10)]) h (by decide +kernel) (i_seq h (v_var (i := 6) h (by decide +kernel))) (fun _ h1 => ⟨(g_name h1 (by decide +kernel) rfl), ptv_nil, (v_ix h1 rfl (v_var (i := 10) h1 (by decide +kernel)) (v_var (i := 8) h1 (by decide +kernel)))⟩)))
  (psv_cons (psv_expr rfl (v_bm M_append h (by decide +kernel) (v_var (i := 7) h (by decide +kernel)) (pav_cons rfl (v_bt B_tuple h (by decide +kernel) (pav_cons rfl (v_lc (own := [("_law_late", 18)]) h (by decide +kernel) (i_rng1 h (by decide +kernel) (pav_cons rfl (v_var (i := 1) h (by decide +kernel)) pav_nil)) (fun _ h1 => ⟨(g_name h1 (by decide +kernel) rfl), (ptv_one (t_cmp C_in h1 rfl (v_var (i := 18) h1 (by decide +kernel)) (v_var (i := 15) h1 (by decide +kernel)))), (v_var (i := 18) h1 (by decide +kernel))⟩)) pav_nil)) pav_nil)))
  psv_nil)))
  (psv_cons (psv_if (t_cmp C_ne h rfl (v_call h G_kinds rfl (by decide +kernel) rfl (pav_cons rfl (v_var (i := 4) h (by decide +kernel)) pav_nil)) (v_lc (own := [("_law_at", 16), ("_law_row", 17)]) h (by decide +kernel) (i_enum2 h (by decide +kernel) (pav_cons rfl (v_var (i := 7) h (by decide +kernel)) pav_nil)) (fun _ h1 => ⟨(g_tup h1 rfl (pgsv_cons rfl (g_name h1 (by decide +kernel) rfl) (pgsv_cons rfl (g_name h1 (by decide +kernel) rfl) pgsv_nil))), (ptv_one (t_cmp C_notIn h1 rfl (v_var (i := 17) h1 (by decide +kernel)) (v_sl h1 (v_var (i := 7) h1 (by decide +kernel)) pov_none (pov_some (v_var (i := 16) h1 (by decide +kernel)))))), (v_var (i := 17) h1 (by decide +kernel))⟩)))
  (psv_cons (psv_ret pv_bl)
  psv_nil)
  psv_nil)
  (psv_cons (s_set h (by decide +kernel) rfl (v_bf B_sortNS h (by decide +kernel) (pav_cons rfl (v_lc (own := [("_law_order", 10)]) h (by decide +kernel) (i_seq h (v_var (i := 3) h (by decide +kernel))) (fun _ h1 => ⟨(g_name h1 (by decide +kernel) rfl), ptv_nil, (v_call h1 G__law_renamed rfl (by decide +kernel) rfl (pav_cons rfl (v_var (i := 2) h1 (by decide +kernel)) (pav_cons rfl (v_var (i := 10) h1 (by decide +kernel)) pav_nil)))⟩)) pav_nil)))
  (psv_cons (psv_if (t_cmp C_ne h rfl (v_call h G_count_named rfl (by decide +kernel) rfl (pav_cons rfl (v_var (i := 4) h (by decide +kernel)) pav_nil)) (v_bf B_len h (by decide +kernel) (pav_cons rfl (v_lc (own := [("_law_at", 16), ("_law_row", 17)]) h (by decide +kernel) (i_enum2 h (by decide +kernel) (pav_cons rfl (v_var (i := 9) h (by decide +kernel)) pav_nil)) (fun _ h1 => ⟨(g_tup h1 rfl (pgsv_cons rfl (g_name h1 (by decide +kernel) rfl) (pgsv_cons rfl (g_name h1 (by decide +kernel) rfl) pgsv_nil))), (ptv_one (PW.pt (pvt_or (t_cmp C_eq h1 rfl (v_var (i := 16) h1 (by decide +kernel)) pv_int) (pvt_or1 (t_cmp C_ne h1 rfl (v_ix h1 rfl (v_var (i := 9) h1 (by decide +kernel)) (v_sub h1 (v_var (i := 16) h1 (by decide +kernel)) pv_int)) (v_var (i := 17) h1 (by decide +kernel))))))), (v_var (i := 17) h1 (by decide +kernel))⟩)) pav_nil)))
  (psv_cons (psv_ret pv_bl)
  psv_nil)
  psv_nil)
  (psv_cons (s_set h (by decide +kernel) rfl (v_ix h rfl (v_var (i := 3) h (by decide +kernel)) (v_mod h (v_bt B_int h (by decide +kernel) (pav_cons rfl (v_call h G__law_number rfl (by decide +kernel) rfl (pav_cons rfl (v_var (i := 0) h (by decide +kernel)) (pav_cons rfl pv_int pav_nil))) pav_nil)) (v_bf B_len h (by decide +kernel) (pav_cons rfl (v_var (i := 3) h (by decide +kernel)) pav_nil)))))
  (psv_cons (s_set h (by decide +kernel) rfl (v_make h K_Layout rfl (by decide +kernel) rfl (pav_cons rfl (v_var (i := 1) h (by decide +kernel)) (pav_cons rfl (pv_revY h.K (v_call h G__law_renamed rfl (by decide +kernel) rfl (pav_cons rfl (v_var (i := 2) h (by decide +kernel)) (pav_cons rfl (v_var (i := 10) h (by decide +kernel)) pav_nil)))) pav_nil))))
  (psv_cons (s_set h (by decide +kernel) rfl (v_add h pv_int (v_mod h (v_bt B_int h (by decide +kernel) (pav_cons rfl (v_call h G__law_number rfl (by decide +kernel) rfl (pav_cons rfl (v_var (i := 0) h (by decide +kernel)) (pav_cons rfl pv_int pav_nil))) pav_nil)) pv_int)))
  (psv_cons (s_set h (by decide +kernel) rfl (v_make h K_Layout rfl (by decide +kernel) rfl (pav_cons rfl (v_var (i := 12) h (by decide +kernel)) (pav_cons rfl (v_call h G__law_items rfl (by decide +kernel) rfl (pav_cons rfl (v_var (i := 0) h (by decide +kernel)) (pav_cons rfl pv_int (pav_cons rfl (v_var (i := 12) h (by decide +kernel)) (pav_cons rfl pv_int pav_nil))))) pav_nil))))
  (psv_cons (s_set h (by decide +kernel) rfl (v_make h K_Layout rfl (by decide +kernel) rfl (pav_cons rfl (v_add h (v_var (i := 1) h (by decide +kernel)) pv_int) (pav_cons rfl (v_var (i := 2) h (by decide +kernel)) pav_nil))))
  (psv_cons (psv_if (PW.pt (pvt_or (pvt_not (pvt_val rfl (v_call h G_are_alike rfl (by decide +kernel) rfl (pav_cons rfl (v_var (i := 4) h (by decide +kernel)) (pav_cons rfl (v_var (i := 11) h (by decide +kernel)) pav_nil))))) (pvt_or (t_cmp C_ne h rfl (v_call h G_form rfl (by decide +kernel) rfl (pav_cons rfl (v_var (i := 11) h (by decide +kernel)) pav_nil)) (v_call h G_form rfl (by decide +kernel) rfl (pav_cons rfl (v_var (i := 4) h (by decide +kernel)) pav_nil))) (pvt_or1 (pvt_val rfl (v_call h G_are_alike rfl (by decide +kernel) rfl (pav_cons rfl (v_var (i := 4) h (by decide +kernel)) (pav_cons rfl (v_var (i := 14) h (by decide +kernel)) pav_nil))))))))
  (psv_cons (psv_ret pv_bl)
  psv_nil)
  psv_nil)
  (psv_cons (psv_if (PW.pt (pvt_or (pvt_not (pvt_val rfl (v_call h G__law_pair_right rfl (by decide +kernel) rfl (pav_cons rfl (v_var (i := 0) h (by decide +kernel)) (pav_cons rfl (v_var (i := 4) h (by decide +kernel)) (pav_cons rfl (v_var (i := 11) h (by decide +kernel)) pav_nil)))))) (pvt_or1 (pvt_not (pvt_val rfl (v_call h G__law_pair_right rfl (by decide +kernel) rfl (pav_cons rfl (v_var (i := 0) h (by decide +kernel)) (pav_cons rfl (v_var (i := 4) h (by decide +kernel)) (pav_cons rfl (v_var (i := 14) h (by decide +kernel)) pav_nil)))))))))
  (psv_cons (psv_ret pv_bl)
  psv_nil)
  psv_nil)
  (psv_cons (psv_ret (pv_and (v_call h G__law_pair_right rfl (by decide +kernel) rfl (pav_cons rfl (v_var (i := 0) h (by decide +kernel)) (pav_cons rfl (v_var (i := 4) h (by decide +kernel)) (pav_cons rfl (v_var (i := 13) h (by decide +kernel)) pav_nil)))) (pv_one (v_call h G__law_pair_right rfl (by decide +kernel) rfl (pav_cons rfl (v_var (i := 0) h (by decide +kernel)) (pav_cons rfl (v_var (i := 13) h (by decide +kernel)) (pav_cons rfl (v_var (i := 11) h (by decide +kernel)) pav_nil)))))))
  psv_nil))))))))))))))))))))
end VI.K29
end
section
namespace VI.K29
open PySem PySem.Spec PyProof.Rows L2 VI
def dd__law_number : He.DefD := ⟨("_law_number", none), "_law_number", "_law_number", defArgs d__law_number, defBody d__law_number, defScope d__law_number, [], []⟩
def dd__law_items : He.DefD := ⟨("_law_items", none), "_law_items", "_law_items", defArgs d__law_items, defBody d__law_items, defScope d__law_items, [], []⟩
def dd__law_orders : He.DefD := ⟨("_law_orders", none), "_law_orders", "_law_orders", defArgs d__law_orders, defBody d__law_orders, defScope d__law_orders, [], []⟩
def dd_is_number : He.DefD := ⟨("is_number", none), "is_number", "is_number", defArgs d_is_number, defBody d_is_number, defScope d_is_number, [], []⟩
def dd_is_set : He.DefD := ⟨("is_set", none), "is_set", "is_set", defArgs d_is_set, defBody d_is_set, defScope d_is_set, [], []⟩
def dd_is_item : He.DefD := ⟨("is_item", none), "is_item", "is_item", defArgs d_is_item, defBody d_is_item, defScope d_is_item, [], []⟩
def dd_Layout_init : He.DefD := ⟨("Layout", some "__init__"), "__init__", "Layout.__init__", defArgs d_Layout_init, defBody d_Layout_init, defScope d_Layout_init, [], []⟩
def dd__law_renamed : He.DefD := ⟨("_law_renamed", none), "_law_renamed", "_law_renamed", defArgs d__law_renamed, defBody d__law_renamed, defScope d__law_renamed, [], []⟩
def dd_check_layout : He.DefD := ⟨("check_layout", none), "check_layout", "check_layout", defArgs d_check_layout, defBody d_check_layout, defScope d_check_layout, [], []⟩
def dd_check_few : He.DefD := ⟨("check_few", none), "check_few", "check_few", defArgs d_check_few, defBody d_check_few, defScope d_check_few, [], []⟩
def dd_orders_of : He.DefD := ⟨("orders_of", none), "orders_of", "orders_of", defArgs d_orders_of, defBody d_orders_of, defScope d_orders_of, [], []⟩
def dd_form_by : He.DefD := ⟨("form_by", none), "form_by", "form_by", defArgs d_form_by, defBody d_form_by, defScope d_form_by, [], []⟩
def dd_smallest : He.DefD := ⟨("smallest", none), "smallest", "smallest", defArgs d_smallest, defBody d_smallest, defScope d_smallest, [], []⟩
def dd_form : He.DefD := ⟨("form", none), "form", "form", defArgs d_form, defBody d_form, defScope d_form, [], []⟩
def dd_own_renamings : He.DefD := ⟨("own_renamings", none), "own_renamings", "own_renamings", defArgs d_own_renamings, defBody d_own_renamings, defScope d_own_renamings, [], []⟩
def dd_kinds : He.DefD := ⟨("kinds", none), "kinds", "kinds", defArgs d_kinds, defBody d_kinds, defScope d_kinds, [], []⟩
def dd_factorial : He.DefD := ⟨("factorial", none), "factorial", "factorial", defArgs d_factorial, defBody d_factorial, defScope d_factorial, [], []⟩
def dd_count_named : He.DefD := ⟨("count_named", none), "count_named", "count_named", defArgs d_count_named, defBody d_count_named, defScope d_count_named, [], []⟩
def dd_check_two : He.DefD := ⟨("check_two", none), "check_two", "check_two", defArgs d_check_two, defBody d_check_two, defScope d_check_two, [], []⟩
def dd_Renaming_init : He.DefD := ⟨("Renaming", some "__init__"), "__init__", "Renaming.__init__", defArgs d_Renaming_init, defBody d_Renaming_init, defScope d_Renaming_init, [], []⟩
def dd_Forms_init : He.DefD := ⟨("Forms", some "__init__"), "__init__", "Forms.__init__", defArgs d_Forms_init, defBody d_Forms_init, defScope d_Forms_init, [], []⟩
def dd_compare_layouts : He.DefD := ⟨("compare_layouts", none), "compare_layouts", "compare_layouts", defArgs d_compare_layouts, defBody d_compare_layouts, defScope d_compare_layouts, [], []⟩
def dd_are_alike : He.DefD := ⟨("are_alike", none), "are_alike", "are_alike", defArgs d_are_alike, defBody d_are_alike, defScope d_are_alike, [], []⟩
def dd_is_order : He.DefD := ⟨("is_order", none), "is_order", "is_order", defArgs d_is_order, defBody d_is_order, defScope d_is_order, [], []⟩
def dd_Layout_renamed : He.DefD := ⟨("Layout", some "renamed"), "renamed", "Layout.renamed", defArgs d_Layout_renamed, defBody d_Layout_renamed, defScope d_Layout_renamed, [], []⟩
def dd_Renaming_shows : He.DefD := ⟨("Renaming", some "shows"), "shows", "Renaming.shows", defArgs d_Renaming_shows, defBody d_Renaming_shows, defScope d_Renaming_shows, [], []⟩
def dd_Forms_shows : He.DefD := ⟨("Forms", some "shows"), "shows", "Forms.shows", defArgs d_Forms_shows, defBody d_Forms_shows, defScope d_Forms_shows, [], []⟩
def dd_Layout___eq__ : He.DefD := ⟨("Layout", some "__eq__"), "__eq__", "Layout.__eq__", defArgs d_Layout___eq__, defBody d_Layout___eq__, defScope d_Layout___eq__, [], []⟩
def dd_Renaming___eq__ : He.DefD := ⟨("Renaming", some "__eq__"), "__eq__", "Renaming.__eq__", defArgs d_Renaming___eq__, defBody d_Renaming___eq__, defScope d_Renaming___eq__, [], []⟩
def dd_Forms___eq__ : He.DefD := ⟨("Forms", some "__eq__"), "__eq__", "Forms.__eq__", defArgs d_Forms___eq__, defBody d_Forms___eq__, defScope d_Forms___eq__, [], []⟩
def dd__law_pair_right : He.DefD := ⟨("_law_pair_right", none), "_law_pair_right", "_law_pair_right", defArgs d__law_pair_right, defBody d__law_pair_right, defScope d__law_pair_right, [], []⟩
def dd_law : He.DefD := ⟨("law", none), "law", "law", defArgs d_law, defBody d_law, defScope d_law, [], []⟩
def fn : List He.DefD := [dd__law_number, dd__law_items, dd__law_orders, dd_is_number, dd_is_set, dd_is_item, dd_Layout_init, dd__law_renamed, dd_check_layout, dd_check_few, dd_orders_of, dd_form_by, dd_smallest, dd_form, dd_own_renamings, dd_kinds, dd_factorial, dd_count_named, dd_check_two, dd_Renaming_init, dd_Forms_init, dd_compare_layouts, dd_are_alike, dd_is_order, dd_Layout_renamed, dd_Renaming_shows, dd_Forms_shows, dd_Layout___eq__, dd_Renaming___eq__, dd_Forms___eq__, dd__law_pair_right, dd_law]
def fa : List He.Fa := [.glo "_law_number", .glo "_law_items", .glo "_law_orders", .glo "is_number", .glo "is_set", .glo "is_item", .mkr "Layout", .glo "_law_renamed", .glo "check_layout", .glo "check_few", .glo "orders_of", .glo "form_by", .glo "smallest", .glo "form", .glo "own_renamings", .glo "kinds", .glo "factorial", .glo "count_named", .glo "check_two", .mkr "Renaming", .mkr "Forms", .glo "compare_layouts", .glo "are_alike", .glo "is_order", .meth "Layout" "renamed", .meth "Renaming" "shows", .meth "Forms" "shows", .meth "Layout" "__eq__", .meth "Renaming" "__eq__", .meth "Forms" "__eq__", .glo "_law_pair_right", .glo "law", .free "all", .free "any", .free "bool", .free "enumerate", .free "int", .free "isinstance", .free "len", .free "list", .free "min", .free "range", .free "set", .free "sorted", .free "tuple", .free "zip", .int "MOST_SERVERS" 8, .int "MOST_ITEMS" 10, .int "MOST_RENAMED" 6, .glo "Layout", .keep "Layout", .glo "Renaming", .keep "Renaming", .glo "Forms", .keep "Forms"]
def ct : Ct := ⟨["Layout", "Renaming", "Forms"], ["servers", "entries", "order", "one", "other", "__eq__", "__len__", "__getitem__", "__iter__", "loads", "held", "partners", "readable", "renamed", "shows"], [(0, 0), (0, 1), (1, 2), (2, 3), (2, 4)], [1, 2, 4, 5, 7, 8, 9], [], [], [], [], []⟩
abbrev Rr : PySem.W.OpenRow := PySem.W.OpenLaw.row PySem.Challenge.rw_copylots_k29_whole_alike
def as0 : List Addr := [3, 6, 4, 21, 31, 44, 65, 77, 89, 101, 113, 125, 134, 139, 146, 222, 231, 238, 245, 250, 257, 288, 323, 334, 341, 346, 351, 356, 363, 370, 377, 382, 387, 394, 401, 406, 411, 416, 421, 426, 0, 20, 30, 43, 64, 76, 88, 100, 112, 124, 133, 138, 145, 221, 230, 237, 244, 249, 256, 287]
def as1 : List Addr := [322, 333, 340, 345, 350, 355, 362, 369, 376, 381, 386, 393, 400, 405, 410, 415, 420, 425, 15, 16, 17, 18, 19, 29, 32, 42, 62, 63, 75, 87, 99, 111, 123, 128, 129, 130, 131, 132, 135, 136, 137, 140, 141, 142, 143, 144, 160, 167, 174, 181, 188, 195, 202, 209, 214, 219, 220, 223, 224, 227]
def as2 : List Addr := [228, 229, 232, 233, 234, 235, 236, 239, 240, 241, 242, 243, 246, 247, 248, 251, 252, 253, 254, 255, 271, 278, 285, 286, 289, 290, 306, 313, 320, 321, 324, 325, 328, 329, 330, 331, 332, 335, 336, 337, 338, 339, 342, 343, 344, 347, 348, 349, 352, 353, 354, 357, 358, 359, 360, 361, 364, 365, 366, 367]
def as3 : List Addr := [368, 371, 372, 373, 374, 375, 378, 379, 380, 383, 384, 385, 388, 389, 390, 391, 392, 395, 396, 397, 398, 399, 402, 403, 404, 407, 408, 409, 412, 413, 414, 417, 418, 419, 422, 423, 424, 61, 50, 159, 166, 173, 180, 187, 194, 201, 208, 213, 218, 270, 277, 284, 305, 312, 319, 56, 57, 58, 59, 60]
def as4 : List Addr := [154, 155, 156, 157, 158, 161, 162, 163, 164, 165, 168, 169, 170, 171, 172, 175, 176, 177, 178, 179, 182, 183, 184, 185, 186, 189, 190, 191, 192, 193, 196, 197, 198, 199, 200, 203, 204, 205, 206, 207, 210, 211, 212, 215, 216, 217, 265, 266, 267, 268, 269, 272, 273, 274, 275, 276, 279, 280, 281, 282]
def as5 : List Addr := [283, 300, 301, 302, 303, 304, 307, 308, 309, 310, 311, 314, 315, 316, 317, 318]
def asA : List Addr := as0 ++ as1 ++ as2 ++ as3 ++ as4 ++ as5
abbrev hk : PySem.W.Hook := hookCA asA ct fa fn
def ob (s : PySem.W.SharedT) : He.AlD := obsCA asA ct fa fn (HandSHeadRun.getT s)
theorem ob_eq (s : PySem.W.SharedT) : ob s = hk.obs s.abs := obsCA_eq (HandSHeadRun.getT_eq s)
def loose0 : List Str := ["_wall", "LotError", "BadServers", "BadItems", "BadLayout", "BadSet", "BadIndex", "BadOrder", "TooLarge", "MOST_SERVERS", "MOST_ITEMS", "is_number", "is_set", "is_item", "Layout", "is_order", "check_layout", "check_set", "common", "factorial", "MOST_RENAMED", "Renaming", "Forms", "check_few", "check_two", "orders_of", "form_by", "smallest", "form", "compare_layouts"]
def loose1 : List Str := ["are_alike", "own_renamings", "kinds", "count_named", "_law_number", "_law_items", "_law_orders", "_law_renamed", "_law_pair_right"]
abbrev loose : List Str := loose0 ++ loose1
theorem run1 : Run1 Rr 4000 := by
  intro w os
  kernel_rfl
theorem run2 : Run2 Rr (PySem.W.view Rr.prog [44]) 4000 loose := by
  intro w os
  kernel_rfl
theorem run3 : Run3 Rr hk ob 4000 := by
  intro w os
  kernel_rfl
theorem run (w : World) : HandSHeadRun.RunEq Rr (PySem.W.view Rr.prog [44]) hk ob 4000 loose w := run_of run1 run2 run3 w
end VI.K29
end
section
namespace VI.K29
open PySem PySem.Spec PyProof.Rows L2 VI VI.Std
open VI.Lay (itD ItOk LayT LayOk oL IsL stG rgI)
section
variable {K : PySem.W.Frag} {h : Bs} {ns : List Int} {n b : Nat} {c : Int} {its : List Lay.It}
theorem layT : LayT (tbC ct K) := ⟨rfl, rfl, rfl, rfl⟩
theorem sortDS_lI {l : List Int} (e : l.length ≤ sizeLine) : sortDS false [lI l] h = .ok (lI (sortI l)) h := by
  unfold sortDS
  rw [sorted_lI e]
end
end VI.K29
end
section
namespace VI.K29
open PySem PySem.Spec PyProof.Rows L2 VI VI.Std VI.Fl
open VI.Lay (itD)
section
variable {α : Type} {dE : α → D} {pE : α → PyData} {Xs Ys : List α} {x y : α} {h : Bs}
structure Enc (dE : α → D) (pE : α → PyData) : Prop where
  inj : ∀ {x y : α}, W.keyToks (pE x) = W.keyToks (pE y) → x = y
  b : ∀ x, beqD (dE x) (dE x) = true
abbrev eE (dE : α → D) (pE : α → PyData) (x : α) : Kd := (dE x, pE x)
theorem insK_E (x : α) : ∀ Ys : List α, ∃ Zs : List α, insK (eE dE pE x) (Ys.map (eE dE pE)) = Zs.map (eE dE pE) ∧ Zs.Perm (x :: Ys)
  | [] => ⟨[x], rfl, .refl _⟩
  | Y :: Ys => by
    obtain ⟨Zs, e, p⟩ := insK_E x Ys
    rw [List.map_cons]
    by_cases q : W.dataLt (eE dE pE Y).2 (eE dE pE x).2 = true
    · refine ⟨Y :: Zs, ?_, (p.cons Y).trans (.swap x Y Ys)⟩
      rw [insK, if_pos q, e]
      rfl
    · refine ⟨x :: Y :: Ys, ?_, .refl _⟩
      rw [insK, if_neg q]
      rfl
theorem srtK_E : ∀ Xs : List α, ∃ Zs : List α, srtK (Xs.map (eE dE pE)) = Zs.map (eE dE pE) ∧ Zs.Perm Xs
  | [] => ⟨[], rfl, .refl _⟩
  | X :: Xs => by
    obtain ⟨Ys, e, p⟩ := srtK_E Xs
    obtain ⟨Zs, e2, p2⟩ := insK_E (dE := dE) (pE := pE) X Ys
    exact ⟨Zs, by rw [List.map_cons, srtK, e, e2], p2.trans (p.cons X)⟩
noncomputable def srt (dE : α → D) (pE : α → PyData) (Xs : List α) : List α := (srtK_E (dE := dE) (pE := pE) Xs).choose
theorem srt_eq (Xs : List α) : srtK (Xs.map (eE dE pE)) = (srt dE pE Xs).map (eE dE pE) := (srtK_E Xs).choose_spec.1
theorem srt_perm (Xs : List α) : (srt dE pE Xs).Perm Xs := (srtK_E Xs).choose_spec.2
theorem srt_so (Xs : List α) : (srt dE pE Xs).Pairwise fun a b => leK (eE dE pE a) (eE dE pE b) = true := by
  have := srtK_sorted (Xs.map (eE dE pE))
  rw [srt_eq, List.pairwise_map] at this
  exact this
theorem le_anti (E : Enc dE pE) (h1 : leK (eE dE pE x) (eE dE pE y) = true) (h2 : leK (eE dE pE y) (eE dE pE x) = true) : x = y := E.inj (leK_anti h1 h2)
theorem srt_uniq (E : Enc dE pE) (p : Xs.Perm Ys) : srt dE pE Xs = srt dE pE Ys :=
  List.Perm.eq_of_pairwise (le := fun a b => leK (eE dE pE a) (eE dE pE b) = true) (fun a b _ _ h1 h2 => le_anti E h1 h2) (srt_so Xs) (srt_so Ys) ((srt_perm Xs).trans (p.trans (srt_perm Ys).symm))
theorem srt_iff (E : Enc dE pE) : srt dE pE Xs = srt dE pE Ys ↔ Xs.Perm Ys := ⟨fun e => (srt_perm Xs).symm.trans (e ▸ srt_perm Ys), srt_uniq E⟩
theorem srt_len : (srt dE pE Xs).length = Xs.length := (srt_perm Xs).length_eq
theorem adj_E (E : Enc dE pE) : ∀ Xs : List α, (Xs.map (eE dE pE)).Pairwise (fun a b => leK a b = true) → adjOk (Xs.map (eE dE pE)) = true
  | [], _ => rfl
  | [_], _ => rfl
  | X :: Y :: Xs, hs => by
    rw [List.map_cons, List.map_cons] at hs ⊢
    rw [List.pairwise_cons] at hs
    have ih := adj_E E (Y :: Xs) (by rw [List.map_cons]; exact hs.2)
    rw [List.map_cons] at ih
    have h1 := hs.1 (eE dE pE Y) List.mem_cons_self
    simp only [adjOk, ih, Bool.and_true, Bool.or_eq_true]
    cases e : W.dataLt (eE dE pE X).2 (eE dE pE Y).2 with
    | true => exact .inl rfl
    | false =>
      refine .inr ?_
      have h2 : leK (eE dE pE Y) (eE dE pE X) = true := by unfold leK; rw [e]; rfl
      have : X = Y := le_anti E h1 h2
      rw [this]
      exact E.b Y
theorem zip_E : ∀ Xs : List α, (Xs.map dE).zip (Xs.map pE) = Xs.map (eE dE pE)
  | [] => rfl
  | X :: Xs => by rw [List.map_cons, List.map_cons, List.zip_cons_cons, zip_E Xs]; rfl
theorem adj_srt (E : Enc dE pE) (Xs : List α) : adjOk (srtK (Xs.map (eE dE pE))) = true := by
  have so := srtK_sorted (Xs.map (eE dE pE))
  rw [srt_eq] at so ⊢
  exact adj_E E _ so
theorem map_fst (Xs : List α) : (Xs.map (eE dE pE)).map (·.1) = Xs.map dE := by rw [List.map_map]; rfl
def mnE (pE : α → PyData) (x : α) (Xs : List α) : α := Xs.foldl (fun a y => if W.dataLt (pE y) (pE a) = true then y else a) x
theorem mn_eq (x : α) : ∀ Xs : List α, W.minD (pE x) (Xs.map pE) = pE (mnE pE x Xs) := fun Xs => by
  unfold W.minD mnE
  induction Xs generalizing x with
  | nil => rfl
  | cons y Xs ih =>
    rw [List.map_cons, List.foldl_cons, List.foldl_cons, ← ih]
    congr 1
    split <;> rfl
theorem mn_mem (x : α) : ∀ Xs : List α, mnE pE x Xs ∈ x :: Xs := fun Xs => by
  unfold mnE
  induction Xs generalizing x with
  | nil => exact List.mem_cons_self
  | cons y Xs ih =>
    rw [List.foldl_cons]
    rcases List.mem_cons.mp (ih (if W.dataLt (pE y) (pE x) = true then y else x)) with h | h
    · rw [h]
      split
      · exact List.mem_cons_of_mem _ List.mem_cons_self
      · exact List.mem_cons_self
    · exact List.mem_cons_of_mem _ (List.mem_cons_of_mem _ h)
theorem mn_le (x : α) : ∀ Xs : List α, ∀ y ∈ x :: Xs, leK (eE dE pE (mnE pE x Xs)) (eE dE pE y) = true := fun Xs => by
  unfold mnE
  induction Xs generalizing x with
  | nil =>
    intro y hy
    rw [List.mem_singleton.mp hy]
    exact Bool.or_self (leK (eE dE pE x) (eE dE pE x)) ▸ leK_total _ _
  | cons z Xs ih =>
    intro y hy
    rw [List.foldl_cons]
    have st := ih (if W.dataLt (pE z) (pE x) = true then z else x)
    have top := st _ List.mem_cons_self
    rcases List.mem_cons.mp hy with q | hy
    · subst q
      refine leK_trans _ _ _ top ?_
      split
      · rename_i h
        show leK (eE dE pE z) (eE dE pE y) = true
        have t := leK_total (eE dE pE z) (eE dE pE y)
        have f : leK (eE dE pE y) (eE dE pE z) = false := by
          show (!W.dataLt (pE z) (pE y)) = false
          rw [h]; rfl
        rw [f, Bool.or_false] at t
        exact t
      · exact Bool.or_self (leK (eE dE pE y) (eE dE pE y)) ▸ leK_total _ _
    · rcases List.mem_cons.mp hy with q | hy
      · subst q
        refine leK_trans _ _ _ top ?_
        split
        · exact Bool.or_self (leK (eE dE pE y) (eE dE pE y)) ▸ leK_total _ _
        · rename_i h
          show (!W.dataLt (pE y) (pE x)) = true
          cases e : W.dataLt (pE y) (pE x)
          · rfl
          · exact absurd e h
      · exact st y (List.mem_cons_of_mem _ hy)
theorem mn_uniq (E : Enc dE pE) {x' : α} {Xs' : List α} (hs : ∀ y, y ∈ x :: Xs ↔ y ∈ x' :: Xs') : mnE pE x Xs = mnE pE x' Xs' :=
  le_anti E (mn_le (dE := dE) x Xs _ ((hs _).mpr (mn_mem x' Xs'))) (mn_le (dE := dE) x' Xs' _ ((hs _).mp (mn_mem x Xs)))
end
section
variable {i j : Im} {A B : List Im}
def pIt (i : Im) : PyData := .tuple [.tuple (i.1.map .int), .int i.2]
theorem toks_pre : ∀ (X Y : List Int) (a b : List (Int ⊕ List Nat)), W.keyToksAll (X.map .int) ++ a = W.keyToksAll (Y.map .int) ++ b → X = Y ∧ a = b
  | [], [], a, b, e => ⟨rfl, by simpa [W.keyToksAll] using e⟩
  | [], y :: Y, a, b, e => by simp [W.keyToksAll] at e
  | x :: X, [], a, b, e => by simp [W.keyToksAll] at e
  | x :: X, y :: Y, a, b, e => by
    simp only [List.map_cons, W.keyToksAll, W.keyToks, List.cons_append, List.nil_append, List.cons.injEq, Sum.inl.injEq, true_and] at e
    obtain ⟨e1, e2⟩ := toks_pre X Y a b e.2
    exact ⟨by rw [e.1, e1], e2⟩
theorem toks_it (a b : List (Int ⊕ List Nat)) (e : W.keyToks (pIt i) ++ a = W.keyToks (pIt j) ++ b) : i = j ∧ a = b := by
  simp only [pIt, W.keyToks, W.keyToksAll, List.cons_append, List.nil_append, List.append_assoc, List.cons.injEq, true_and] at e
  obtain ⟨e1, e2⟩ := toks_pre _ _ _ _ e
  simp only [List.cons.injEq, Sum.inl.injEq, true_and] at e2
  exact ⟨Prod.ext e1 e2.1, e2.2⟩
theorem toks_its : ∀ A B : List Im, W.keyToksAll (A.map pIt) = W.keyToksAll (B.map pIt) → A = B
  | [], [], _ => rfl
  | [], y :: Y, e => by simp [W.keyToksAll] at e
  | x :: X, [], e => by simp [W.keyToksAll] at e
  | x :: X, y :: Y, e => by
    simp only [List.map_cons, W.keyToksAll, List.cons.injEq, true_and] at e
    obtain ⟨e1, e2⟩ := toks_it _ _ e
    rw [e1, toks_its X Y e2]
theorem b_it (i : Im) : beqD (itD i) (itD i) = true := by
  show (beqD (tI i.1) (tI i.1) && (beqD (.int i.2) (.int i.2) && true)) = true
  rw [Lay.beqD_tI]
  simp [beqD]
theorem b_its : ∀ A : List Im, beqDs (A.map itD) (A.map itD) = true
  | [] => rfl
  | i :: A => by
    rw [List.map_cons]
    show (beqD (itD i) (itD i) && beqDs (A.map itD) (A.map itD)) = true
    rw [b_it, b_its A]
    rfl
theorem encI : Enc itD pIt := ⟨fun {x y} e => (toks_it [] [] (by rw [e])).1, b_it⟩
abbrev dT (A : List Im) : D := .tup (A.map itD)
abbrev dL (A : List Im) : D := .lst (A.map itD)
def pT (A : List Im) : PyData := .tuple (A.map pIt)
def pL (A : List Im) : PyData := .list (A.map pIt)
theorem encT : Enc dT pT := ⟨fun {x y} e => toks_its x y (by simpa [pT, W.keyToks] using e), fun A => b_its A⟩
theorem encL : Enc dL pL := ⟨fun {x y} e => toks_its x y (by simpa [pL, W.keyToks] using e), fun A => b_its A⟩
theorem mn_TL (A : List Im) : ∀ L : List (List Im), mnE pT A L = mnE pL A L := fun L => by
  unfold mnE
  congr 1
end
end VI.K29
end
section
namespace VI.K29
open PySem PySem.Spec PyProof.Rows L2 VI VI.Std
open VI.Lay (itD ItOk LayT LayOk oL IsL stG rgI)
section
variable {K : PySem.W.Frag} {h : Bs} {ns : List Int} {n b : Nat} {c : Int} {its : List Lay.It}
theorem ite_k {sc sa sb : SV} {ρ : Ev} {h h1 : Bs} {p : Bool} (e : sc ρ h = .ok (.bl p) h1) : sIte sc sa sb ρ h = if p = true then sa ρ h1 else sb ρ h1 := by
  simp -implicitDefEqProofs only [sIte, sTru, e, bind_ok, truth]
theorem py_it {m : Nat} (i : Lay.It) : py (m + 4) h (itD i) = some (pIt i) := by
  have e : py (m + 3) h (tI i.1) = some (.tuple (i.1.map .int)) := py_tI i.1
  show (mapO (py (m + 3) h) [tI i.1, .int i.2]).map PyData.tuple = _
  simp only [mapO, e]
  rfl
theorem py_itsO {m : Nat} (l : List Lay.It) : mapO (py (m + 4) h) (l.map itD) = some (l.map pIt) := by
  induction l with
  | nil => rfl
  | cons i l ih => simp only [List.map_cons, mapO, py_it, ih]
theorem py_its (l : List Lay.It) : py pyN h (.lst (l.map itD)) = some (.list (l.map pIt)) := by
  show (mapO (py 11 h) (l.map itD)).map PyData.list = _
  rw [show (11 : Nat) = 7 + 4 from rfl, py_itsO]
  rfl
theorem py_itsT {m : Nat} (l : List Lay.It) : py (m + 5) h (.tup (l.map itD)) = some (.tuple (l.map pIt)) := by
  show (mapO (py (m + 4) h) (l.map itD)).map PyData.tuple = _
  rw [py_itsO]
  rfl
theorem eqv_it (i j : Lay.It) : PyData.eqv (pIt i) (pIt j) = decide (i = j) := by
  obtain ⟨X, a⟩ := i
  obtain ⟨Y, b⟩ := j
  have e : ∀ p q r s : PyData, PyData.eqv (.tuple [p, q]) (.tuple [r, s]) = (PyData.eqv p r && PyData.eqv q s) := fun p q r s => by simp [PyData.eqv, PyData.eqvAll]
  have t : ∀ U V : List PyData, PyData.eqv (.tuple U) (.tuple V) = PyData.eqvAll U V := fun U V => by simp [PyData.eqv]
  show PyData.eqv (.tuple [.tuple (X.map .int), .int a]) (.tuple [.tuple (Y.map .int), .int b]) = _
  rw [e, t, eqvAll_ints, eqv_int, Bool.eq_iff_iff]
  simp [Prod.ext_iff]
theorem eqvAll_its : ∀ A B : List Lay.It, PyData.eqvAll (A.map pIt) (B.map pIt) = decide (A = B)
  | [], [] => by simp [PyData.eqvAll]
  | [], j :: B => by simp [PyData.eqvAll]
  | i :: A, [] => by simp [PyData.eqvAll]
  | i :: A, j :: B => by
    rw [List.map_cons, List.map_cons, PyData.eqvAll, eqv_it, eqvAll_its A B, Bool.eq_iff_iff]
    simp
theorem eq_itsL {A B : List Lay.It} {neg : Bool} : eqD neg (.lst (A.map itD)) (.lst (B.map itD)) h = .ok (.bl (if neg then !decide (A = B) else decide (A = B))) h := by
  have e : PyData.eqv (.list (A.map pIt)) (.list (B.map pIt)) = decide (A = B) := by
    rw [show PyData.eqv (.list (A.map pIt)) (.list (B.map pIt)) = PyData.eqvAll (A.map pIt) (B.map pIt) by simp [PyData.eqv]]
    exact eqvAll_its A B
  simp only [eqD, py_its, e]
theorem eq_itsT {A B : List Lay.It} {neg : Bool} : eqD neg (.tup (A.map itD)) (.tup (B.map itD)) h = .ok (.bl (if neg then !decide (A = B) else decide (A = B))) h := by
  have e : PyData.eqv (.tuple (A.map pIt)) (.tuple (B.map pIt)) = decide (A = B) := by
    rw [show PyData.eqv (.tuple (A.map pIt)) (.tuple (B.map pIt)) = PyData.eqvAll (A.map pIt) (B.map pIt) by simp [PyData.eqv]]
    exact eqvAll_its A B
  have p : ∀ l : List Lay.It, py pyN h (.tup (l.map itD)) = some (.tuple (l.map pIt)) := fun l => py_itsT (m := 7) l
  simp only [eqD, p, e]
end
end VI.K29
end
section
namespace VI.K29
open PySem PySem.Spec PyProof.Rows L2 VI VI.Std
open VI.Lay (itD ItOk LayT LayOk oL IsL stG rgI okU rd eD)
section
variable {K : PySem.W.Frag} {h : Bs} {n m : Nat} {its jts : List Lay.It} {s : Int} {X p : List Int}
theorem numb_k {x a b : Int} : f_is_number (tbC ct K) [.int x, .int a, .int b] h = .ok (.bl (decide (a ≤ x) && decide (x ≤ b))) h := num_ok (ct := ct) (K := K)
theorem meth_k {i : Nat} {f : List D → Bs → R D} {so : SV} {sx : SA} {ρ : Ev} {xs : List D} {r : R D} (hm : [0, 1].contains i = false) (e1 : so ρ h = .ok (oL n its) h) (e2 : sx ρ h = .ok xs h) (e : f (oL n its :: xs) h = r) : sMeth i (fun c => List.lookup c [(0, f)]) so sx ρ h = r := by
  have e3 : mthD i (fun c => List.lookup c [(0, f)]) (oL n its) h = some f := by
    show (if [0, 1].contains i then none else some f) = _
    rw [hm]
    rfl
  unfold sMeth
  rw [e1, bind_ok]
  simp only [e3, e2, bind_ok]
  exact e
theorem make_k (H : LayOk n its) {d : D} (hd : IsL d its) : makeD 0 true (f_Layout_init (tbC ct K)) [.int n, d] h = .ok (oL n its) h := Lay.make_ok layT H hd
end
end VI.K29
end
section
namespace VI.K29
open PySem PySem.Spec PyProof.Rows L2 VI VI.Std
open VI.Lay (itD ItOk LayT LayOk oL IsL stG rgI okU rd eD)
section
variable {K : PySem.W.Frag} {h : Bs} {ns : List Int} {b n m : Nat} {c : Int} {its jts : List Lay.It} {s t : Int} {X U p : List Int}
def ap (p : List Int) (s : Int) : Int := at' p s.toNat
theorem ix_p (hp : OrdN n p) (h0 : 0 ≤ s) (h1 : s < n) : ixD (tI p) (.int s) h = .ok (.int (ap p s)) h := by
  have hl := hp.len
  obtain ⟨i, rfl⟩ : ∃ i : Nat, s = i := ⟨s.toNat, by omega⟩
  exact ixS rfl (by omega)
theorem ap_mem (hp : OrdN n p) (h0 : 0 ≤ s) (h1 : s < n) : 0 ≤ ap p s ∧ ap p s < n := hp.mem.mp (at_mem (by have := hp.len; omega))
theorem ap_inj (hp : OrdN n p) (h0 : 0 ≤ s) (h1 : s < n) (t0 : 0 ≤ t) (t1 : t < n) (e : ap p s = ap p t) : s = t := by
  have hl := hp.len
  have e1 := at_get (l := p) (i := s.toNat) (by omega)
  have e2 := at_get (l := p) (i := t.toNat) (by omega)
  unfold ap at e
  rw [e, ← e2] at e1
  have := (List.getElem?_inj (by omega) hp.nodup).mp e1
  omega
def rn (p X : List Int) : List Int := sortI (X.map (ap p))
theorem rn_perm : (rn p X).Perm (X.map (ap p)) := sortI_perm _
theorem rn_len : (rn p X).length = X.length := by rw [rn_perm.length_eq, List.length_map]
theorem map_nodup (hp : OrdN n p) (hX : SetN n X) : (X.map (ap p)).Nodup := by
  rw [List.nodup_iff_pairwise_ne, List.pairwise_map]
  refine List.Pairwise.imp_of_mem ?_ hX.up
  intro a b ha hb lt e
  have := ap_inj hp (hX.lo a ha).1 (hX.lo a ha).2 (hX.lo b hb).1 (hX.lo b hb).2 e
  omega
theorem rn_set (hp : OrdN n p) (hX : SetN n X) : SetN n (rn p X) := by
  refine ⟨sorted_lt (sortI_sorted _) (rn_perm.symm.nodup (map_nodup hp hX)), fun x hx => ?_⟩
  obtain ⟨y, hy, rfl⟩ := List.mem_map.mp (rn_perm.mem_iff.mp hx)
  exact ap_mem hp (hX.lo y hy).1 (hX.lo y hy).2
def rowI (p : List Int) (i : Lay.It) : Lay.It := (rn p i.1, i.2)
theorem rows_ok (hp : OrdN n p) (H : LayOk n its) : LayOk n (its.map (rowI p)) := by
  refine ⟨H.lo, H.hi, by rw [List.length_map]; exact H.ne, by rw [List.length_map]; exact H.few, fun i hi => ?_⟩
  obtain ⟨j, hj, rfl⟩ := List.mem_map.mp hi
  have ok := H.ok j hj
  exact ⟨rn_set hp ok.set, ok.lo, by show j.2 ≤ ((rn p j.1).length : Nat); rw [rn_len]; exact ok.hi⟩
theorem rn_ok {own : List Nat} {it : SI} {g : SG} {el : SV} {ρ : Ev} (hX : SetN n X) (hn : n ≤ 8) (e1 : it ρ h = .ok (X.map .int, none) h) (H : ∀ x ∈ X, ∃ ρ1, g (.int x) (wipeE ρ own) h = .ok ρ1 h ∧ el ρ1 h = .ok (.int (ap p x)) h) :
    (sCall tupleD (saCons (sCall (sortDS false) (saCons (sLc false own it g (fun _ h => .ok true h) el) saNil)) saNil)) ρ h = .ok (tI (rn p X)) h := by
  have sz : (1000 : Nat) ≤ sizeLine := by decide
  have hl := Lay.SetN.len hX
  have e : sLc false own it g (fun _ h => .ok true h) el ρ h = .ok (lI (X.map (ap p))) h := by
    refine lc_ok e1 (ys := (X.map (ap p)).map .int) ?_ (by rw [List.length_map, List.length_map]; omega)
    rw [List.map_map]
    exact lc_emb1 .int (fun x => .int (ap p x)) X H
  exact call_ok (cons_ok (call_ok (cons_ok e rfl) (sortDS_lI (by rw [List.length_map]; omega))) rfl) (tuple_lst (by rw [List.length_map]; show (rn p X).length ≤ _; rw [rn_len]; omega))
theorem ded_nodup' : ∀ {l : List Int}, l.Nodup → dedI l = l
  | [], _ => rfl
  | x :: l, hx => by
    rw [List.nodup_cons] at hx
    simp only [dedI]
    rw [if_neg (by simpa using hx.1), ded_nodup' hx.2]
theorem isord_k (hp : OrdN n p) (hn : n ≤ 8) : f_is_order (tbC ct K) [tI p, .int n] h = .ok (.bl true) h := by
  have sz : (1000 : Nat) ≤ sizeLine := by decide
  have hl := hp.len
  refine run_rt rfl ?_ rfl
  show s_is_order (tbC ct K) [some (tI p), some (.int n), none] (inB h) = _
  unfold s_is_order
  have e1 : (sOp (eqD true) (sCall lenD (saCons (sVar 0) saNil)) (sVar 1)) [some (tI p), some (.int n), none] (inB h) = .ok (.bl false) (inB h) := by
    refine op_ok (x := .int p.length) (y := .int n) (call_ok (cons_ok rfl rfl) Lay.lenTI) rfl ?_
    rw [eq_ints, hl]
    simp
  have e2 : (sCall allD' (saCons (sLc false [2] (siSeq (sVar 0)) (sgName 2) (fun _ h => .ok true h) (sCall (f_is_number (tbC ct K)) (saCons (sVar 2) (saCons (sK (.int 0)) (saCons (sOp subD (sVar 1) (sK (.int 1))) saNil))))) saNil)) [some (tI p), some (.int n), none] (inB h) = .ok (.bl true) (inB h) := by
    refine (Lay.all_emb .int p (fun x => decide (0 ≤ x) && decide (x ≤ (n : Int) - 1)) rfl (fun x hx => ⟨[some (tI p), some (.int n), some (.int x)], rfl, call_ok (xs := [.int x, .int 0, .int ((n : Int) - 1)]) rfl numb_k⟩) (by omega)).trans ?_
    rw [List.all_eq_true.mpr fun x hx => ?_]
    have := hp.mem.mp hx
    rw [Bool.and_eq_true, decide_eq_true_eq, decide_eq_true_eq]
    omega
  refine (cons_nx (h1 := inB h) ((if_f (h1 := inB h) (or_ok (a := false) (b := false) e1 fun _ => not_ok (a := true) e2)).trans rfl)).trans ?_
  refine ret_ok (op_ok (h1 := inB h) (h2 := inB h) (x := .int n) (y := .int n) (un_ok (x := tI p) rfl ?_) rfl ((eq_ints (neg := false)).trans (by simp)))
  have : seqOf (inB h) (tI p) = some (p.map .int) := rfl
  unfold lenSetD
  rw [this]
  simp only [intsD_map]
  rw [if_pos (by omega), ded_nodup' hp.nodup, hl]
theorem itmap (f : Lay.It → Lay.It) : (its.map f).map itD = its.map fun i => itD (f i) := by rw [List.map_map]; rfl
theorem renamed_k (H : LayOk n its) (hp : OrdN n p) : f_Layout_renamed (tbC ct K) [oL n its, tI p] h = .ok (oL n (its.map (rowI p))) h := by
  have sz : (1000 : Nat) ≤ sizeLine := by decide
  have h8 := H.hi
  have h2 := H.few
  refine run_rt rfl ?_ Lay.noD_oL
  show s_Layout_renamed (tbC ct K) [some (oL n its), some (tI p), none, none, none, none] (inB h) = _
  unfold s_Layout_renamed
  refine (cons_nx (h1 := inB h) ((if_f (h1 := inB h) (or_ok (a := false) (b := false) (not_ok (a := true) rfl) fun _ => not_ok (a := true) (call_ok (h1 := inB h) (xs := [tI p, .int n]) (cons_ok (h1 := inB h) rfl (cons_ok (h1 := inB h) (un_ok (x := oL n its) rfl (Lay.fld0 layT)) rfl)) (isord_k hp h8)))).trans rfl)).trans ?_
  refine (cons_nx (ρ1 := [some (oL n its), some (tI p), some (.lst ((its.map (rowI p)).map itD)), none, none, none]) (h1 := inB h) (asg_ok (d := .lst ((its.map (rowI p)).map itD)) (lc_ok (xs := its.map itD) (seq_ok (un_ok (x := oL n its) rfl (Lay.fld1 layT)) rfl) ?_ (by rw [List.length_map, List.length_map]; omega)) rfl)).trans ?_
  · rw [itmap]
    refine lc_emb1 itD (fun i => itD (rowI p i)) its fun i hi => ⟨[some (oL n its), some (tI p), none, some (tI i.1), some (.int i.2), none], rfl, ?_⟩
    have ok := H.ok i hi
    exact tup_ok (xs := [tI (rn p i.1), .int i.2]) (cons_ok (rn_ok ok.set h8 rfl fun x hx => ⟨[some (oL n its), some (tI p), none, some (tI i.1), some (.int i.2), some (.int x)], rfl, op_ok (x := tI p) (y := .int x) rfl rfl (ix_p hp (ok.set.lo x hx).1 (ok.set.lo x hx).2)⟩) (cons_ok rfl rfl)) two_le
  · exact ret_ok (call_ok (h1 := inB h) (xs := [.int n, .lst ((its.map (rowI p)).map itD)]) (cons_ok (un_ok (x := oL n its) rfl (Lay.fld0 layT)) (cons_ok rfl rfl)) (make_k (rows_ok hp H) (.inl rfl)))
end
end VI.K29
end
section
namespace VI.K29
open PySem PySem.Spec PyProof.Rows L2 VI VI.Std VI.Fl
open VI.Lay (itD ItOk LayOk rgI)
section
variable {n k : Nat} {o p q r X : List Int} {A B C : List Im} {s t x : Int}
def stp (n : Nat) (L : List (List Int)) : List (List Int) := L.flatMap fun o => ((rgI n).filter fun s => !decide (s ∈ o)).map fun s => o ++ [s]
def itr (n : Nat) : Nat → List (List Int)
  | 0 => [[]]
  | k + 1 => stp n (itr n k)
def ords (n : Nat) : List (List Int) := itr n n
theorem mem_itr : ∀ (k : Nat) (o : List Int), o ∈ itr n k ↔ o.length = k ∧ o.Nodup ∧ ∀ x ∈ o, 0 ≤ x ∧ x < (n : Int)
  | 0, o => by
    show o ∈ [[]] ↔ _
    rw [List.mem_singleton]
    exact ⟨fun e => by subst e; exact ⟨rfl, .nil, fun _ h => (nomatch h)⟩, fun h => List.length_eq_zero_iff.mp h.1⟩
  | k + 1, o => by
    show o ∈ stp n (itr n k) ↔ _
    unfold stp
    rw [List.mem_flatMap]
    constructor
    · rintro ⟨o', h1, h2⟩
      obtain ⟨s, hs, rfl⟩ := List.mem_map.mp h2
      obtain ⟨s1, s2⟩ := List.mem_filter.mp hs
      have s2 : s ∉ o' := by simpa using s2
      obtain ⟨a, b, c⟩ := (mem_itr k o').mp h1
      refine ⟨by rw [List.length_append, a, List.length_singleton], ?_, fun x hx => ?_⟩
      · rw [List.nodup_append]
        exact ⟨b, by simp, fun x hx y hy => by rw [List.mem_singleton.mp hy]; exact fun z => s2 (z ▸ hx)⟩
      · rcases List.mem_append.mp hx with z | z
        · exact c x z
        · rw [List.mem_singleton.mp z]; exact Lay.mem_rgI.mp s1
    · rintro ⟨a, b, c⟩
      have ne : o ≠ [] := fun z => by rw [z] at a; cases a
      have e := List.dropLast_concat_getLast ne
      obtain ⟨o', s, rfl⟩ : ∃ o' s, o = o' ++ [s] := ⟨_, _, e.symm⟩
      rw [List.nodup_append] at b
      rw [List.length_append, List.length_singleton] at a
      refine ⟨o', (mem_itr k o').mpr ⟨by omega, b.1, fun x hx => c x (List.mem_append_left _ hx)⟩, List.mem_map.mpr ⟨s, List.mem_filter.mpr ⟨Lay.mem_rgI.mpr (c s (by simp)), ?_⟩, rfl⟩⟩
      have : s ∉ o' := fun z => b.2.2 s z s (by simp) rfl
      simpa using this
theorem ord_of (a : o.length = n) (b : o.Nodup) (c : ∀ x ∈ o, 0 ≤ x ∧ x < (n : Int)) : OrdN n o := by
  have rn : ((List.range n).map fun (i : Nat) => (i : Int)).Nodup := rng_nodup n
  refine (List.perm_ext_iff_of_nodup b rn).mpr fun x => ⟨fun h => ?_, fun h => ?_⟩
  · have := c x h
    exact List.mem_map.mpr ⟨x.toNat, List.mem_range.mpr (by omega), by omega⟩
  · refine Classical.byContradiction fun w => ?_
    have := VI.Ec.nd_le (l := x :: o) (u := (List.range n).map fun (i : Nat) => (i : Int)) (List.nodup_cons.mpr ⟨w, b⟩) fun y hy => by
      rcases List.mem_cons.mp hy with z | z
      · rw [z]; exact h
      · have := c y z
        exact List.mem_map.mpr ⟨y.toNat, List.mem_range.mpr (by omega), by omega⟩
    rw [List.length_cons, List.length_map, List.length_range] at this
    omega
theorem mem_ords : o ∈ ords n ↔ OrdN n o := by
  unfold ords
  rw [mem_itr]
  exact ⟨fun ⟨a, b, c⟩ => ord_of a b c, fun h => ⟨h.len, h.nodup, fun x hx => h.mem.mp hx⟩⟩
def fac : Nat → Nat
  | 0 => 1
  | n + 1 => (n + 1) * fac n
theorem ords_nd (hn : n ≤ 5) : (ords n).Nodup := by
  have : n = 0 ∨ n = 1 ∨ n = 2 ∨ n = 3 ∨ n = 4 ∨ n = 5 := by omega
  rcases this with rfl | rfl | rfl | rfl | rfl | rfl <;> decide +kernel
theorem ords_len (hn : n ≤ 5) : (ords n).length = fac n := by
  have : n = 0 ∨ n = 1 ∨ n = 2 ∨ n = 3 ∨ n = 4 ∨ n = 5 := by omega
  rcases this with rfl | rfl | rfl | rfl | rfl | rfl <;> decide +kernel
def comp (q p : List Int) : List Int := p.map (ap q)
theorem at_map {f : Int → Int} {k : Nat} (hk : k < p.length) : at' (p.map f) k = f (at' p k) := by
  have a := at_get hk
  have b := at_get (l := p.map f) (i := k) (by rw [List.length_map]; exact hk)
  rw [List.getElem?_map, a] at b
  exact (Option.some.inj b).symm
theorem ap_comp (hp : OrdN n p) (h0 : 0 ≤ s) (h1 : s < n) : ap (comp q p) s = ap q (ap p s) := at_map (by have := hp.len; omega)
theorem comp_ord (hq : OrdN n q) (hp : OrdN n p) : OrdN n (comp q p) := by
  refine ord_of (by unfold comp; rw [List.length_map, hp.len]) ?_ fun x hx => ?_
  · unfold comp
    exact List.pairwise_map.mpr (hp.nodup.imp_of_mem fun {a b} ha hb h z => h (ap_inj hq (hp.mem.mp ha).1 (hp.mem.mp ha).2 (hp.mem.mp hb).1 (hp.mem.mp hb).2 z))
  · obtain ⟨y, hy, rfl⟩ := List.mem_map.mp hx
    have := hp.mem.mp hy
    exact ap_mem hq this.1 this.2
end
end VI.K29
end
section
namespace VI.K29
open PySem PySem.Spec PyProof.Rows L2 VI VI.Std VI.Fl
open VI.Lay (itD ItOk LayOk rgI)
section
variable {n k : Nat} {o p q r X : List Int} {A B C : List Im} {s t x : Int}
theorem ap_id (h0 : 0 ≤ s) (h1 : s < n) : ap (rgI n) s = s := by
  have e := at_get (l := rgI n) (i := s.toNat) (by rw [Lay.rgI_len]; omega)
  have e2 : (rgI n)[s.toNat]? = some ((s.toNat : Nat) : Int) := by
    unfold rgI
    rw [List.getElem?_map, List.getElem?_range (by omega)]
    rfl
  rw [e2] at e
  have := Option.some.inj e
  show at' (rgI n) s.toNat = s
  omega
theorem id_ord : OrdN n (rgI n) := List.Perm.refl _
def inv (p : List Int) : List Int := (rgI p.length).map fun x => ((p.idxOf x : Nat) : Int)
theorem inv_ap (hp : OrdN n p) (h0 : 0 ≤ x) (h1 : x < n) : 0 ≤ ap (inv p) x ∧ ap (inv p) x < n ∧ ap p (ap (inv p) x) = x := by
  have hl := hp.len
  have e : ap (inv p) x = ((p.idxOf x : Nat) : Int) := by
    unfold inv
    have := at_map (p := rgI p.length) (f := fun x => ((p.idxOf x : Nat) : Int)) (k := x.toNat) (by rw [Lay.rgI_len]; omega)
    show at' _ x.toNat = _
    rw [this]
    have q : at' (rgI p.length) x.toNat = x := ap_id (n := p.length) h0 (by omega)
    rw [q]
  have lt : p.idxOf x < p.length := List.idxOf_lt_length_iff.mpr (hp.mem.mpr ⟨h0, h1⟩)
  rw [e]
  refine ⟨by omega, by omega, ?_⟩
  show at' p ((p.idxOf x : Nat) : Int).toNat = x
  rw [Int.toNat_natCast]
  have g := at_get lt
  rw [List.getElem?_eq_getElem lt] at g
  rw [← Option.some.inj g]
  exact List.getElem_idxOf lt
theorem inv_ap' (hp : OrdN n p) (h0 : 0 ≤ s) (h1 : s < n) : ap (inv p) (ap p s) = s := by
  have m := ap_mem hp h0 h1
  obtain ⟨a, b, c⟩ := inv_ap hp m.1 m.2
  exact ap_inj hp a b h0 h1 c
theorem inv_ord (hp : OrdN n p) : OrdN n (inv p) := by
  have hl := hp.len
  refine ord_of (by unfold inv; rw [List.length_map, Lay.rgI_len, hl]) ?_ fun y hy => ?_
  · unfold inv
    refine List.pairwise_map.mpr ((rng_nodup p.length).imp_of_mem fun {a b} ha hb h z => h ?_)
    have ha : a ∈ rgI p.length := ha
    have hb : b ∈ rgI p.length := hb
    have a1 := Lay.mem_rgI.mp ha
    have b1 := Lay.mem_rgI.mp hb
    have am : a ∈ p := hp.mem.mpr ⟨a1.1, by omega⟩
    have bm : b ∈ p := hp.mem.mpr ⟨b1.1, by omega⟩
    have la := List.idxOf_lt_length_iff.mpr am
    have lb := List.idxOf_lt_length_iff.mpr bm
    have ga := List.getElem_idxOf la
    have gb := List.getElem_idxOf lb
    have : p.idxOf a = p.idxOf b := by omega
    simp only [this] at ga
    exact ga.symm.trans gb
  · obtain ⟨x, hx, rfl⟩ := List.mem_map.mp hy
    have x1 := Lay.mem_rgI.mp hx
    have := List.idxOf_lt_length_iff.mpr (hp.mem.mpr ⟨x1.1, by omega⟩ : x ∈ p)
    omega
theorem rn_comp (hp : OrdN n p) (hX : SetN n X) : rn (comp q p) X = rn q (rn p X) := by
  unfold rn
  refine VI.Ec.sortI_perm_eq ?_
  have e : X.map (ap (comp q p)) = (X.map (ap p)).map (ap q) := by
    rw [List.map_map]
    exact List.map_congr_left fun s hs => ap_comp hp (hX.lo s hs).1 (hX.lo s hs).2
  rw [e]
  exact ((sortI_perm _).map _).symm
theorem rn_id (hX : SetN n X) : rn (rgI n) X = X := by
  unfold rn
  have e : X.map (ap (rgI n)) = X := by
    have : X.map (ap (rgI n)) = X.map id := List.map_congr_left fun s hs => ap_id (hX.lo s hs).1 (hX.lo s hs).2
    rw [this, List.map_id]
  rw [e]
  exact VI.Ec.sort_uni (sortI_perm X) (sortI_sorted X) (hX.up.imp fun {a b} h => by omega)
abbrev rnL (p : List Int) (A : List Im) : List Im := A.map (rowI p)
def Oks (n : Nat) (A : List Im) : Prop := ∀ i ∈ A, SetN n i.1
theorem ok_rn (hp : OrdN n p) (hA : Oks n A) : Oks n (rnL p A) := fun i hi => by
  obtain ⟨j, hj, rfl⟩ := List.mem_map.mp hi
  exact rn_set hp (hA j hj)
theorem rnL_comp (hp : OrdN n p) (hA : Oks n A) : rnL (comp q p) A = rnL q (rnL p A) := by
  unfold rnL
  rw [List.map_map]
  refine List.map_congr_left fun i hi => ?_
  show (rn (comp q p) i.1, i.2) = (rn q (rn p i.1), i.2)
  rw [rn_comp hp (hA i hi)]
theorem rnL_id (hA : Oks n A) : rnL (rgI n) A = A := by
  unfold rnL
  have : A.map (rowI (rgI n)) = A.map id := List.map_congr_left fun i hi => by
    show (rn (rgI n) i.1, i.2) = i
    rw [rn_id (hA i hi)]
  rw [this, List.map_id]
def Alk (p : List Int) (A B : List Im) : Prop := (rnL p A).Perm B
theorem Alk.comp (hp : OrdN n p) (hA : Oks n A) (a : Alk p A B) (b : Alk q B C) : Alk (comp q p) A C := by
  unfold Alk
  rw [rnL_comp hp hA]
  exact (a.map _).trans b
theorem comp_inv (hp : OrdN n p) : K29.comp (inv p) p = rgI n := by
  have hl := hp.len
  unfold K29.comp
  apply List.ext_getElem?
  intro k
  by_cases hk : k < n
  · rw [List.getElem?_map, at_get (l := p) (i := k) (by omega)]
    unfold rgI
    rw [List.getElem?_map, List.getElem?_range hk]
    show some (ap (inv p) (at' p k)) = some (k : Int)
    have := inv_ap' hp (s := (k : Int)) (by omega) (by omega)
    unfold ap at this
    rw [Int.toNat_natCast] at this
    unfold ap
    rw [this]
  · rw [List.getElem?_eq_none (by rw [List.length_map]; omega), List.getElem?_eq_none (by rw [Lay.rgI_len]; omega)]
theorem Alk.inv (hp : OrdN n p) (hA : Oks n A) (a : Alk p A B) : Alk (inv p) B A := by
  unfold Alk
  have e : rnL (K29.inv p) (rnL p A) = A := by rw [← rnL_comp hp hA, comp_inv hp, rnL_id hA]
  have := a.map (rowI (K29.inv p))
  exact this.symm.trans (List.Perm.of_eq e)
theorem Alk.id (hA : Oks n A) : Alk (rgI n) A A := by
  unfold Alk
  rw [rnL_id hA]
noncomputable def sI (A : List Im) : List Im := srt itD pIt A
noncomputable def fm (p : List Int) (A : List Im) : List Im := sI (rnL p A)
theorem sI_iff : sI A = sI B ↔ A.Perm B := srt_iff encI
theorem fm_alk : fm p A = sI B ↔ Alk p A B := sI_iff
theorem fm_eq (hp : OrdN n p) (hq : OrdN n q) (hA : Oks n A) : fm p A = fm q A ↔ Alk (comp (inv q) p) A A := by
  constructor
  · intro e
    have a : Alk p A (rnL q A) := sI_iff.mp e
    exact a.comp hp hA (Alk.inv (B := rnL q A) hq hA (List.Perm.refl _))
  · intro h
    have e : rnL (K29.comp (inv q) p) A = rnL (inv q) (rnL p A) := rnL_comp hp hA
    unfold Alk at h
    rw [e] at h
    have h2 := h.map (rowI q)
    have back : rnL q (rnL (inv q) (rnL p A)) = rnL p A := by
      have hpA := ok_rn hp hA
      rw [← rnL_comp (inv_ord hq) hpA]
      have : K29.comp q (inv q) = rgI n := by
        have hl := hq.len
        have hil := (inv_ord hq).len
        unfold K29.comp
        apply List.ext_getElem?
        intro k
        by_cases hk : k < n
        · rw [List.getElem?_map, at_get (l := inv q) (i := k) (by omega)]
          unfold rgI
          rw [List.getElem?_map, List.getElem?_range hk]
          show some (ap q (at' (inv q) k)) = some (k : Int)
          have := (inv_ap hq (x := (k : Int)) (by omega) (by omega)).2.2
          unfold ap at this
          rw [Int.toNat_natCast] at this
          unfold ap
          rw [this]
        · rw [List.getElem?_eq_none (by rw [List.length_map]; omega), List.getElem?_eq_none (by rw [Lay.rgI_len]; omega)]
      rw [this, rnL_id hpA]
    exact sI_iff.mpr ((List.Perm.of_eq back.symm).trans h2)
noncomputable def forms (n : Nat) (A : List Im) : List (List Im) := (ords n).map fun p => fm p A
noncomputable def least : List (List Im) → List Im
  | [] => []
  | x :: xs => mnE pT x xs
theorem least_uniq {L M : List (List Im)} (h : ∀ y, y ∈ L ↔ y ∈ M) : least L = least M := by
  match L, M, h with
  | [], [], _ => rfl
  | [], y :: M, h => exact absurd ((h y).mpr List.mem_cons_self) (by simp)
  | x :: L, [], h => exact absurd ((h x).mp List.mem_cons_self) (by simp)
  | x :: L, y :: M, h => exact mn_uniq encT h
theorem least_mem {L : List (List Im)} (h : L ≠ []) : least L ∈ L := by
  match L, h with
  | x :: L, _ => exact mn_mem x L
noncomputable def sm (n : Nat) (A : List Im) : List Im := least (forms n A)
theorem mem_forms {y : List Im} : y ∈ forms n A ↔ ∃ p, OrdN n p ∧ fm p A = y := by
  unfold forms
  rw [List.mem_map]
  exact ⟨fun ⟨p, a, b⟩ => ⟨p, mem_ords.mp a, b⟩, fun ⟨p, a, b⟩ => ⟨p, mem_ords.mpr a, b⟩⟩
theorem ords_ne : ords n ≠ [] := fun z => by
  have := mem_ords.mpr (id_ord (n := n))
  rw [z] at this
  cases this
theorem sm_mem : ∃ p, OrdN n p ∧ fm p A = sm n A := mem_forms.mp (least_mem fun z => ords_ne (List.map_eq_nil_iff.mp z))
theorem forms_sub (hp : OrdN n p) (hA : Oks n A) (a : Alk p A B) {y : List Im} (hy : y ∈ forms n B) : y ∈ forms n A := by
  obtain ⟨q, hq, rfl⟩ := mem_forms.mp hy
  refine mem_forms.mpr ⟨comp q p, comp_ord hq hp, ?_⟩
  exact sI_iff.mpr (by rw [rnL_comp hp hA]; exact a.map _)
theorem sm_alk (hp : OrdN n p) (hA : Oks n A) (hB : Oks n B) (a : Alk p A B) : sm n A = sm n B :=
  least_uniq fun y => ⟨forms_sub (inv_ord hp) hB (a.inv hp hA), forms_sub hp hA a⟩
theorem sm_eq (hA : Oks n A) (hB : Oks n B) (e : sm n A = sm n B) : ∃ p, OrdN n p ∧ Alk p A B := by
  obtain ⟨p, hp, e1⟩ := sm_mem (n := n) (A := A)
  obtain ⟨q, hq, e2⟩ := sm_mem (n := n) (A := B)
  have h : Alk p A (rnL q B) := sI_iff.mp (e1.trans (e.trans e2.symm))
  exact ⟨comp (inv q) p, comp_ord (inv_ord hq) hp, h.comp hp hA (Alk.inv (B := rnL q B) hq hB (List.Perm.refl _))⟩
theorem fm_len : (fm p A).length = A.length := by
  unfold fm sI rnL
  rw [srt_len, List.length_map]
theorem sm_len : (sm n A).length = A.length := by
  obtain ⟨p, _, e⟩ := sm_mem (n := n) (A := A)
  rw [← e, fm_len]
noncomputable def own (n : Nat) (A : List Im) : List (List Int) := (ords n).filter fun p => decide (fm p A = sI A)
theorem mem_own : p ∈ own n A ↔ OrdN n p ∧ Alk p A A := by
  unfold own
  rw [List.mem_filter, mem_ords, decide_eq_true_eq, fm_alk]
noncomputable def orb (n : Nat) (A : List Im) (s : Int) : List Int := (rgI n).filter fun t => decide (t ∈ (own n A).map fun p => ap p s)
theorem mem_orb (h0 : 0 ≤ s) (h1 : s < n) : t ∈ orb n A s ↔ ∃ p, p ∈ own n A ∧ ap p s = t := by
  unfold orb
  rw [List.mem_filter, decide_eq_true_eq, List.mem_map]
  refine ⟨fun h => h.2, fun h => ⟨?_, h⟩⟩
  obtain ⟨p, hp, e⟩ := h
  have := ap_mem (mem_own.mp hp).1 h0 h1
  exact Lay.mem_rgI.mpr (by rw [← e]; exact this)
theorem orb_self (hA : Oks n A) (h0 : 0 ≤ s) (h1 : s < n) : s ∈ orb n A s := (mem_orb h0 h1).mpr ⟨rgI n, mem_own.mpr ⟨id_ord, .id hA⟩, ap_id h0 h1⟩
theorem orb_eq (hA : Oks n A) (h0 : 0 ≤ s) (h1 : s < n) (ht : t ∈ orb n A s) : orb n A t = orb n A s := by
  obtain ⟨p, hp, rfl⟩ := (mem_orb h0 h1).mp ht
  obtain ⟨p1, p2⟩ := mem_own.mp hp
  have m := ap_mem p1 h0 h1
  unfold orb
  refine List.filter_congr fun u hu => decide_eq_decide.mpr ?_
  rw [List.mem_map, List.mem_map]
  constructor
  · rintro ⟨q, hq, rfl⟩
    obtain ⟨q1, q2⟩ := mem_own.mp hq
    exact ⟨comp q p, mem_own.mpr ⟨comp_ord q1 p1, p2.comp p1 hA q2⟩, ap_comp p1 h0 h1⟩
  · rintro ⟨q, hq, rfl⟩
    obtain ⟨q1, q2⟩ := mem_own.mp hq
    have ip := p2.inv p1 hA
    exact ⟨comp q (inv p), mem_own.mpr ⟨comp_ord q1 (inv_ord p1), ip.comp (inv_ord p1) hA q2⟩, by rw [ap_comp (inv_ord p1) m.1 m.2, inv_ap' p1 h0 h1]⟩
theorem orb_iff (hA : Oks n A) (h0 : 0 ≤ s) (h1 : s < n) (t0 : 0 ≤ t) (t1 : t < n) : t ∈ orb n A s ↔ orb n A t = orb n A s := ⟨orb_eq hA h0 h1, fun e => e ▸ orb_self hA t0 t1⟩
theorem fib (hq : OrdN n q) (hn : n ≤ 5) (hA : Oks n A) : ((ords n).filter fun p => decide (fm p A = fm q A)).length = (own n A).length := by
  have nd := ords_nd hn
  have e : ((ords n).filter fun p => decide (fm p A = fm q A)).Perm ((own n A).map (comp q)) := by
    refine (List.perm_ext_iff_of_nodup (nd.filter _) ?_).mpr fun p => ?_
    · refine List.pairwise_map.mpr ((nd.filter _).imp_of_mem fun {a b} ha hb h z => h ?_)
      obtain ⟨a1, _⟩ := mem_own.mp ha
      obtain ⟨b1, _⟩ := mem_own.mp hb
      have al := a1.len
      have bl := b1.len
      apply List.ext_getElem?
      intro k
      by_cases hk : k < n
      · rw [at_get (by omega), at_get (by omega)]
        have e1 : at' (comp q a) k = at' (comp q b) k := by rw [z]
        unfold comp at e1
        rw [at_map (by omega), at_map (by omega)] at e1
        have ga := List.mem_of_getElem? (at_get (l := a) (i := k) (by omega))
        have gb := List.mem_of_getElem? (at_get (l := b) (i := k) (by omega))
        have := ap_inj hq (a1.mem.mp ga).1 (a1.mem.mp ga).2 (b1.mem.mp gb).1 (b1.mem.mp gb).2 e1
        rw [this]
      · rw [List.getElem?_eq_none (by omega), List.getElem?_eq_none (by omega)]
    · rw [List.mem_filter, mem_ords, decide_eq_true_eq, List.mem_map]
      constructor
      · rintro ⟨hp, e⟩
        have h := (fm_eq hp hq hA).mp e
        refine ⟨comp (inv q) p, mem_own.mpr ⟨comp_ord (inv_ord hq) hp, h⟩, ?_⟩
        have pl := hp.len
        unfold comp
        rw [List.map_map]
        have : p.map (ap q ∘ ap (inv q)) = p.map id := List.map_congr_left fun s hs => (inv_ap hq (hp.mem.mp hs).1 (hp.mem.mp hs).2).2.2
        rw [this, List.map_id]
      · rintro ⟨r, hr, rfl⟩
        obtain ⟨r1, r2⟩ := mem_own.mp hr
        refine ⟨comp_ord hq r1, sI_iff.mpr ?_⟩
        rw [rnL_comp r1 hA]
        exact r2.map _
  rw [e.length_eq, List.length_map]
theorem fibers {β : Type} [DecidableEq β] {m : Nat} : ∀ (L V : List β), V.Nodup → (∀ x ∈ L, x ∈ V) → (∀ v ∈ V, L.count v = m) → L.length = V.length * m := by
  intro L V nd hs hc
  have : ∀ (V : List β) (L : List β), V.Nodup → (∀ x ∈ L, x ∈ V) → L.length = (V.map fun v => L.count v).sum := by
    intro V
    induction V with
    | nil =>
      intro L _ h
      cases L with
      | nil => rfl
      | cons x L => exact absurd (h x List.mem_cons_self) (by simp)
    | cons v V ih =>
      intro L nd h
      obtain ⟨n1, n2⟩ := List.nodup_cons.mp nd
      rw [List.map_cons, List.sum_cons]
      have a := ih (L.filter fun x => !decide (x = v)) n2 fun x hx => by
        obtain ⟨m1, m2⟩ := List.mem_filter.mp hx
        rcases List.mem_cons.mp (h x m1) with z | z
        · rw [z] at m2; simp at m2
        · exact z
      have b : (V.map fun w => (L.filter fun x => !decide (x = v)).count w) = V.map fun w => L.count w := by
        refine List.map_congr_left fun w hw => List.count_filter ?_
        have : w ≠ v := fun z => n1 (z ▸ hw)
        simp [this]
      rw [b] at a
      rw [← a]
      have : ∀ L : List β, L.length = L.count v + (L.filter fun x => !decide (x = v)).length := fun L => by
        induction L with
        | nil => rfl
        | cons x L ih =>
          by_cases z : x = v
          · subst z
            rw [List.count_cons_self, List.filter_cons_of_neg (by simp), List.length_cons]; omega
          · rw [List.count_cons_of_ne (by simpa using z), List.filter_cons_of_pos (by simp [z]), List.length_cons, List.length_cons]; omega
      exact this L
  rw [this V L nd hs]
  have e : (V.map fun v => L.count v) = V.map fun _ => m := List.map_congr_left fun v hv => hc v hv
  rw [e]
  clear e hs hc nd this
  induction V with
  | nil => simp
  | cons v V ih => rw [List.map_cons, List.sum_cons, ih, List.length_cons, Nat.succ_mul]; omega
theorem fibers' {β : Type} [DecidableEq β] {m : Nat} (L V : List β) (nd : V.Nodup) (hs : ∀ x ∈ L, x ∈ V) (hc : ∀ v ∈ V, (L.filter fun x => decide (x = v)).length = m) : L.length = V.length * m := fibers L V nd hs fun v hv => by
  rw [← hc v hv, List.count_eq_countP, List.countP_eq_length_filter]
  rfl
theorem named (hn : n ≤ 5) (hA : Oks n A) {V : List (List Im)} (nd : V.Nodup) (hV : ∀ y, y ∈ V ↔ y ∈ forms n A) : fac n = V.length * (own n A).length := by
  have e := fibers' (m := (own n A).length) (forms n A) V nd (fun x hx => (hV x).mpr hx) fun v hv => by
    obtain ⟨q, hq, rfl⟩ := mem_forms.mp ((hV v).mp hv)
    rw [← fib hq hn hA]
    unfold forms
    rw [List.filter_map, List.length_map]
    rfl
  rw [← ords_len hn, ← e]
  unfold forms
  rw [List.length_map]
end
end VI.K29
end
section
namespace VI.K29
open PySem PySem.Spec PyProof.Rows L2 VI VI.Std VI.Fl
open VI.Lay (itD ItOk LayOk rgI lT)
section
variable {h : Bs} {A B C E : List Im} {L M : List (List Im)} {X : List Int} {R : List (List Int)}
theorem fit_it (i : Im) : fits (.two (.seq .i) .i) (pIt i) = true := by
  show (fits (.seq .i) (.tuple (i.1.map .int)) && fits .i (.int i.2)) = true
  have : fits (.seq .i) (.tuple (i.1.map .int)) = true := by
    show (i.1.map PyData.int).all (fits .i) = true
    rw [List.all_map]
    exact List.all_eq_true.mpr fun _ _ => rfl
  rw [this]
  rfl
theorem can_its (A : List Im) : canSort (A.map pIt) = true := by
  unfold canSort
  have e1 : (A.map pIt).all (fits (.two (.seq .i) .i)) = true := by
    rw [List.all_map]
    exact List.all_eq_true.mpr fun i _ => fit_it i
  have e2 : (A.map pIt).all isT1 = true := by
    rw [List.all_map]
    exact List.all_eq_true.mpr fun i _ => rfl
  rw [e2, Bool.true_or, Bool.and_true]
  exact List.any_eq_true.mpr ⟨.two (.seq .i) .i, by simp [pats], e1⟩
theorem sort_seq {d : D} (hs : seqOf h d = some (A.map itD)) (h0 : A ≠ [] → sortedD false [d] h = .no) (h1 : A = [] → sortDS false [d] h = .ok (.lst []) h) (hl : A.length ≤ 1000) : sortDS false [d] h = .ok (dL (sI A)) h := by
  have sz : (1000 : Nat) ≤ sizeLine := by decide
  by_cases q : A = []
  · rw [h1 q]
    subst q
    have : sI ([] : List Im) = [] := List.length_eq_zero_iff.mp (by unfold sI; rw [srt_len]; rfl)
    rw [this]
    rfl
  · have c := can_its A
    have pe : mapO (py pyN h) (A.map itD) = some (A.map pIt) := by rw [show pyN = 8 + 4 from rfl]; exact py_itsO A
    unfold sortDS
    rw [h0 q]
    show sortS false [d] h = _
    simp only [sortS, hs, pe]
    rw [zip_E, c, adj_srt encI]
    show (if (true && true) = true then newL false ((srtK (A.map (eE itD pIt))).map (·.1)) h else .no) = _
    rw [if_pos (show (true && true) = true from rfl), srt_eq, map_fst, newL_f (by rw [List.length_map, srt_len]; omega)]
    rfl
theorem sort_its (hl : A.length ≤ 1000) : sortDS false [dL A] h = .ok (dL (sI A)) h := by
  refine sort_seq (d := dL A) rfl (fun q => ?_) (fun q => by subst q; rfl) hl
  match A, q with
  | i :: A, _ => rfl
theorem sort_itsT (hl : A.length ≤ 1000) : sortDS false [dT A] h = .ok (dL (sI A)) h := by
  refine sort_seq (d := dT A) rfl (fun q => rfl) (fun q => by subst q; rfl) hl
theorem eqv_T : PyData.eqv (pT A) (pT B) = decide (A = B) := by
  rw [show PyData.eqv (pT A) (pT B) = PyData.eqvAll (A.map pIt) (B.map pIt) by simp [pT, PyData.eqv]]
  exact eqvAll_its A B
theorem eqv_L : PyData.eqv (pL A) (pL B) = decide (A = B) := by
  rw [show PyData.eqv (pL A) (pL B) = PyData.eqvAll (A.map pIt) (B.map pIt) by simp [pL, PyData.eqv]]
  exact eqvAll_its A B
theorem py_T (A : List Im) : py 11 h (dT A) = some (pT A) := py_itsT (m := 6) A
theorem py_T' (A : List Im) : py pyN h (dT A) = some (pT A) := py_itsT (m := 7) A
theorem py_L' (A : List Im) : py pyN h (dL A) = some (pL A) := py_its A
theorem mapO_all {α : Type} {f : D → Option PyData} {dE : α → D} {pE : α → PyData} (e : ∀ x, f (dE x) = some (pE x)) : ∀ L : List α, mapO f (L.map dE) = some (L.map pE)
  | [] => rfl
  | x :: L => by rw [List.map_cons, mapO, e, mapO_all e L]; rfl
theorem can_T (A : List Im) (hA : A ≠ []) (L : List (List Im)) (hL : ∀ B ∈ L, B ≠ []) : canSort ((A :: L).map pT) = true := by
  unfold canSort
  have f1 : ∀ A : List Im, fits (.seq (.two (.seq .i) .i)) (pT A) = true := fun A => by
    show (A.map pIt).all (fits (.two (.seq .i) .i)) = true
    rw [List.all_map]
    exact List.all_eq_true.mpr fun i _ => fit_it i
  have e1 : ((A :: L).map pT).all (fits (.seq (.two (.seq .i) .i))) = true := by
    rw [List.all_map]
    exact List.all_eq_true.mpr fun B _ => f1 B
  have e2 : ((A :: L).map pT).all isT1 = true := by
    rw [List.all_map]
    refine List.all_eq_true.mpr fun B hB => ?_
    have : B ≠ [] := by
      rcases List.mem_cons.mp hB with z | z
      · rw [z]; exact hA
      · exact hL B z
    match B, this with
    | i :: B, _ => rfl
  rw [e2, Bool.true_or, Bool.and_true]
  exact List.any_eq_true.mpr ⟨.seq (.two (.seq .i) .i), by simp [pats], e1⟩
theorem find_least {α : Type} [DecidableEq α] {dE : α → D} {pE : α → PyData} (E : Enc dE pE) (hq : ∀ x y, PyData.eqv (pE x) (pE y) = decide (x = y)) {m : α} : ∀ L : List α, m ∈ L → ((L.map (eE dE pE)).find? fun z => PyData.eqv z.2 (pE m)) = some (eE dE pE m) ∧ (L.map (eE dE pE)).all (fun y => !PyData.eqv y.2 (pE m) || beqD y.1 (dE m)) = true
  | x :: L, hm => by
    constructor
    · rw [List.map_cons, List.find?_cons]
      show (match PyData.eqv (pE x) (pE m) with | true => some (eE dE pE x) | false => _) = _
      rw [hq]
      by_cases q : x = m
      · rw [decide_eq_true q, q]
      · rw [decide_eq_false q]
        rcases List.mem_cons.mp hm with z | z
        · exact absurd z.symm q
        · exact (find_least E hq L z).1
    · rw [List.all_map]
      refine List.all_eq_true.mpr fun y _ => ?_
      show (!PyData.eqv (pE y) (pE m) || beqD (dE y) (dE m)) = true
      rw [hq]
      by_cases q : y = m
      · rw [q, E.b]; simp
      · rw [decide_eq_false q]; rfl
theorem min_T (hL : L ≠ []) (h0 : ∀ B ∈ L, B ≠ []) : minDS [.lst (L.map dT)] h = .ok (dT (least L)) h := by
  match L, hL with
  | A :: L, _ =>
    have c := can_T A (h0 A List.mem_cons_self) L fun B hB => h0 B (List.mem_cons_of_mem _ hB)
    have pe : mapO (py pyN h) ((A :: L).map dT) = some ((A :: L).map pT) := mapO_all py_T' (A :: L)
    have f := find_least (m := mnE pT A L) encT (fun _ _ => eqv_T) (A :: L) (mn_mem A L)
    show (match minD [.lst ((A :: L).map dT)] h with | .no => minS [.lst ((A :: L).map dT)] h | r => r) = _
    rw [show minD [.lst ((A :: L).map dT)] h = .no from rfl]
    show minS [.lst ((A :: L).map dT)] h = _
    rw [List.map_cons] at pe c ⊢
    rw [List.map_cons] at pe
    simp only [minS, lstOf, pe, c, if_true]
    rw [show W.minD (pT A) (L.map pT) = pT (mnE pT A L) from mn_eq A L]
    have z : (dT A :: L.map dT).zip (pT A :: L.map pT) = (A :: L).map (eE dT pT) := zip_E (dE := dT) (pE := pT) (A :: L)
    rw [z, f.1]
    show (if _ then VI.R.ok (eE dT pT (mnE pT A L)).1 h else .no) = _
    rw [if_pos f.2]
    rfl
theorem can_L (L : List (List Im)) : canSort2 (L.map pL) = true := by
  unfold canSort2
  rw [List.all_map]
  refine List.all_eq_true.mpr fun B _ => ?_
  show (B.map pIt).all (fits (.two (.seq .i) .i)) = true
  rw [List.all_map]
  exact List.all_eq_true.mpr fun i _ => fit_it i
theorem not_L (A : List Im) (L : List (List Im)) : canSort ((A :: L).map pL) = false := by
  unfold canSort
  have : (pats.any fun p => ((A :: L).map pL).all (fits p)) = false := by
    rw [List.any_eq_false]
    intro p hp
    rw [List.map_cons, List.all_cons]
    have : fits p (pL A) = false := by
      simp only [pats, List.mem_cons, List.not_mem_nil, or_false] at hp
      rcases hp with rfl | rfl | rfl | rfl | rfl | rfl <;> rfl
    rw [this]
    simp
  rw [this]
  rfl
theorem min_L (hL : L ≠ []) : minNS [.lst (L.map dL)] h = .ok (dL (least L)) h := by
  match L, hL with
  | A :: L, _ =>
    have c := can_L (A :: L)
    have c0 := not_L A L
    have pe : mapO (py pyN h) ((A :: L).map dL) = some ((A :: L).map pL) := mapO_all py_L' (A :: L)
    have f := find_least (m := mnE pL A L) encL (fun _ _ => eqv_L) (A :: L) (mn_mem A L)
    rw [List.map_cons] at pe c c0 ⊢
    rw [List.map_cons] at pe
    have e1 : minDS [.lst (dL A :: L.map dL)] h = .no := by
      show (match minD [.lst (dL A :: L.map dL)] h with | .no => minS [.lst (dL A :: L.map dL)] h | r => r) = _
      rw [show minD [.lst (dL A :: L.map dL)] h = .no from rfl]
      show minS [.lst (dL A :: L.map dL)] h = _
      simp only [minS, lstOf, pe, c0]
      rfl
    unfold minNS
    rw [e1]
    show minN [.lst (dL A :: L.map dL)] h = _
    simp only [minN, lstOf, pe, c, if_true]
    rw [show W.minD (pL A) (L.map pL) = pL (mnE pL A L) from mn_eq A L]
    have z : (dL A :: L.map dL).zip (pL A :: L.map pL) = (A :: L).map (eE dL pL) := zip_E (dE := dL) (pE := pL) (A :: L)
    rw [z, f.1]
    show (if _ then VI.R.ok (eE dL pL (mnE pL A L)).1 h else .no) = _
    rw [if_pos f.2]
    show VI.R.ok (dL (mnE pL A L)) h = VI.R.ok (dL (mnE pT A L)) h
    rw [mn_TL]
noncomputable def sL (L : List (List Im)) : List (List Im) := srt dL pL L
theorem sort_L (hL : L ≠ []) (hl : L.length ≤ 1000) : sortNS false [.lst (L.map dL)] h = .ok (.lst ((sL L).map dL)) h := by
  have sz : (1000 : Nat) ≤ sizeLine := by decide
  match L, hL with
  | A :: L, _ =>
    have c := can_L (A :: L)
    have c0 := not_L A L
    have pe : mapO (py pyN h) ((A :: L).map dL) = some ((A :: L).map pL) := mapO_all py_L' (A :: L)
    have e1 : sortDS false [.lst ((A :: L).map dL)] h = .no := by
      unfold sortDS
      rw [show sortedD false [.lst ((A :: L).map dL)] h = .no from rfl]
      show sortS false [.lst ((A :: L).map dL)] h = _
      simp only [sortS, seqOf, lstOf, pe, c0, Bool.false_and]
      rfl
    unfold sortNS
    rw [e1]
    show sortN false [.lst ((A :: L).map dL)] h = _
    simp only [sortN, seqOf, lstOf, pe]
    rw [zip_E, c, adj_srt encL]
    show (if (true && true) = true then newL false ((srtK ((A :: L).map (eE dL pL))).map (·.1)) h else .no) = _
    rw [if_pos (show (true && true) = true from rfl), srt_eq, map_fst, newL_f (by rw [List.length_map, srt_len]; omega)]
    rfl
theorem eq_two {neg : Bool} : eqD neg (.tup [dT A, dT B]) (.tup [dT C, dT E]) h = .ok (.bl (if neg then !(decide (A = C) && decide (B = E)) else decide (A = C) && decide (B = E))) h := by
  have p : ∀ A B : List Im, py pyN h (.tup [dT A, dT B]) = some (.tuple [pT A, pT B]) := fun A B => by
    show (mapO (py 11 h) [dT A, dT B]).map PyData.tuple = _
    simp only [mapO, py_T]
    rfl
  have e : PyData.eqv (.tuple [pT A, pT B]) (.tuple [pT C, pT E]) = (decide (A = C) && decide (B = E)) := by
    simp only [PyData.eqv, PyData.eqvAll, eqv_T, Bool.and_true]
  simp only [eqD, p, e]
end
end VI.K29
end
section
namespace VI.K29
open PySem PySem.Spec PyProof.Rows L2 VI VI.Std VI.Fl
open VI.Lay (itD ItOk LayT LayOk oL IsL rgI lT fld0 fld1)
section
variable {K : PySem.W.Frag} {h : Bs} {n k : Nat} {its jts : List Im} {p X : List Int} {ρ : Ev} {d : D}
theorem lc2_t {α β : Type} {g g1 : SG} {it1 : SI} {own1 : List Nat} {tt1 : SB} {el : SV} {ρ : Ev} (E : α → D) (E1 : β → D) (F : α → β → D) (P : α → β → Bool) (m : α → List β) : ∀ (l : List α), (∀ a ∈ l, ∃ ρ1, g (E a) ρ h = .ok ρ1 h ∧ it1 ρ1 h = .ok ((m a).map E1, none) h ∧ ∀ b ∈ m a, ∃ ρ2, g1 (E1 b) (wipeE ρ1 own1) h = .ok ρ2 h ∧ tt1 ρ2 h = .ok (P a b) h ∧ (P a b = true → el ρ2 h = .ok (F a b) h)) →
    lcS2 g (fun _ h => .ok true h) it1 own1 g1 tt1 el ρ (l.map E) h = .ok (l.flatMap fun a => ((m a).filter (P a)).map (F a)) h
  | [], _ => rfl
  | d :: ds, H => by
    obtain ⟨ρ1, e1, e2, e3⟩ := H d List.mem_cons_self
    have ih := lc2_t E E1 F P m ds fun x hx => H x (List.mem_cons_of_mem _ hx)
    have e4 := lc_emb (g := g1) (tt := tt1) (el := el) (ρ := wipeE ρ1 own1) (h := h) E1 (P d) (F d) (m d) e3
    simp -implicitDefEqProofs only [List.map_cons, lcS2, e1, e2, lockO_none, e4, unlO_none, ih]
    simp
theorem stp_len (hn : n ≤ 5) : ∀ L : List (List Int), (stp n L).length ≤ 5 * L.length
  | [] => Nat.le_refl _
  | o :: L => by
    have := stp_len hn L
    have fl := List.length_filter_le (fun s => !decide (s ∈ o)) (rgI n)
    rw [Lay.rgI_len] at fl
    unfold stp at this ⊢
    rw [List.flatMap_cons, List.length_append, List.length_map, List.length_cons]
    omega
theorem itr_len (hn : n ≤ 5) : ∀ k, k ≤ 5 → (itr n k).length ≤ 3125 ∧ (itr n k).length ≤ 5 ^ k
  | 0, _ => by
    show [[]].length ≤ 3125 ∧ [[]].length ≤ 5 ^ 0
    decide
  | k + 1, hk => by
    have a := (itr_len hn k (by omega)).2
    have b := stp_len hn (itr n k)
    have c : 5 ^ (k + 1) ≤ 5 ^ 5 := Nat.pow_le_pow_right (by decide) hk
    have e : (itr n (k + 1)).length ≤ 5 ^ (k + 1) := by
      show (stp n (itr n k)).length ≤ _
      rw [Nat.pow_succ]
      omega
    exact ⟨Nat.le_trans e c, e⟩
abbrev evo (n : Nat) (L : List (List Int)) (x2 : Option D) : Ev := [some (.int n), some (lT L), x2, none, none]
theorem ords_loop (hn : n ≤ 5) : ∀ (l k : Nat) (x2 : Option D), k + l ≤ 5 → ∃ y2, loopS (sgName 2) (l1_orders_of (tbC ct K)) ((List.range' k l).map fun (i : Nat) => D.int i) (evo n (itr n k) x2) h = .nx (evo n (itr n (k + l)) y2) h
  | 0, k, x2, _ => ⟨x2, rfl⟩
  | l + 1, k, x2, hk => by
    have sz : (10000 : Nat) ≤ sizeLine := by decide
    obtain ⟨y2, ih⟩ := ords_loop hn l (k + 1) (some (.int k)) (by omega)
    have e1 : k + (l + 1) = k + 1 + l := by omega
    rw [e1]
    refine ⟨y2, ?_⟩
    rw [List.range'_succ, List.map_cons]
    refine (loop_step (ρ1 := evo n (itr n k) (some (.int k))) (h1 := h) rfl ?_).trans ih
    unfold l1_orders_of
    have len1 := (itr_len hn (k + 1) (by omega)).1
    have lc : (sLc2 false [3, 4] [4] (siSeq (sVar 1)) (sgName 3) (fun _ h => .ok true h) (siArg itRng1 (saCons (sVar 0) saNil)) (sgName 4) (sTru (sOp (inD true) (sVar 4) (sVar 3))) (sTup (saStar (sVar 3) (saCons (sVar 4) saNil)))) (evo n (itr n k) (some (.int k))) h = .ok (lT (itr n (k + 1))) h := by
      refine lc2_ok (h := h) (xs := (itr n k).map fun X => tI X) (ys := (itr n (k + 1)).map fun X => tI X) (seq_ok (d := lT (itr n k)) rfl rfl) ?_ (by rw [List.length_map]; omega)
      have e := lc2_t (h := h) (g := sgName 3) (g1 := sgName 4) (it1 := siArg itRng1 (saCons (sVar 0) saNil)) (own1 := [4]) (tt1 := sTru (sOp (inD true) (sVar 4) (sVar 3))) (el := sTup (saStar (sVar 3) (saCons (sVar 4) saNil))) (ρ := wipeE (evo n (itr n k) (some (.int k))) [3, 4]) (fun X => tI X) D.int (fun (X : List Int) (s : Int) => tI (X ++ [s])) (fun X s => !decide (s ∈ X)) (fun _ => rgI n) (itr n k) fun o ho => by
        have ol := ((mem_itr k o).mp ho).1
        refine ⟨[some (.int n), some (lT (itr n k)), some (.int k), some (tI o), none], rfl, arg_ok (h1 := h) (xs := [.int n]) rfl (Lay.rng_I (by omega)), fun s hs => ⟨[some (.int n), some (lT (itr n k)), some (.int k), some (tI o), some (.int s)], rfl, tru_ok (op_ok (h1 := h) (h2 := h) (x := .int s) (y := tI o) rfl rfl ((in_tI (neg := true)).trans rfl)), fun _ => ?_⟩⟩
        have st : (saStar (sVar 3) (saCons (sVar 4) saNil)) [some (.int n), some (lT (itr n k)), some (.int k), some (tI o), some (.int s)] h = .ok ((o ++ [s]).map .int) h := by
          rw [List.map_append]
          rfl
        exact tup_ok (xs := (o ++ [s]).map .int) st (by rw [List.length_map, List.length_append, List.length_singleton]; omega)
      rw [e]
      congr 1
      show _ = (stp n (itr n k)).map _
      unfold stp
      rw [List.map_flatMap]
      congr 1
      funext o
      rw [List.map_map]
      rfl
    exact (cons_nx (asg_ok lc rfl)).trans rfl
theorem orders_k (hn : n ≤ 5) : f_orders_of (tbC ct K) [.int n] h = .ok (lT (ords n)) h := by
  obtain ⟨y2, e⟩ := ords_loop (K := K) (h := inB h) hn n 0 none (by omega)
  rw [Nat.zero_add] at e
  refine run_rt rfl ?_ (noDs_ch _)
  show s_orders_of (tbC ct K) [some (.int n), none, none, none, none] (inB h) = _
  unfold s_orders_of
  refine (cons_nx (ρ1 := evo n [[]] none) (h1 := inB h) (asg_ok (lst_ok (xs := [tI []]) (cons_ok (tup_ok (xs := []) rfl (Nat.zero_le _)) rfl) (by show 1 ≤ sizeLine; decide)) rfl)).trans ?_
  exact (cons_nx (for_ok (xs := (List.range' 0 n).map fun (i : Nat) => D.int i) (arg_ok (h1 := inB h) (xs := [.int n]) rfl ((rng_ok (by omega)).trans (by rw [List.range_eq_range']))) e)).trans (ret_ok rfl)
abbrev evm (n : Nat) (L : List (List Int)) (x2 x3 x4 : Option D) : Ev := [some (.int n), some (lT L), x2, x3, x4, none]
theorem late_loop (hn : n ≤ 5) {L : List (List Int)} {x2 : Option D} : ∀ (l M : List (List Int)) (x4 : Option D), (∀ o ∈ l, o.length ≤ 10) → 5 * l.length + M.length ≤ 9000 → ∃ y4, loopS (sgName 4) (l1__law_orders (tbC ct K)) (l.map fun X => tI X) (evm n L x2 (some (lT M)) x4) h = .nx (evm n L x2 (some (lT (M ++ stp n l))) y4) h
  | [], M, x4, _, _ => ⟨x4, by show F.nx _ h = _; rw [show stp n [] = [] from rfl, List.append_nil]⟩
  | o :: l, M, x4, ho, hM => by
    have sz : (10000 : Nat) ≤ sizeLine := by decide
    rw [List.length_cons] at hM
    have ol := ho o List.mem_cons_self
    have fl := List.length_filter_le (fun s => !decide (s ∈ o)) (rgI n)
    rw [Lay.rgI_len] at fl
    obtain ⟨N, eN⟩ : ∃ N : List (List Int), N = ((rgI n).filter fun s => !decide (s ∈ o)).map fun s => o ++ [s] := ⟨_, rfl⟩
    have Nl : N.length ≤ 5 := by rw [eN, List.length_map]; omega
    obtain ⟨y4, ih⟩ := late_loop hn (L := L) (x2 := x2) l (M ++ N) (some (tI o)) (fun o' q => ho o' (List.mem_cons_of_mem _ q)) (by rw [List.length_append]; omega)
    refine ⟨y4, (loop_step (ρ1 := evm n L x2 (some (lT M)) (some (tI o))) (h1 := h) rfl ?_).trans (ih.trans (by rw [eN, List.append_assoc]; rfl))⟩
    unfold l1__law_orders
    have lc : (sLc false [5] (siArg itRng1 (saCons (sVar 0) saNil)) (sgName 5) (sTru (sOp (inD true) (sVar 5) (sVar 4))) (sOp (addD false) (sVar 4) (sTup (saCons (sVar 5) saNil)))) (evm n L x2 (some (lT M)) (some (tI o))) h = .ok (lT N) h := by
      refine lc_ok (h := h) (xs := (rgI n).map .int) (ys := N.map fun X => tI X) (arg_ok (h1 := h) (xs := [.int n]) rfl (Lay.rng_I (by omega))) ?_ (by rw [List.length_map]; omega)
      rw [eN, List.map_map]
      refine lc_emb D.int (fun s => !decide (s ∈ o)) _ (rgI n) fun s hs => ⟨[some (.int n), some (lT L), x2, some (lT M), some (tI o), some (.int s)], rfl, tru_ok (op_ok (h1 := h) (h2 := h) (x := .int s) (y := tI o) rfl rfl ((in_tI (neg := true)).trans rfl)), fun _ => ?_⟩
      refine op_ok (h1 := h) (h2 := h) (x := tI o) (y := .tup [.int s]) rfl (tup_ok (xs := [.int s]) rfl (by show 1 ≤ sizeLine; omega)) ?_
      show newT (o.map .int ++ [.int s]) h = _
      rw [newT_f (by rw [List.length_append, List.length_map, List.length_singleton]; omega)]
      show VI.R.ok (D.tup _) h = VI.R.ok (D.tup ((o ++ [s]).map D.int)) h
      rw [List.map_append]
      rfl
    refine (cons_nx (asg_ok (d := lT (M ++ N)) (op_ok (h1 := h) (h2 := h) (x := lT M) (y := lT N) rfl lc ?_) rfl)).trans rfl
    show newL false (M.map _ ++ N.map _) h = _
    rw [← List.map_append, newL_f (by rw [List.length_map, List.length_append]; omega)]
theorem lords_loop (hn : n ≤ 5) : ∀ (l k : Nat) (x2 x3 x4 : Option D), k + l ≤ 5 → ∃ y2 y3 y4, loopS (sgName 2) (l2__law_orders (tbC ct K)) ((List.range' k l).map fun (i : Nat) => D.int i) (evm n (itr n k) x2 x3 x4) h = .nx (evm n (itr n (k + l)) y2 y3 y4) h
  | 0, k, x2, x3, x4, _ => ⟨x2, x3, x4, rfl⟩
  | l + 1, k, x2, x3, x4, hk => by
    have len1 := (itr_len hn k (by omega)).2
    have p5 : 5 ^ k ≤ 5 ^ 4 := Nat.pow_le_pow_right (by decide) (by omega)
    obtain ⟨y4, e4⟩ := late_loop (K := K) (h := h) hn (L := itr n k) (x2 := some (.int k)) (itr n k) [] x4 (fun o ho => by have := ((mem_itr k o).mp ho).1; omega) (by rw [List.length_nil]; omega)
    rw [List.nil_append] at e4
    obtain ⟨z2, z3, z4, ih⟩ := lords_loop hn l (k + 1) (some (.int k)) (some (lT (itr n (k + 1)))) y4 (by omega)
    have e1 : k + (l + 1) = k + 1 + l := by omega
    rw [e1]
    refine ⟨z2, z3, z4, ?_⟩
    rw [List.range'_succ, List.map_cons]
    refine (loop_step (ρ1 := evm n (itr n k) (some (.int k)) x3 x4) (h1 := h) rfl ?_).trans ih
    unfold l2__law_orders
    refine (cons_nx (ρ1 := evm n (itr n k) (some (.int k)) (some (lT [])) x4) (h1 := h) (asg_ok (lst_ok (xs := []) rfl (Nat.zero_le _)) rfl)).trans ?_
    refine (cons_nx (for_ok (xs := (itr n k).map fun X => tI X) (h1 := h) (seq_ok (d := lT (itr n k)) rfl rfl) e4)).trans ?_
    exact (cons_nx (asg_ok (d := lT (stp n (itr n k))) rfl rfl)).trans rfl
theorem lorders_k (hn : n ≤ 5) : f__law_orders (tbC ct K) [.int n] h = .ok (lT (ords n)) h := by
  obtain ⟨y2, y3, y4, e⟩ := lords_loop (K := K) (h := inB h) hn n 0 none none none (by omega)
  rw [Nat.zero_add] at e
  refine run_rt rfl ?_ (noDs_ch _)
  show s__law_orders (tbC ct K) [some (.int n), none, none, none, none, none] (inB h) = _
  unfold s__law_orders
  refine (cons_nx (ρ1 := evm n [[]] none none none) (h1 := inB h) (asg_ok (lst_ok (xs := [tI []]) (cons_ok (tup_ok (xs := []) rfl (Nat.zero_le _)) rfl) (by show 1 ≤ sizeLine; decide)) rfl)).trans ?_
  exact (cons_nx (for_ok (xs := (List.range' 0 n).map fun (i : Nat) => D.int i) (arg_ok (h1 := inB h) (xs := [.int n]) rfl ((rng_ok (by omega)).trans (by rw [List.range_eq_range']))) e)).trans (ret_ok rfl)
theorem ren_lc {a c x y z : Nat} {it : SI} (H : LayOk n its) (hp : OrdN n p) (e1 : it ρ h = .ok (its.map itD, none) h) (ea : ρ[a]? = some (some (tI p))) (xl : x < ρ.length) (yl : y < ρ.length) (zl : z < ρ.length) (xy : x ≠ y) (xz : x ≠ z) (yz : y ≠ z) (xa : x ≠ a) (ya : y ≠ a) (za : z ≠ a) : (sLc false [x, y] it (sgTup 2 (sgCons (sgName x) (sgCons (sgName y) sgNil))) (fun _ h => .ok true h) (sTup (saCons (sCall tupleD (saCons (sCall (sortDS false) (saCons (sLc false [z] (siSeq (sVar x)) (sgName z) (fun _ h => .ok true h) (sOp ixD (sVar a) (sVar z))) saNil)) saNil)) (saCons (sVar y) saNil)))) ρ h = .ok (.lst ((rnL p its).map itD)) h := by
  have sz : (1000 : Nat) ≤ sizeLine := by decide
  have few := H.few
  have h8 := H.hi
  refine lc_ok (h := h) (xs := its.map itD) (ys := (rnL p its).map itD) e1 ?_ (by rw [List.length_map, List.length_map]; omega)
  unfold rnL
  rw [itmap]
  refine lc_emb1 itD (fun i => itD (rowI p i)) its fun i hi => ?_
  have ok := H.ok i hi
  have wl : (wipeE ρ [x, y]).length = ρ.length := by simp [wipeE]
  have g1 : (((wipeE ρ [x, y]).set x (some (tI i.1))).set y (some (.int i.2)))[x]? = some (some (tI i.1)) := by rw [List.getElem?_set_ne xy.symm, List.getElem?_set_self (by rw [wl]; exact xl)]
  have g2 : (((wipeE ρ [x, y]).set x (some (tI i.1))).set y (some (.int i.2)))[y]? = some (some (.int i.2)) := List.getElem?_set_self (by rw [List.length_set, wl]; exact yl)
  have g3 : (((wipeE ρ [x, y]).set x (some (tI i.1))).set y (some (.int i.2)))[a]? = some (some (tI p)) := by
    rw [List.getElem?_set_ne ya, List.getElem?_set_ne xa]
    show ((ρ.set y none).set x none)[a]? = _
    rw [List.getElem?_set_ne xa, List.getElem?_set_ne ya]
    exact ea
  obtain ⟨σ, eσ⟩ : ∃ σ, σ = ((wipeE ρ [x, y]).set x (some (tI i.1))).set y (some (.int i.2)) := ⟨_, rfl⟩
  have sl : σ.length = ρ.length := by rw [eσ, List.length_set, List.length_set, wl]
  rw [← eσ] at g1 g2 g3
  refine ⟨σ, by rw [eσ]; rfl, tup_ok (xs := [tI (rn p i.1), .int i.2]) (cons_ok (rn_ok ok.set h8 (seq_ok (d := tI i.1) (var_ok g1) rfl) fun s hs => ⟨σ.set z (some (.int s)), ?_, ?_⟩) (cons_ok (var_ok g2) rfl)) two_le⟩
  · show VI.R.ok ((σ.set z none).set z (some (.int s))) h = _
    rw [List.set_set]
  · exact op_ok (h1 := h) (h2 := h) (x := tI p) (y := .int s) (var_ok (by rw [List.getElem?_set_ne za]; exact g3)) (var_ok (List.getElem?_set_self (by rw [sl]; exact zl))) (ix_p hp (ok.set.lo s hs).1 (ok.set.lo s hs).2)
theorem noDs_I (A : List Im) : noDs (A.map itD) = true := Lay.noDs_its A
theorem form_by_k (H : LayOk n its) (hp : OrdN n p) (hd : IsL d its) : f_form_by (tbC ct K) [d, tI p] h = .ok (dT (fm p its)) h := by
  have sz : (1000 : Nat) ≤ sizeLine := by decide
  have few := H.few
  refine run_rt rfl ?_ (noDs_I _)
  show s_form_by (tbC ct K) [some d, some (tI p), none, none, none, none] (inB h) = _
  unfold s_form_by
  have it : (siSeq (sVar 0)) [some d, some (tI p), none, none, none, none] (inB h) = .ok (its.map itD, none) (inB h) := seq_ok (d := d) rfl (by rcases hd with rfl | rfl <;> rfl)
  refine (cons_nx (ρ1 := [some d, some (tI p), some (dL (rnL p its)), none, none, none]) (h1 := inB h) (asg_ok (ren_lc (a := 1) (c := 0) (x := 3) (y := 4) (z := 5) H hp it rfl (by show 3 < 6; decide) (by show 4 < 6; decide) (by show 5 < 6; decide) (by decide) (by decide) (by decide) (by decide) (by decide) (by decide)) rfl)).trans ?_
  refine ret_ok (call_ok (h1 := inB h) (xs := [dL (fm p its)]) (cons_ok (call_ok (h1 := inB h) (xs := [dL (rnL p its)]) rfl (sort_its (by rw [List.length_map]; omega))) rfl) ?_)
  exact tuple_lst (by rw [List.length_map, fm_len]; omega)
theorem lren_k (H : LayOk n its) (hp : OrdN n p) (hd : IsL d its) : f__law_renamed (tbC ct K) [d, tI p] h = .ok (dL (fm p its)) h := by
  have few := H.few
  refine run_rt rfl ?_ (noDs_I _)
  show s__law_renamed (tbC ct K) [some d, some (tI p), none, none, none] (inB h) = _
  unfold s__law_renamed
  have it : (siSeq (sVar 0)) [some d, some (tI p), none, none, none] (inB h) = .ok (its.map itD, none) (inB h) := seq_ok (d := d) rfl (by rcases hd with rfl | rfl <;> rfl)
  exact ret_ok (call_ok (h1 := inB h) (xs := [dL (rnL p its)]) (cons_ok (ren_lc (a := 1) (c := 0) (x := 2) (y := 3) (z := 4) H hp it rfl (by show 2 < 5; decide) (by show 3 < 5; decide) (by show 4 < 5; decide) (by decide) (by decide) (by decide) (by decide) (by decide) (by decide)) rfl) (sort_its (by rw [List.length_map]; omega)))
end
end VI.K29
end
section
namespace VI.K29
open PySem PySem.Spec PyProof.Rows L2 VI VI.Std VI.Fl
open VI.Lay (itD ItOk LayT LayOk oL IsL rgI lT fld0 fld1 lenTI all_emb)
section
variable {K : PySem.W.Frag} {h : Bs} {n m k : Nat} {its jts : List Im} {p X Y : List Int} {ρ : Ev} {d : D} {A B C E : List Im}
theorem run_nx {np nn : Nat} {s : SS} {ds : List D} {ρ : Ev} (hl : ds.length = np) (hs : s (slots nn ds) (inB h) = .nx ρ (inB h)) : runFn np nn s ds h = .ok .non h := by
  unfold runFn
  rw [if_pos hl, hs]
  simp only [finF, outB_inB]
theorem oks (H : LayOk n its) : Oks n its := fun i hi => (H.ok i hi).set
theorem chk_lay : f_check_layout (tbC ct K) [oL n its] h = .ok .non h := by
  refine run_nx (ρ := [some (oL n its)]) rfl ?_
  show s_check_layout (tbC ct K) [some (oL n its)] (inB h) = _
  unfold s_check_layout
  exact (cons_nx (if_f (not_ok (a := true) (un_ok (x := oL n its) rfl rfl)))).trans rfl
theorem chk_few (hn : n ≤ 5) : f_check_few (tbC ct K) [oL n its] h = .ok .non h := by
  refine run_nx (ρ := [some (oL n its)]) rfl ?_
  show s_check_few (tbC ct K) [some (oL n its)] (inB h) = _
  unfold s_check_few
  refine (cons_nx (expr_ok (call_ok (h1 := inB h) (xs := [oL n its]) rfl chk_lay))).trans ?_
  refine (cons_nx (if_f ((op_ok (h1 := inB h) (h2 := inB h) (x := .int n) (y := .int 6) (un_ok (x := oL n its) rfl (fld0 layT)) rfl rfl).trans ?_))).trans rfl
  show VI.R.ok (D.bl (decide ((6 : Int) < (n : Int)))) _ = _
  rw [decide_eq_false (by omega)]
theorem chk_two (hn : n ≤ 5) (hm : m ≤ 5) : f_check_two (tbC ct K) [oL n its, oL m jts] h = .ok .non h := by
  refine run_nx (ρ := [some (oL n its), some (oL m jts)]) rfl ?_
  show s_check_two (tbC ct K) [some (oL n its), some (oL m jts)] (inB h) = _
  unfold s_check_two
  exact (cons_nx (expr_ok (call_ok (h1 := inB h) (xs := [oL n its]) rfl (chk_few hn)))).trans ((cons_nx (expr_ok (call_ok (h1 := inB h) (xs := [oL m jts]) rfl (chk_few hm)))).trans rfl)
theorem forms_lc {g : SG} {el : SV} {own : List Nat} {it : SI} (hn : n ≤ 5) (e1 : it ρ h = .ok ((ords n).map fun X => tI X, none) h) {F : List Im → D} (H : ∀ p ∈ ords n, ∃ ρ1, g (tI p) (wipeE ρ own) h = .ok ρ1 h ∧ el ρ1 h = .ok (F (fm p its)) h) : (sLc false own it g (fun _ h => .ok true h) el) ρ h = .ok (.lst ((forms n its).map F)) h := by
  have sz : (10000 : Nat) ≤ sizeLine := by decide
  have ln := (itr_len hn n hn).1
  refine lc_ok (h := h) (xs := (ords n).map fun X => tI X) (ys := (forms n its).map F) e1 ?_ (by unfold forms ords; rw [List.length_map, List.length_map]; omega)
  unfold forms
  rw [List.map_map]
  exact lc_emb1 (fun X => tI X) _ (ords n) H
theorem forms_ne : forms n its ≠ [] := fun z => ords_ne (List.map_eq_nil_iff.mp z)
theorem forms_in (H : LayOk n its) : ∀ B ∈ forms n its, B ≠ [] := fun B hB z => by
  obtain ⟨p, _, rfl⟩ := mem_forms.mp hB
  have := fm_len (p := p) (A := its)
  rw [z] at this
  have := H.ne
  rw [List.length_nil] at *
  omega
theorem smallest_k (H : LayOk n its) (hn : n ≤ 5) : f_smallest (tbC ct K) [oL n its] h = .ok (dT (sm n its)) h := by
  have L := layT (K := K)
  refine run_rt rfl ?_ (noDs_I _)
  show s_smallest (tbC ct K) [some (oL n its), none] (inB h) = _
  unfold s_smallest
  have lc := forms_lc (h := inB h) (ρ := [some (oL n its), none]) (own := [1]) (g := sgName 1) (it := siSeq (sCall (f_orders_of (tbC ct K)) (saCons (sUn (fldD (tbC ct K) 0) (sVar 0)) saNil))) (el := sCall (f_form_by (tbC ct K)) (saCons (sUn (fldD (tbC ct K) 1) (sVar 0)) (saCons (sVar 1) saNil))) (its := its) (F := dT) hn (seq_ok (d := lT (ords n)) (call_ok (h1 := inB h) (xs := [.int n]) (cons_ok (un_ok (x := oL n its) rfl (fld0 L)) rfl) (orders_k hn)) rfl) fun p hp => ⟨[some (oL n its), some (tI p)], rfl, call_ok (h1 := inB h) (xs := [.tup (its.map itD), tI p]) (cons_ok (un_ok (x := oL n its) rfl (fld1 L)) (cons_ok rfl rfl)) (form_by_k H (mem_ords.mp hp) (.inr rfl))⟩
  exact ret_ok (call_ok (h1 := inB h) (xs := [.lst ((forms n its).map dT)]) (cons_ok lc rfl) (min_T forms_ne (forms_in H)))
theorem form_k (H : LayOk n its) (hn : n ≤ 5) : f_form (tbC ct K) [oL n its] h = .ok (dT (sm n its)) h := by
  refine run_rt rfl ?_ (noDs_I _)
  show s_form (tbC ct K) [some (oL n its)] (inB h) = _
  unfold s_form
  exact (cons_nx (expr_ok (call_ok (h1 := inB h) (xs := [oL n its]) rfl (chk_few hn)))).trans (ret_ok (call_ok (h1 := inB h) (xs := [oL n its]) rfl (smallest_k H hn)))
theorem sI_len : (sI A).length = A.length := srt_len
theorem goal_k {s : SV} (H : LayOk n its) (e : s ρ h = .ok (.tup (its.map itD)) h) : (sCall tupleD (saCons (sCall (sortDS false) (saCons s saNil)) saNil)) ρ h = .ok (dT (sI its)) h := by
  have sz : (1000 : Nat) ≤ sizeLine := by decide
  have few := H.few
  exact call_ok (h1 := h) (xs := [dL (sI its)]) (cons_ok (call_ok (h1 := h) (xs := [dT its]) (cons_ok e rfl) (sort_itsT (by omega))) rfl) (tuple_lst (by rw [List.length_map, sI_len]; omega))
theorem own_k (H : LayOk n its) (hn : n ≤ 5) : f_own_renamings (tbC ct K) [oL n its] h = .ok (lT (own n its)) h := by
  have sz : (10000 : Nat) ≤ sizeLine := by decide
  have L := layT (K := K)
  have ln := (itr_len hn n hn).1
  have fl := List.length_filter_le (fun p : List Int => decide (fm p its = sI its)) (ords n)
  refine run_rt rfl ?_ (noDs_ch _)
  show s_own_renamings (tbC ct K) [some (oL n its), none, none] (inB h) = _
  unfold s_own_renamings
  refine (cons_nx (expr_ok (call_ok (h1 := inB h) (xs := [oL n its]) rfl (chk_few hn)))).trans ?_
  refine (cons_nx (ρ1 := [some (oL n its), some (dT (sI its)), none]) (h1 := inB h) (asg_ok (goal_k H (un_ok (x := oL n its) rfl (fld1 L))) rfl)).trans ?_
  refine ret_ok (lc_ok (h := inB h) (xs := (ords n).map fun X => tI X) (ys := (own n its).map fun X => tI X) (seq_ok (d := lT (ords n)) (call_ok (h1 := inB h) (xs := [.int n]) (cons_ok (un_ok (x := oL n its) rfl (fld0 L)) rfl) (orders_k hn)) rfl) ?_ (by rw [List.length_map]; unfold own ords at *; omega))
  unfold own
  refine lc_emb (fun X => tI X) (fun p => decide (fm p its = sI its)) (fun X => tI X) (ords n) fun p hp => ⟨[some (oL n its), some (dT (sI its)), some (tI p)], rfl, tru_ok (op_ok (h1 := inB h) (h2 := inB h) (x := dT (fm p its)) (y := dT (sI its)) (call_ok (h1 := inB h) (xs := [.tup (its.map itD), tI p]) (cons_ok (un_ok (x := oL n its) rfl (fld1 L)) (cons_ok rfl rfl)) (form_by_k H (mem_ords.mp hp) (.inr rfl))) rfl ((eq_itsT (neg := false)).trans rfl)), fun _ => rfl⟩
theorem facB1 : s_factorial (tbC ct K) [some (.int 1), none, none] h = .rt (.int 1) h := by kernel_rfl
theorem fac1 : f_factorial (tbC ct K) [.int 1] h = .ok (.int 1) h := run_rt rfl facB1 rfl
theorem facB2 : s_factorial (tbC ct K) [some (.int 2), none, none] h = .rt (.int 2) h := by kernel_rfl
theorem fac2 : f_factorial (tbC ct K) [.int 2] h = .ok (.int 2) h := run_rt rfl facB2 rfl
theorem facB3 : s_factorial (tbC ct K) [some (.int 3), none, none] h = .rt (.int 6) h := by kernel_rfl
theorem fac3 : f_factorial (tbC ct K) [.int 3] h = .ok (.int 6) h := run_rt rfl facB3 rfl
theorem facB4 : s_factorial (tbC ct K) [some (.int 4), none, none] h = .rt (.int 24) h := by kernel_rfl
theorem fac4 : f_factorial (tbC ct K) [.int 4] h = .ok (.int 24) h := run_rt rfl facB4 rfl
theorem facB5 : s_factorial (tbC ct K) [some (.int 5), none, none] h = .rt (.int 120) h := by kernel_rfl
theorem fac5 : f_factorial (tbC ct K) [.int 5] h = .ok (.int 120) h := run_rt rfl facB5 rfl
theorem fac_k (hn : 1 ≤ n) (h5 : n ≤ 5) : f_factorial (tbC ct K) [.int n] h = .ok (.int (fac n : Nat)) h := by
  have : n = 1 ∨ n = 2 ∨ n = 3 ∨ n = 4 ∨ n = 5 := by omega
  rcases this with rfl | rfl | rfl | rfl | rfl
  · exact fac1
  · exact fac2
  · exact fac3
  · exact fac4
  · exact fac5
theorem own_ne (H : LayOk n its) : 0 < (own n its).length := List.length_pos_iff.mpr fun z => by
  have : rgI n ∈ own n its := mem_own.mpr ⟨id_ord, .id (oks H)⟩
  rw [z] at this
  cases this
theorem count_k (H : LayOk n its) (hn : n ≤ 5) {v : Nat} (e : fac n = v * (own n its).length) : f_count_named (tbC ct K) [oL n its] h = .ok (.int v) h := by
  have L := layT (K := K)
  have o := own_ne H
  have fl := List.length_filter_le (fun p : List Int => decide (fm p its = sI its)) (ords n)
  have ln := (itr_len hn n hn).1
  have ol : (own n its).length ≤ 3125 := by unfold own ords at *; omega
  refine run_rt rfl ?_ rfl
  show s_count_named (tbC ct K) [some (oL n its)] (inB h) = _
  unfold s_count_named
  refine ret_ok ((op_ok (h1 := inB h) (h2 := inB h) (x := .int (fac n : Nat)) (y := .int (own n its).length) (call_ok (h1 := inB h) (xs := [.int n]) (cons_ok (un_ok (x := oL n its) rfl (fld0 L)) rfl) (fac_k H.lo hn)) (call_ok (h1 := inB h) (xs := [lT (own n its)]) (cons_ok (call_ok (h1 := inB h) (xs := [oL n its]) rfl (own_k H hn)) rfl) (VI.Q.IsR.len (.inl rfl))) (fdivI ⟨by omega, by have := log2_lt (i := ((own n its).length : Int)) (k := 20) (by omega) (by omega); omega⟩)).trans ?_)
  rw [e]
  push_cast
  rw [Int.mul_ediv_cancel _ (by omega)]
abbrev rO (X : List Int) : D := .obj 1 [2] [tI X]
abbrev fO (A B : List Im) : D := .obj 2 [3, 4] [dT A, dT B]
theorem noR_tI' (X : List Int) : noR (tI X) = true := VI.Mk.noR_tI X
theorem make_r (e : ∀ g, tupleD [d] g = .ok (tI X) g) : makeD 1 true (f_Renaming_init (tbC ct K)) [d] h = .ok (rO X) h := by
  refine Mk.make_end (Mk.init_end (by rfl) (ρ := [some (.ref h.bs.length), some d]) ?_) (fun d hd => by
    rw [List.mem_singleton.mp hd]
    exact VI.Dk.fz_n noD_tI)
  show s_Renaming_init (tbC ct K) [some (.ref h.bs.length), some d] _ = _
  unfold s_Renaming_init
  refine (cons_nx (ρ1 := [some (.ref h.bs.length), some d]) (h1 := ⟨(h.bs.length + 1) :: h.bs.length :: h.fbs, h.bs ++ [.obj 1 [2] [tI X]]⟩) ?_).trans rfl
  unfold ssFld
  rw [call_ok (h1 := ⟨(h.bs.length + 1) :: h.bs.length :: h.fbs, h.bs ++ [.obj 1 [] []]⟩) (xs := [d]) rfl (e _)]
  show (setF (tbC ct K) 2 (.ref h.bs.length) (tI X) _).toF _ _ = _
  rw [Mk.set_fld (by decide) rfl (noR_tI' X)]
  rfl
theorem noR_its (A : List Im) : noR (dT A) = true := Lay.noR_its A
theorem make_f : makeD 2 true (f_Forms_init (tbC ct K)) [dT A, dT B] h = .ok (fO A B) h := by
  refine Mk.make_end (Mk.init_end (by rfl) (ρ := [some (.ref h.bs.length), some (dT A), some (dT B)]) ?_) (fun d hd => by
    simp only [List.mem_cons, List.not_mem_nil, or_false] at hd
    rcases hd with rfl | rfl
    · exact VI.Dk.fz_n (noDs_I _)
    · exact VI.Dk.fz_n (noDs_I _))
  show s_Forms_init (tbC ct K) [some (.ref h.bs.length), some (dT A), some (dT B)] _ = _
  unfold s_Forms_init
  refine (cons_nx (ρ1 := [some (.ref h.bs.length), some (dT A), some (dT B)]) (h1 := ⟨(h.bs.length + 1) :: h.bs.length :: h.fbs, h.bs ++ [.obj 2 [3] [dT A]]⟩) ?_).trans ((cons_nx (ρ1 := [some (.ref h.bs.length), some (dT A), some (dT B)]) (h1 := ⟨(h.bs.length + 1) :: h.bs.length :: h.fbs, h.bs ++ [.obj 2 [3, 4] [dT A, dT B]]⟩) ?_).trans rfl)
  · unfold ssFld
    rw [call_ok (h1 := ⟨(h.bs.length + 1) :: h.bs.length :: h.fbs, h.bs ++ [.obj 2 [] []]⟩) (xs := [dT A]) rfl (show tupleD [dT A] _ = .ok (dT A) _ from rfl)]
    show (setF (tbC ct K) 3 (.ref h.bs.length) (dT A) _).toF _ _ = _
    rw [Mk.set_fld (by decide) rfl (noR_its A)]
    rfl
  · unfold ssFld
    rw [call_ok (h1 := ⟨(h.bs.length + 1) :: h.bs.length :: h.fbs, h.bs ++ [.obj 2 [3] [dT A]]⟩) (xs := [dT B]) rfl (show tupleD [dT B] _ = .ok (dT B) _ from rfl)]
    show (setF (tbC ct K) 4 (.ref h.bs.length) (dT B) _).toF _ _ = _
    rw [Mk.set_fld (by show 1 < 1000; decide) rfl (noR_its B)]
    rfl
theorem req_k : f_Renaming___eq__ (tbC ct K) [rO X, rO Y] h = .ok (.bl (decide (X = Y))) h := by
  refine run_rt rfl ?_ rfl
  show s_Renaming___eq__ (tbC ct K) [some (rO X), some (rO Y)] (inB h) = _
  unfold s_Renaming___eq__
  refine ret_ok ((and_ok (a := true) (b := decide (X = Y)) (un_ok (x := rO Y) rfl rfl) fun _ => op_ok (h1 := inB h) (h2 := inB h) (x := tI X) (y := tI Y) (un_ok (x := rO X) rfl rfl) (un_ok (x := rO Y) rfl rfl) ((eq_tI (neg := false)).trans rfl)).trans ?_)
  rw [Bool.true_and]
theorem feq_k : f_Forms___eq__ (tbC ct K) [fO A B, fO C E] h = .ok (.bl (decide (A = C) && decide (B = E))) h := by
  refine run_rt rfl ?_ rfl
  show s_Forms___eq__ (tbC ct K) [some (fO A B), some (fO C E)] (inB h) = _
  unfold s_Forms___eq__
  refine ret_ok ((and_ok (a := true) (b := decide (A = C) && decide (B = E)) (un_ok (x := fO C E) rfl rfl) fun _ => op_ok (h1 := inB h) (h2 := inB h) (x := .tup [dT A, dT B]) (y := .tup [dT C, dT E]) (tup_ok (xs := [dT A, dT B]) (cons_ok (un_ok (x := fO A B) rfl rfl) (cons_ok (un_ok (x := fO A B) rfl rfl) rfl)) two_le) (tup_ok (xs := [dT C, dT E]) (cons_ok (un_ok (x := fO C E) rfl rfl) (cons_ok (un_ok (x := fO C E) rfl rfl) rfl)) two_le) ((eq_two (neg := false)).trans rfl)).trans ?_)
  rw [Bool.true_and]
theorem rf_k : f_Renaming___eq__ (tbC ct K) [rO X, fO C E] h = .ok (.bl false) h := by
  refine run_rt rfl ?_ rfl
  show s_Renaming___eq__ (tbC ct K) [some (rO X), some (fO C E)] (inB h) = _
  unfold s_Renaming___eq__
  exact ret_ok (and_ok (a := false) (b := false) (un_ok (x := fO C E) rfl rfl) fun z => nomatch z)
theorem fr_k : f_Forms___eq__ (tbC ct K) [fO A B, rO Y] h = .ok (.bl false) h := by
  refine run_rt rfl ?_ rfl
  show s_Forms___eq__ (tbC ct K) [some (fO A B), some (rO Y)] (inB h) = _
  unfold s_Forms___eq__
  exact ret_ok (and_ok (a := false) (b := false) (un_ok (x := rO Y) rfl rfl) fun z => nomatch z)
abbrev eqs (T : Tb) : MTab := [(0, (f_Layout___eq__ T)), (1, (f_Renaming___eq__ T)), (2, (f_Forms___eq__ T))]
theorem eqW_rr : eqW (tbC ct K) (eqs (tbC ct K)) (rO X) (rO Y) h = .ok (.bl (decide (X = Y))) h := by
  have e1 : insOf h (rO X) = some (1, [2], [tI X]) := rfl
  have e2 : insOf h (rO Y) = some (1, [2], [tI Y]) := rfl
  have e3 : List.lookup 1 (eqs (tbC ct K)) = some (f_Renaming___eq__ (tbC ct K)) := rfl
  show eqO (eqs (tbC ct K)) (rO X) (rO Y) h = _
  simp -implicitDefEqProofs only [eqO, e1, e2, e3, req_k]
  rfl
theorem eqW_ff : eqW (tbC ct K) (eqs (tbC ct K)) (fO A B) (fO C E) h = .ok (.bl (decide (A = C) && decide (B = E))) h := by
  have e1 : insOf h (fO A B) = some (2, [3, 4], [dT A, dT B]) := rfl
  have e2 : insOf h (fO C E) = some (2, [3, 4], [dT C, dT E]) := rfl
  have e3 : List.lookup 2 (eqs (tbC ct K)) = some (f_Forms___eq__ (tbC ct K)) := rfl
  show eqO (eqs (tbC ct K)) (fO A B) (fO C E) h = _
  simp -implicitDefEqProofs only [eqO, e1, e2, e3, feq_k]
  rfl
theorem eqW_rf : eqW (tbC ct K) (eqs (tbC ct K)) (rO X) (fO C E) h = .ok (.bl false) h := by
  have e1 : insOf h (rO X) = some (1, [2], [tI X]) := rfl
  have e2 : insOf h (fO C E) = some (2, [3, 4], [dT C, dT E]) := rfl
  have e3 : List.lookup 1 (eqs (tbC ct K)) = some (f_Renaming___eq__ (tbC ct K)) := rfl
  show eqAp (tbC ct K) false (eqs (tbC ct K)) (rO X) (fO C E) h = _
  simp -implicitDefEqProofs only [eqAp, e1, e2, e3, rf_k]
  rfl
theorem eqW_fr : eqW (tbC ct K) (eqs (tbC ct K)) (fO A B) (rO Y) h = .ok (.bl false) h := by
  have e1 : insOf h (fO A B) = some (2, [3, 4], [dT A, dT B]) := rfl
  have e2 : insOf h (rO Y) = some (1, [2], [tI Y]) := rfl
  have e3 : List.lookup 2 (eqs (tbC ct K)) = some (f_Forms___eq__ (tbC ct K)) := rfl
  show eqAp (tbC ct K) false (eqs (tbC ct K)) (fO A B) (rO Y) h = _
  simp -implicitDefEqProofs only [eqAp, e1, e2, e3, fr_k]
  rfl
theorem neO_ff : neO (eqs (tbC ct K)) (fO A B) (fO C E) h = .ok (.bl (!(decide (A = C) && decide (B = E)))) h := by
  have e1 : insOf h (fO A B) = some (2, [3, 4], [dT A, dT B]) := rfl
  have e2 : insOf h (fO C E) = some (2, [3, 4], [dT C, dT E]) := rfl
  have e3 : List.lookup 2 (eqs (tbC ct K)) = some (f_Forms___eq__ (tbC ct K)) := rfl
  simp -implicitDefEqProofs only [neO, e1, e2, e3, feq_k]
  rfl
end
end VI.K29
end
section
namespace VI.K29
open PySem PySem.Spec PyProof.Rows L2 VI VI.Std VI.Fl
open VI.Lay (itD ItOk LayT LayOk oL IsL rgI lT fld0 fld1 lenTI all_emb any_emb)
section
variable {K : PySem.W.Frag} {h : Bs} {n m k : Nat} {A B C E : List Im} {p X Y : List Int} {ρ : Ev} {d : D} {R S : List (List Int)}
theorem in_lT {A : List (List Int)} {X : List Int} {neg : Bool} : inD neg (tI X) (lT A) h = .ok (.bl (if neg then !decide (X ∈ A) else decide (X ∈ A))) h := by
  have e1 : py pyN h (tI X) = some (.tuple (X.map .int)) := py_tI X
  have e2 : ((A.map fun X => PyData.tuple (X.map .int)).any fun z => PyData.eqv z (.tuple (X.map .int))) = decide (X ∈ A) := by
    rw [List.any_map, Bool.eq_iff_iff, List.any_eq_true, decide_eq_true_eq]
    constructor
    · rintro ⟨Y, hY, e⟩
      have e : PyData.eqvAll (Y.map .int) (X.map .int) = true := by simpa [PyData.eqv] using e
      rw [eqvAll_ints, decide_eq_true_eq] at e
      rw [← e]
      exact hY
    · intro hX
      refine ⟨X, hX, ?_⟩
      show PyData.eqv (.tuple (X.map .int)) (.tuple (X.map .int)) = true
      rw [PyData.eqv, eqvAll_ints, decide_eq_true rfl]
  have py_lT : py pyN h (lT A) = some (.list (A.map fun X => PyData.tuple (X.map .int))) := by
    show (mapO (py 11 h) (A.map fun X => tI X)).map PyData.list = _
    rw [mapO_all (dE := fun X => tI X) (pE := fun X : List Int => PyData.tuple (X.map .int)) (fun X => py_tI X) A]
    rfl
  simp only [inD, e1, py_lT, e2]
noncomputable def gd (n m : Nat) (A B : List Im) : List (List Int) := if n = m then (ords n).filter fun p => decide (fm p A = sI B) else []
noncomputable def fnd (n m : Nat) (A B : List Im) : D := match gd n m A B with
  | [] => fO (sm n A) (sm m B)
  | p :: _ => rO p
theorem gd_mem : p ∈ gd n m A B ↔ n = m ∧ OrdN n p ∧ fm p A = sI B := by
  unfold gd
  by_cases q : n = m
  · rw [if_pos q, List.mem_filter, mem_ords, decide_eq_true_eq]
    exact ⟨fun h => ⟨q, h.1, h.2⟩, fun h => ⟨h.2.1, h.2.2⟩⟩
  · rw [if_neg q]
    exact ⟨fun h => (nomatch h), fun h => absurd h.1 q⟩
theorem cmp_loop (HA : LayOk n A) (hn : n ≤ 5) {G : List Im} {x0 : D} : ∀ (l : List (List Int)) (x3 : Option D), (∀ p ∈ l, OrdN n p) →
    (l.filter (fun p => decide (fm p A = G)) = [] → ∃ y3, loopS (sgName 3) (l1_compare_layouts (tbC ct K)) (l.map fun X => tI X) [some (oL n A), some x0, some (dT G), x3] h = .nx [some (oL n A), some x0, some (dT G), y3] h) ∧
    (∀ p r, l.filter (fun p => decide (fm p A = G)) = p :: r → loopS (sgName 3) (l1_compare_layouts (tbC ct K)) (l.map fun X => tI X) [some (oL n A), some x0, some (dT G), x3] h = .rt (rO p) h)
  | [], x3, _ => ⟨fun _ => ⟨x3, rfl⟩, fun p r z => by cases z⟩
  | q :: l, x3, hl => by
    have hq := hl q List.mem_cons_self
    have ih := cmp_loop HA hn (G := G) (x0 := x0) l (some (tI q)) fun p' z => hl p' (List.mem_cons_of_mem _ z)
    have L := layT (K := K)
    have c1 : (sOp (eqD false) (sCall (f_form_by (tbC ct K)) (saCons (sUn (fldD (tbC ct K) 1) (sVar 0)) (saCons (sVar 3) saNil))) (sVar 2)) [some (oL n A), some x0, some (dT G), some (tI q)] h = .ok (.bl (decide (fm q A = G))) h :=
      op_ok (h1 := h) (h2 := h) (x := dT (fm q A)) (y := dT G) (call_ok (h1 := h) (xs := [.tup (A.map itD), tI q]) (cons_ok (un_ok (x := oL n A) rfl (fld1 L)) (cons_ok rfl rfl)) (form_by_k HA hq (.inr rfl))) rfl ((eq_itsT (neg := false)).trans rfl)
    by_cases e : fm q A = G
    · rw [decide_eq_true e] at c1
      have fe : (q :: l).filter (fun p => decide (fm p A = G)) = q :: l.filter (fun p => decide (fm p A = G)) := List.filter_cons_of_pos (by simp [e])
      refine ⟨fun z => (by rw [fe] at z; cases z), fun p r z => ?_⟩
      rw [fe] at z
      obtain ⟨rfl, _⟩ := List.cons.inj z
      rw [List.map_cons]
      refine loop_rt (ρ1 := [some (oL n A), some x0, some (dT G), some (tI q)]) (h1 := h) rfl ?_
      unfold l1_compare_layouts
      exact cons_rt ((if_t c1).trans (ret_ok (call_ok (h1 := h) (xs := [tI q]) rfl (make_r fun g => rfl))))
    · rw [decide_eq_false e] at c1
      have fe : (q :: l).filter (fun p => decide (fm p A = G)) = l.filter (fun p => decide (fm p A = G)) := List.filter_cons_of_neg (by simp [e])
      have st : l1_compare_layouts (tbC ct K) [some (oL n A), some x0, some (dT G), some (tI q)] h = .nx [some (oL n A), some x0, some (dT G), some (tI q)] h := by
        unfold l1_compare_layouts
        exact (cons_nx ((if_f c1).trans rfl)).trans rfl
      rw [fe, List.map_cons]
      refine ⟨fun z => ?_, fun p r z => (loop_step (ρ1 := [some (oL n A), some x0, some (dT G), some (tI q)]) (h1 := h) rfl st).trans (ih.2 p r z)⟩
      obtain ⟨y3, e3⟩ := ih.1 z
      exact ⟨y3, (loop_step (ρ1 := [some (oL n A), some x0, some (dT G), some (tI q)]) (h1 := h) rfl st).trans e3⟩
theorem noD_fnd : noD (fnd n m A B) = true := by
  unfold fnd
  split
  · show (noD (dT _) && (noD (dT _) && true)) = true
    rw [show noD (dT (sm n A)) = true from noDs_I _, show noD (dT (sm m B)) = true from noDs_I _]; rfl
  · rename_i p r _
    show (noD (tI p) && true) = true
    rw [show noD (tI p) = true from noD_tI]; rfl
theorem compare_k (HA : LayOk n A) (HB : LayOk m B) (hn : n ≤ 5) (hm : m ≤ 5) : f_compare_layouts (tbC ct K) [oL n A, oL m B] h = .ok (fnd n m A B) h := by
  have L := layT (K := K)
  refine run_rt rfl ?_ noD_fnd
  show s_compare_layouts (tbC ct K) [some (oL n A), some (oL m B), none, none] (inB h) = _
  unfold s_compare_layouts
  refine (cons_nx (expr_ok (call_ok (h1 := inB h) (xs := [oL n A, oL m B]) rfl (chk_two hn hm)))).trans ?_
  have c1 : (sOp (eqD false) (sUn (fldD (tbC ct K) 0) (sVar 0)) (sUn (fldD (tbC ct K) 0) (sVar 1))) [some (oL n A), some (oL m B), none, none] (inB h) = .ok (.bl (decide (n = m))) (inB h) := op_ok (h1 := inB h) (h2 := inB h) (x := .int n) (y := .int m) (un_ok (x := oL n A) rfl (fld0 L)) (un_ok (x := oL m B) rfl (fld0 L)) ((eq_ints (neg := false)).trans (by rw [if_neg (by decide), show decide ((n : Int) = (m : Int)) = decide (n = m) from decide_eq_decide.mpr (by omega)]))
  have lastF : ∀ {ρ : Ev}, ρ[0]? = some (some (oL n A)) → ρ[1]? = some (some (oL m B)) → (sCall (makeD 2 true (f_Forms_init (tbC ct K))) (saCons (sCall (f_smallest (tbC ct K)) (saCons (sVar 0) saNil)) (saCons (sCall (f_smallest (tbC ct K)) (saCons (sVar 1) saNil)) saNil))) ρ (inB h) = .ok (fO (sm n A) (sm m B)) (inB h) := fun e0 e1 => call_ok (h1 := inB h) (xs := [dT (sm n A), dT (sm m B)]) (cons_ok (call_ok (h1 := inB h) (xs := [oL n A]) (cons_ok (var_ok e0) rfl) (smallest_k HA hn)) (cons_ok (call_ok (h1 := inB h) (xs := [oL m B]) (cons_ok (var_ok e1) rfl) (smallest_k HB hm)) rfl)) make_f
  by_cases q : n = m
  · subst q
    rw [decide_eq_true rfl] at c1
    have lp := cmp_loop (K := K) (h := inB h) HA hn (G := sI B) (x0 := oL n B) (ords n) none fun p hp => mem_ords.mp hp
    have g : gd n n A B = (ords n).filter (fun p => decide (fm p A = sI B)) := if_pos rfl
    have it : (siSeq (sCall (f_orders_of (tbC ct K)) (saCons (sUn (fldD (tbC ct K) 0) (sVar 0)) saNil))) [some (oL n A), some (oL n B), some (dT (sI B)), none] (inB h) = .ok ((ords n).map fun X => tI X, none) (inB h) := seq_ok (d := lT (ords n)) (call_ok (h1 := inB h) (xs := [.int n]) (cons_ok (un_ok (x := oL n A) rfl (fld0 L)) rfl) (orders_k hn)) rfl
    have goal : (ssAsg (sCall tupleD (saCons (sCall (sortDS false) (saCons (sUn (fldD (tbC ct K) 1) (sVar 1)) saNil)) saNil)) (sgName 2)) [some (oL n A), some (oL n B), none, none] (inB h) = .nx [some (oL n A), some (oL n B), some (dT (sI B)), none] (inB h) := asg_ok (goal_k HB (un_ok (x := oL n B) rfl (fld1 L))) rfl
    unfold fnd
    cases e : gd n n A B with
    | nil =>
      rw [g] at e
      obtain ⟨y3, e3⟩ := lp.1 e
      exact (cons_nx ((if_t c1).trans ((cons_nx goal).trans ((cons_nx (for_ok it e3)).trans rfl)))).trans (ret_ok (lastF rfl rfl))
    | cons p r =>
      rw [g] at e
      exact cons_rt ((if_t c1).trans ((cons_nx goal).trans (cons_rt (for_rt it (lp.2 p r e)))))
  · rw [decide_eq_false q] at c1
    have g : gd n m A B = [] := if_neg q
    unfold fnd
    rw [g]
    exact (cons_nx ((if_f c1).trans rfl)).trans (ret_ok (lastF rfl rfl))
theorem isi_fnd : isiD (tbC ct K) 8 (fnd n m A B) h = .ok (.bl (!decide (gd n m A B = []))) h := by
  unfold fnd
  cases gd n m A B with
  | nil => rfl
  | cons p r => rw [decide_eq_false (by simp)]; rfl
theorem alike_k (HA : LayOk n A) (HB : LayOk m B) (hn : n ≤ 5) (hm : m ≤ 5) : f_are_alike (tbC ct K) [oL n A, oL m B] h = .ok (.bl (!decide (gd n m A B = []))) h := by
  refine run_rt rfl ?_ rfl
  show s_are_alike (tbC ct K) [some (oL n A), some (oL m B)] (inB h) = _
  unfold s_are_alike
  exact ret_ok (un_ok (x := fnd n m A B) (call_ok (h1 := inB h) (xs := [oL n A, oL m B]) rfl (compare_k HA HB hn hm)) isi_fnd)
theorem rsh (HA : LayOk n A) (HB : LayOk m B) (hn : n ≤ 5) (hm : m ≤ 5) (hX : OrdN n X ∨ X.length ≠ n) (hl : X.length ≤ 100) : f_Renaming_shows (tbC ct K) [rO X, oL n A, oL m B] h = .ok (.bl (decide (n = m) && (decide (X.length = n) && decide (fm X A = sI B)))) h := by
  have sz : (1000 : Nat) ≤ sizeLine := by decide
  have L := layT (K := K)
  have fa := HA.few
  have fb := HB.few
  refine run_rt rfl ?_ rfl
  show s_Renaming_shows (tbC ct K) [some (rO X), some (oL n A), some (oL m B)] (inB h) = _
  unfold s_Renaming_shows
  refine (cons_nx (expr_ok (call_ok (h1 := inB h) (xs := [oL n A, oL m B]) rfl (chk_two hn hm)))).trans ?_
  have io : f_is_order (tbC ct K) [tI X, .int n] (inB h) = .ok (.bl (decide (X.length = n))) (inB h) := by
    rcases hX with o | o
    · rw [decide_eq_true o.len]
      exact isord_k o (by omega)
    · rw [decide_eq_false o]
      refine run_rt rfl ?_ rfl
      show s_is_order (tbC ct K) [some (tI X), some (.int n), none] (inB (inB h)) = _
      unfold s_is_order
      have c : (sOr (sOp (eqD true) (sCall lenD (saCons (sVar 0) saNil)) (sVar 1)) (sNot (sCall allD' (saCons (sLc false [2] (siSeq (sVar 0)) (sgName 2) (fun _ h => .ok true h) (sCall (f_is_number (tbC ct K)) (saCons (sVar 2) (saCons (sK (.int 0)) (saCons (sOp subD (sVar 1) (sK (.int 1))) saNil))))) saNil)))) [some (tI X), some (.int n), none] (inB (inB h)) = .ok (.bl (true || false)) (inB (inB h)) := or_ok (op_ok (h1 := inB (inB h)) (h2 := inB (inB h)) (x := .int X.length) (y := .int n) (call_ok (h1 := inB (inB h)) (xs := [tI X]) rfl lenTI) rfl ((eq_ints (neg := true)).trans (by rw [if_pos rfl, decide_eq_false (by omega)]; rfl))) fun z => nomatch z
      exact cons_rt ((if_t c).trans (ret_ok rfl))
  have c1 : (sOr (sOp (eqD true) (sUn (fldD (tbC ct K) 0) (sVar 1)) (sUn (fldD (tbC ct K) 0) (sVar 2))) (sNot (sCall (f_is_order (tbC ct K)) (saCons (sUn (fldD (tbC ct K) 2) (sVar 0)) (saCons (sUn (fldD (tbC ct K) 0) (sVar 1)) saNil))))) [some (rO X), some (oL n A), some (oL m B)] (inB h) = .ok (.bl (!decide (n = m) || !decide (X.length = n))) (inB h) :=
    or_ok (op_ok (h1 := inB h) (h2 := inB h) (x := .int n) (y := .int m) (un_ok (x := oL n A) rfl (fld0 L)) (un_ok (x := oL m B) rfl (fld0 L)) ((eq_ints (neg := true)).trans (by rw [if_pos rfl, show decide ((n : Int) = (m : Int)) = decide (n = m) from decide_eq_decide.mpr (by omega)]))) fun _ => not_ok (call_ok (h1 := inB h) (xs := [tI X, .int n]) (cons_ok (un_ok (x := rO X) rfl rfl) (cons_ok (un_ok (x := oL n A) rfl (fld0 L)) rfl)) io)
  cases t : (!decide (n = m) || !decide (X.length = n)) with
  | true =>
    rw [t] at c1
    have : (decide (n = m) && (decide (X.length = n) && decide (fm X A = sI B))) = false := by
      revert t
      cases decide (n = m) <;> cases decide (X.length = n) <;> simp
    rw [this]
    exact cons_rt ((if_t c1).trans (ret_ok rfl))
  | false =>
    rw [t] at c1
    have : (decide (n = m) && (decide (X.length = n) && decide (fm X A = sI B))) = decide (fm X A = sI B) := by
      revert t
      cases decide (n = m) <;> cases decide (X.length = n) <;> simp
    have xl : X.length = n := by
      rw [Bool.or_eq_false_iff] at t
      simpa using t.2
    have o : OrdN n X := by
      rcases hX with o | o
      · exact o
      · exact absurd xl o
    rw [this]
    refine (cons_nx ((if_f c1).trans rfl)).trans (ret_ok (op_ok (h1 := inB h) (h2 := inB h) (x := dL (fm X A)) (y := dL (sI B)) (call_ok (h1 := inB h) (xs := [dT (rnL X A)]) (cons_ok (un_ok (x := oL n (rnL X A)) (meth_k (n := n) (its := A) (xs := [tI X]) rfl rfl (cons_ok (un_ok (x := rO X) rfl rfl) rfl) (renamed_k HA o)) (fld1 L)) rfl) (sort_itsT (by rw [List.length_map]; omega))) (call_ok (h1 := inB h) (xs := [dT B]) (cons_ok (un_ok (x := oL m B) rfl (fld1 L)) rfl) (sort_itsT (by omega))) ((eq_itsL (neg := false)).trans rfl)))
theorem fsh (HA : LayOk n A) (HB : LayOk m B) (hn : n ≤ 5) (hm : m ≤ 5) : f_Forms_shows (tbC ct K) [fO C E, oL n A, oL m B] h = .ok (.bl ((decide (C = sm n A) && decide (E = sm m B)) && (!decide (n = m) || !decide (C = E)))) h := by
  have L := layT (K := K)
  refine run_rt rfl ?_ rfl
  show s_Forms_shows (tbC ct K) [some (fO C E), some (oL n A), some (oL m B)] (inB h) = _
  unfold s_Forms_shows
  refine (cons_nx (expr_ok (call_ok (h1 := inB h) (xs := [oL n A, oL m B]) rfl (chk_two hn hm)))).trans ?_
  have c1 : (sOp (eqD true) (sTup (saCons (sUn (fldD (tbC ct K) 3) (sVar 0)) (saCons (sUn (fldD (tbC ct K) 4) (sVar 0)) saNil))) (sTup (saCons (sCall (f_smallest (tbC ct K)) (saCons (sVar 1) saNil)) (saCons (sCall (f_smallest (tbC ct K)) (saCons (sVar 2) saNil)) saNil)))) [some (fO C E), some (oL n A), some (oL m B)] (inB h) = .ok (.bl (!(decide (C = sm n A) && decide (E = sm m B)))) (inB h) :=
    op_ok (h1 := inB h) (h2 := inB h) (x := .tup [dT C, dT E]) (y := .tup [dT (sm n A), dT (sm m B)]) (tup_ok (xs := [dT C, dT E]) (cons_ok (un_ok (x := fO C E) rfl rfl) (cons_ok (un_ok (x := fO C E) rfl rfl) rfl)) two_le) (tup_ok (xs := [dT (sm n A), dT (sm m B)]) (cons_ok (call_ok (h1 := inB h) (xs := [oL n A]) rfl (smallest_k HA hn)) (cons_ok (call_ok (h1 := inB h) (xs := [oL m B]) rfl (smallest_k HB hm)) rfl)) two_le) ((eq_two (neg := true)).trans rfl)
  cases t : (decide (C = sm n A) && decide (E = sm m B)) with
  | false =>
    rw [t] at c1
    exact cons_rt ((if_t c1).trans (ret_ok rfl))
  | true =>
    rw [t] at c1
    rw [Bool.true_and]
    refine (cons_nx ((if_f c1).trans rfl)).trans (ret_ok (or_ok (op_ok (h1 := inB h) (h2 := inB h) (x := .int n) (y := .int m) (un_ok (x := oL n A) rfl (fld0 L)) (un_ok (x := oL m B) rfl (fld0 L)) ((eq_ints (neg := true)).trans (by rw [if_pos rfl, show decide ((n : Int) = (m : Int)) = decide (n = m) from decide_eq_decide.mpr (by omega)]))) fun _ => op_ok (h1 := inB h) (h2 := inB h) (x := dT C) (y := dT E) (un_ok (x := fO C E) rfl rfl) (un_ok (x := fO C E) rfl rfl) ((eq_itsT (neg := true)).trans rfl)))
theorem same_form (HA : LayOk n A) (HB : LayOk n B) : sm n A = sm n B ↔ gd n n A B ≠ [] := by
  constructor
  · intro e z
    obtain ⟨p, hp, a⟩ := sm_eq (oks HA) (oks HB) e
    have : p ∈ gd n n A B := gd_mem.mpr ⟨rfl, hp, fm_alk.mpr a⟩
    rw [z] at this
    cases this
  · intro z
    obtain ⟨p, hp⟩ := List.exists_mem_of_ne_nil _ z
    obtain ⟨_, o, e⟩ := gd_mem.mp hp
    exact sm_alk o (oks HA) (oks HB) (fm_alk.mp e)
end
end VI.K29
end
section
namespace VI.K29
open PySem PySem.Spec PyProof.Rows L2 VI VI.Std VI.Fl
open VI.Lay (itD ItOk LayT LayOk oL IsL rgI lT fld0 fld1 lenTI all_emb any_emb)
section
variable {K : PySem.W.Frag} {h : Bs} {n m k : Nat} {A B C E : List Im} {p X Y ns : List Int} {ρ : Ev} {d : D} {R S : List (List Int)}
def orL (n m : Nat) : List (List Int) := if n = m then ords n else []
theorem gd_eq : gd n m A B = (orL n m).filter fun p => decide (fm p A = sI B) := by
  unfold gd orL
  split
  · rfl
  · rfl
theorem orL_ord (hp : p ∈ orL n m) : n = m ∧ OrdN n p := by
  unfold orL at hp
  split at hp
  · rename_i q; exact ⟨q, mem_ords.mp hp⟩
  · cases hp
theorem fac_le (hn : n ≤ 5) : fac n ≤ 120 := by
  have : n = 0 ∨ n = 1 ∨ n = 2 ∨ n = 3 ∨ n = 4 ∨ n = 5 := by omega
  rcases this with rfl | rfl | rfl | rfl | rfl | rfl <;> decide
theorem orL_len (hn : n ≤ 5) : (orL n m).length ≤ 120 := by
  unfold orL
  split
  · rw [ords_len hn]; exact fac_le hn
  · exact Nat.zero_le _
abbrev evp (ns : List Int) (n m : Nat) (A B : List Im) (x3 x4 x5 x6 x7 : Option D) : Ev := [some (.scr ns), some (oL n A), some (oL m B), x3, x4, x5, x6, x7, none]
theorem meth_r {so : SV} {sx : SA} {xs : List D} {r : VI.R D} (e1 : so ρ h = .ok (rO X) h) (e2 : sx ρ h = .ok xs h) (e : f_Renaming_shows (tbC ct K) (rO X :: xs) h = r) : sMeth 14 (fun c => List.lookup c [(1, (f_Renaming_shows (tbC ct K))), (2, (f_Forms_shows (tbC ct K)))]) so sx ρ h = r := by
  have e3 : mthD 14 (fun c => List.lookup c [(1, (f_Renaming_shows (tbC ct K))), (2, (f_Forms_shows (tbC ct K)))]) (rO X) h = some (f_Renaming_shows (tbC ct K)) := rfl
  unfold sMeth
  rw [e1, bind_ok]
  simp only [e3, e2, bind_ok]
  exact e
theorem meth_f {so : SV} {sx : SA} {xs : List D} {r : VI.R D} (e1 : so ρ h = .ok (fO C E) h) (e2 : sx ρ h = .ok xs h) (e : f_Forms_shows (tbC ct K) (fO C E :: xs) h = r) : sMeth 14 (fun c => List.lookup c [(1, (f_Renaming_shows (tbC ct K))), (2, (f_Forms_shows (tbC ct K)))]) so sx ρ h = r := by
  have e3 : mthD 14 (fun c => List.lookup c [(1, (f_Renaming_shows (tbC ct K))), (2, (f_Forms_shows (tbC ct K)))]) (fO C E) h = some (f_Forms_shows (tbC ct K)) := rfl
  unfold sMeth
  rw [e1, bind_ok]
  simp only [e3, e2, bind_ok]
  exact e
theorem cut_m3 {xs : List D} : cutD xs (some (-3)) none = xs.drop (xs.length - 3) := by
  unfold cutD
  rw [HT.sIx_none]
  have e : ∀ k, k = xs.length - 3 → List.take (xs.length - k) (List.drop k xs) = xs.drop (xs.length - 3) := fun k hk => by
    rw [hk, List.take_of_length_le (by rw [List.length_drop]; exact Nat.le_refl _)]
  refine e _ ?_
  show (if (-3 : Int) < 0 then ((-3 : Int) + (xs.length : Int)).toNat else min ((-3 : Int)).toNat xs.length) = xs.length - 3
  rw [if_pos (by decide)]
  omega
theorem zeros_k (k1 : 1 ≤ k) (k5 : k ≤ 5) : mulD false (.tup [.int 0]) (.int k) h = .ok (tI (List.replicate k 0)) h := by
  have sz : (1000 : Nat) ≤ sizeLine := by decide
  have : k = 1 ∨ k = 2 ∨ k = 3 ∨ k = 4 ∨ k = 5 := by omega
  rcases this with rfl | rfl | rfl | rfl | rfl
  · rfl
  · show newT [.int 0, .int 0] h = _
    rw [newT_f (by show 2 ≤ sizeLine; omega)]; rfl
  · show newT [.int 0, .int 0, .int 0] h = _
    rw [newT_f (by show 3 ≤ sizeLine; omega)]; rfl
  · show newT [.int 0, .int 0, .int 0, .int 0] h = _
    rw [newT_f (by show 4 ≤ sizeLine; omega)]; rfl
  · show newT [.int 0, .int 0, .int 0, .int 0, .int 0] h = _
    rw [newT_f (by show 5 ≤ sizeLine; omega)]; rfl
theorem some_loop (HA : LayOk n A) (HB : LayOk m B) (hn : n ≤ 5) (hm : m ≤ 5) {x3 x5 x7 : Option D} : ∀ (l : List (List Int)) (x6 : Option D), (∀ p ∈ l, p ∈ orL n m) → ∃ y6, loopS (sgName 6) (l1__law_pair_right (tbC ct K)) (l.map fun X => tI X) (evp ns n m A B x3 (some (lT (gd n m A B))) x5 x6 x7) h = .nx (evp ns n m A B x3 (some (lT (gd n m A B))) x5 y6 x7) h
  | [], x6, _ => ⟨x6, rfl⟩
  | p :: l, x6, hl => by
    have sz : (1000 : Nat) ≤ sizeLine := by decide
    have hp := hl p List.mem_cons_self
    obtain ⟨q, o⟩ := orL_ord hp
    have ol := o.len
    obtain ⟨y6, ih⟩ := some_loop HA HB hn hm (x3 := x3) (x5 := x5) (x7 := x7) l (some (tI p)) fun p' z => hl p' (List.mem_cons_of_mem _ z)
    refine ⟨y6, (loop_step (ρ1 := evp ns n m A B x3 (some (lT (gd n m A B))) x5 (some (tI p)) x7) (h1 := h) rfl ?_).trans ih⟩
    have v : (decide (n = m) && (decide (p.length = n) && decide (fm p A = sI B))) = decide (p ∈ gd n m A B) := by
      rw [decide_eq_true q, decide_eq_true ol, Bool.true_and, Bool.true_and]
      exact decide_eq_decide.mpr ⟨fun e => gd_mem.mpr ⟨q, o, e⟩, fun e => (gd_mem.mp e).2.2⟩
    have s1 := rsh (K := K) (h := h) HA HB hn hm (.inl o) (by omega)
    rw [v] at s1
    unfold l1__law_pair_right
    refine (cons_nx ((if_f (h1 := h) (op_ok (h1 := h) (h2 := h) (x := .bl (decide (p ∈ gd n m A B))) (y := .bl (decide (p ∈ gd n m A B))) (meth_r (X := p) (xs := [oL n A, oL m B]) (call_ok (h1 := h) (xs := [lI p]) (cons_ok (call_ok (h1 := h) (xs := [tI p]) rfl (VI.Q.tIs.lst (by omega))) rfl) (make_r fun g => Lay.tup_l (by omega))) rfl s1) (op_ok (h1 := h) (h2 := h) (x := tI p) (y := lT (gd n m A B)) rfl rfl ((in_lT (neg := false)).trans rfl)) VI.Q.ne_bl)).trans rfl)).trans rfl
def wD : (List Int) ⊕ (List Im × List Im) → D
  | .inl X => rO X
  | .inr (C, E) => fO C E
theorem pair_k (HA : LayOk n A) (HB : LayOk m B) (hn : n ≤ 5) (hm : m ≤ 5) : f__law_pair_right (tbC ct K) [.scr ns, oL n A, oL m B] h = .ok (.bl true) h := by
  have sz : (10000 : Nat) ≤ sizeLine := by decide
  have L := layT (K := K)
  have n1 := HA.lo
  have na := HA.ne
  have fa := HA.few
  have ol := orL_len (m := m) hn
  have gl : (gd n m A B).length ≤ 120 := by
    rw [gd_eq]
    exact Nat.le_trans (List.length_filter_le _ _) ol
  have sA : (sm n A).length = A.length := sm_len
  refine run_rt rfl ?_ rfl
  show s__law_pair_right (tbC ct K) (evp ns n m A B none none none none none) (inB h) = _
  unfold s__law_pair_right
  have t1 : (sIte (sOp (eqD false) (sUn (fldD (tbC ct K) 0) (sVar 1)) (sUn (fldD (tbC ct K) 0) (sVar 2))) (sCall (f__law_orders (tbC ct K)) (saCons (sUn (fldD (tbC ct K) 0) (sVar 1)) saNil)) (sLst false saNil)) (evp ns n m A B none none none none none) (inB h) = .ok (lT (orL n m)) (inB h) := by
    refine (ite_k (h1 := inB h) (p := decide (n = m)) (op_ok (h1 := inB h) (h2 := inB h) (x := .int n) (y := .int m) (un_ok (x := oL n A) rfl (fld0 L)) (un_ok (x := oL m B) rfl (fld0 L)) ((eq_ints (neg := false)).trans (by rw [if_neg (by decide), show decide ((n : Int) = (m : Int)) = decide (n = m) from decide_eq_decide.mpr (by omega)])))).trans ?_
    unfold orL
    by_cases q : n = m
    · rw [decide_eq_true q, if_pos rfl, if_pos q]
      exact call_ok (h1 := inB h) (xs := [.int n]) (cons_ok (un_ok (x := oL n A) rfl (fld0 L)) rfl) (lorders_k hn)
    · rw [decide_eq_false q, if_neg (by decide), if_neg q]
      exact lst_ok (xs := []) rfl (Nat.zero_le _)
  refine (cons_nx (ρ1 := evp ns n m A B (some (lT (orL n m))) none none none none) (h1 := inB h) (asg_ok t1 rfl)).trans ?_
  have t2 : (sLc false [6] (siSeq (sVar 3)) (sgName 6) (sTru (sOp (eqD false) (sCall (f__law_renamed (tbC ct K)) (saCons (sUn (fldD (tbC ct K) 1) (sVar 1)) (saCons (sVar 6) saNil))) (sCall (sortDS false) (saCons (sUn (fldD (tbC ct K) 1) (sVar 2)) saNil)))) (sVar 6)) (evp ns n m A B (some (lT (orL n m))) none none none none) (inB h) = .ok (lT (gd n m A B)) (inB h) := by
    refine lc_ok (h := inB h) (xs := (orL n m).map fun X => tI X) (ys := (gd n m A B).map fun X => tI X) (seq_ok (d := lT (orL n m)) rfl rfl) ?_ (by rw [List.length_map]; omega)
    rw [gd_eq]
    refine lc_emb (fun X => tI X) (fun p => decide (fm p A = sI B)) (fun X => tI X) (orL n m) fun p hp => ⟨[some (.scr ns), some (oL n A), some (oL m B), some (lT (orL n m)), none, none, some (tI p), none, none], rfl, tru_ok (op_ok (h1 := inB h) (h2 := inB h) (x := dL (fm p A)) (y := dL (sI B)) (call_ok (h1 := inB h) (xs := [.tup (A.map itD), tI p]) (cons_ok (un_ok (x := oL n A) rfl (fld1 L)) (cons_ok rfl rfl)) (lren_k HA (orL_ord hp).2 (.inr rfl))) (call_ok (h1 := inB h) (xs := [dT B]) (cons_ok (un_ok (x := oL m B) rfl (fld1 L)) rfl) (sort_itsT (by have := HB.few; omega))) ((eq_itsL (neg := false)).trans rfl)), fun _ => rfl⟩
  refine (cons_nx (ρ1 := evp ns n m A B (some (lT (orL n m))) (some (lT (gd n m A B))) none none none) (h1 := inB h) (asg_ok t2 rfl)).trans ?_
  refine (cons_nx (ρ1 := evp ns n m A B (some (lT (orL n m))) (some (lT (gd n m A B))) (some (fnd n m A B)) none none) (h1 := inB h) (asg_ok (call_ok (h1 := inB h) (xs := [oL n A, oL m B]) rfl (compare_k HA HB hn hm)) rfl)).trans ?_
  have gne : ∀ {x3 x5 x6 x7 : Option D}, (sOp (eqD true) (sVar 4) (sLst false saNil)) (evp ns n m A B x3 (some (lT (gd n m A B))) x5 x6 x7) (inB h) = .ok (.bl (!decide (gd n m A B = []))) (inB h) := fun {_ _ _ _} => op_ok (h1 := inB h) (h2 := inB h) (x := lT (gd n m A B)) (y := lT []) rfl (lst_ok (xs := []) rfl (Nat.zero_le _)) ((eq_lTn (neg := true)).trans rfl)
  have geq : ∀ {x3 x5 x6 x7 : Option D}, (sOp (eqD false) (sVar 4) (sLst false saNil)) (evp ns n m A B x3 (some (lT (gd n m A B))) x5 x6 x7) (inB h) = .ok (.bl (decide (gd n m A B = []))) (inB h) := fun {_ _ _ _} => op_ok (h1 := inB h) (h2 := inB h) (x := lT (gd n m A B)) (y := lT []) rfl (lst_ok (xs := []) rfl (Nat.zero_le _)) ((eq_lTn (neg := false)).trans rfl)
  have both : ∀ {x3 x4 x6 x7 : Option D}, (saCons (sVar 1) (saCons (sVar 2) saNil)) (evp ns n m A B x3 x4 (some (fnd n m A B)) x6 x7) (inB h) = .ok [oL n A, oL m B] (inB h) := fun {_ _ _ _} => rfl
  have shw : ∀ {x3 x4 x6 x7 : Option D}, (sMeth 14 (fun c => List.lookup c [(1, (f_Renaming_shows (tbC ct K))), (2, (f_Forms_shows (tbC ct K)))]) (sVar 5) (saCons (sVar 1) (saCons (sVar 2) saNil))) (evp ns n m A B x3 x4 (some (fnd n m A B)) x6 x7) (inB h) = .ok (.bl true) (inB h) := fun {x3 x4 x6 x7} => by
    cases e : gd n m A B with
    | nil =>
      have f : fnd n m A B = fO (sm n A) (sm m B) := by unfold fnd; rw [e]
      rw [f]
      refine meth_f (C := sm n A) (E := sm m B) (xs := [oL n A, oL m B]) rfl rfl ((fsh HA HB hn hm).trans ?_)
      rw [decide_eq_true rfl, decide_eq_true rfl]
      have : (!decide (n = m) || !decide (sm n A = sm m B)) = true := by
        by_cases q : n = m
        · subst q
          have : sm n A ≠ sm n B := fun z => (same_form HA HB).mp z e
          rw [decide_eq_false this]; simp
        · rw [decide_eq_false q]; rfl
      rw [this]
      rfl
    | cons p r =>
      have f : fnd n m A B = rO p := by unfold fnd; rw [e]
      rw [f]
      have mp : p ∈ gd n m A B := by rw [e]; exact List.mem_cons_self
      obtain ⟨q, o, ef⟩ := gd_mem.mp mp
      refine meth_r (X := p) (xs := [oL n A, oL m B]) rfl rfl ((rsh HA HB hn hm (.inl o) (by have := o.len; omega)).trans ?_)
      rw [decide_eq_true q, decide_eq_true o.len, decide_eq_true ef]
      rfl
  refine (cons_nx ((if_f (h1 := inB h) (or_ok (a := false) (b := !true) (op_ok (h1 := inB h) (h2 := inB h) (x := .bl (!decide (gd n m A B = []))) (y := .bl (!decide (gd n m A B = []))) (call_ok (h1 := inB h) (xs := [oL n A, oL m B]) rfl (alike_k HA HB hn hm)) gne VI.Q.ne_bl) fun _ => not_ok shw)).trans rfl)).trans ?_
  have c5 : (sAnd (sOp (eqD true) (sVar 4) (sLst false saNil)) (sOr (sNot (sUn (isiD (tbC ct K) 8) (sVar 5))) (sOp (inD true) (sUn (fldD (tbC ct K) 2) (sVar 5)) (sVar 4)))) (evp ns n m A B (some (lT (orL n m))) (some (lT (gd n m A B))) (some (fnd n m A B)) none none) (inB h) = .ok (.bl ((!decide (gd n m A B = [])) && false)) (inB h) := by
    refine and_ok gne fun z => ?_
    have ne : gd n m A B ≠ [] := by simpa using z
    obtain ⟨p, r, e⟩ := List.exists_cons_of_ne_nil ne
    have f : fnd n m A B = rO p := by unfold fnd; rw [e]
    have mp : p ∈ gd n m A B := by rw [e]; exact List.mem_cons_self
    rw [f]
    exact or_ok (a := !true) (b := false) (not_ok (un_ok (x := rO p) rfl rfl)) fun _ => op_ok (h1 := inB h) (h2 := inB h) (x := tI p) (y := lT (gd n m A B)) (un_ok (x := rO p) rfl rfl) rfl ((in_lT (neg := true)).trans (by rw [if_pos rfl, decide_eq_true mp]; rfl))
  rw [Bool.and_false] at c5
  refine (cons_nx ((if_f c5).trans rfl)).trans ?_
  have ff : ∀ {x3 x4 x5 x6 x7 : Option D}, (sCall (makeD 2 true (f_Forms_init (tbC ct K))) (saCons (sCall (f_form (tbC ct K)) (saCons (sVar 1) saNil)) (saCons (sCall (f_form (tbC ct K)) (saCons (sVar 2) saNil)) saNil))) (evp ns n m A B x3 x4 x5 x6 x7) (inB h) = .ok (fO (sm n A) (sm m B)) (inB h) := fun {_ _ _ _ _} => call_ok (h1 := inB h) (xs := [dT (sm n A), dT (sm m B)]) (cons_ok (call_ok (h1 := inB h) (xs := [oL n A]) rfl (form_k HA hn)) (cons_ok (call_ok (h1 := inB h) (xs := [oL m B]) rfl (form_k HB hm)) rfl)) make_f
  have c6 : (sAnd (sOp (eqD false) (sVar 4) (sLst false saNil)) (sOp (neO [(0, (f_Layout___eq__ (tbC ct K))), (1, (f_Renaming___eq__ (tbC ct K))), (2, (f_Forms___eq__ (tbC ct K)))]) (sVar 5) (sCall (makeD 2 true (f_Forms_init (tbC ct K))) (saCons (sCall (f_form (tbC ct K)) (saCons (sVar 1) saNil)) (saCons (sCall (f_form (tbC ct K)) (saCons (sVar 2) saNil)) saNil))))) (evp ns n m A B (some (lT (orL n m))) (some (lT (gd n m A B))) (some (fnd n m A B)) none none) (inB h) = .ok (.bl (decide (gd n m A B = []) && false)) (inB h) := by
    refine and_ok geq fun z => ?_
    have e : gd n m A B = [] := of_decide_eq_true z
    have f : fnd n m A B = fO (sm n A) (sm m B) := by unfold fnd; rw [e]
    rw [f]
    exact op_ok (h1 := inB h) (h2 := inB h) (x := fO (sm n A) (sm m B)) (y := fO (sm n A) (sm m B)) rfl ff (neO_ff.trans (by simp))
  rw [Bool.and_false] at c6
  refine (cons_nx ((if_f c6).trans rfl)).trans ?_
  obtain ⟨SL, eS⟩ : ∃ SL : List (List Int), SL = (orL n m).take 3 ++ (orL n m).drop ((orL n m).length - 3) := ⟨_, rfl⟩
  have SLm : ∀ p ∈ SL, p ∈ orL n m := fun p hp => by
    rw [eS] at hp
    rcases List.mem_append.mp hp with z | z
    · exact List.mem_of_mem_take z
    · exact List.mem_of_mem_drop z
  obtain ⟨y6, e7⟩ := some_loop (K := K) (ns := ns) (h := inB h) HA HB hn hm (x3 := some (lT (orL n m))) (x5 := some (fnd n m A B)) (x7 := none) SL none SLm
  have s7 : (sOp (addD false) (sSl false (sVar 3) soNone (soSome (sK (.int 3)))) (sSl false (sVar 3) (soSome (sUn negD (sK (.int 3)))) soNone)) (evp ns n m A B (some (lT (orL n m))) (some (lT (gd n m A B))) (some (fnd n m A B)) none none) (inB h) = .ok (lT SL) (inB h) := by
    refine op_ok (h1 := inB h) (h2 := inB h) (x := lT ((orL n m).take 3)) (y := lT ((orL n m).drop ((orL n m).length - 3))) (slOk (d := lT (orL n m)) (hi := some ((3 : Nat) : Int)) rfl rfl rfl ?_) (slOk (d := lT (orL n m)) (lo := some (-3)) rfl rfl rfl ?_) ?_
    · exact (lst_to (by rw [List.length_map]; omega)).trans (by rw [← List.map_take])
    · show newL false (cutD _ (some (-3)) none) _ = _
      rw [cut_m3, List.length_map, ← List.map_drop, newL_f (by rw [List.length_map, List.length_drop]; omega)]
    · show newL false (_ ++ _) _ = _
      rw [← List.map_append, eS, newL_f (by rw [List.length_map, List.length_append, List.length_take, List.length_drop]; omega)]
  refine (cons_nx (for_ok (xs := SL.map fun X => tI X) (seq_ok (d := lT SL) s7 rfl) e7)).trans ?_
  obtain ⟨ws, ew⟩ : ∃ ws : List ((List Int) ⊕ (List Im × List Im)), ws = [.inl [], .inl (List.replicate n 0 ++ [1]), .inr ((sm n A).drop 1, sm m B), .inr ([], [])] := ⟨_, rfl⟩
  have t8 : (sLst false (saCons (sCall (makeD 1 true (f_Renaming_init (tbC ct K))) (saCons (sTup saNil) saNil)) (saCons (sCall (makeD 1 true (f_Renaming_init (tbC ct K))) (saCons (sOp (addD false) (sOp (mulD false) (sTup (saCons (sK (.int 0)) saNil)) (sUn (fldD (tbC ct K) 0) (sVar 1))) (sTup (saCons (sK (.int 1)) saNil))) saNil)) (saCons (sCall (makeD 2 true (f_Forms_init (tbC ct K))) (saCons (sSl false (sCall (f_form (tbC ct K)) (saCons (sVar 1) saNil)) (soSome (sK (.int 1))) soNone) (saCons (sCall (f_form (tbC ct K)) (saCons (sVar 2) saNil)) saNil))) (saCons (sCall (makeD 2 true (f_Forms_init (tbC ct K))) (saCons (sTup saNil) (saCons (sTup saNil) saNil))) saNil))))) (evp ns n m A B (some (lT (orL n m))) (some (lT (gd n m A B))) (some (fnd n m A B)) y6 none) (inB h) = .ok (.lst (ws.map wD)) (inB h) := by
    have nilT : ∀ {ρ : Ev}, (sTup saNil) ρ (inB h) = .ok (tI []) (inB h) := fun {ρ} => tup_ok (xs := []) rfl (Nat.zero_le _)
    have nilI : ∀ {ρ : Ev}, (sTup saNil) ρ (inB h) = .ok (dT []) (inB h) := fun {ρ} => tup_ok (xs := []) rfl (Nat.zero_le _)
    have e2 : (sOp (addD false) (sOp (mulD false) (sTup (saCons (sK (.int 0)) saNil)) (sUn (fldD (tbC ct K) 0) (sVar 1))) (sTup (saCons (sK (.int 1)) saNil))) (evp ns n m A B (some (lT (orL n m))) (some (lT (gd n m A B))) (some (fnd n m A B)) y6 none) (inB h) = .ok (tI (List.replicate n 0 ++ [1])) (inB h) := by
      refine op_ok (h1 := inB h) (h2 := inB h) (x := tI (List.replicate n 0)) (y := .tup [.int 1]) (op_ok (h1 := inB h) (h2 := inB h) (x := .tup [.int 0]) (y := .int n) (tup_ok (xs := [.int 0]) rfl (by show 1 ≤ sizeLine; omega)) (un_ok (x := oL n A) rfl (fld0 L)) (zeros_k n1 hn)) (tup_ok (xs := [.int 1]) rfl (by show 1 ≤ sizeLine; omega)) ?_
      show newT ((List.replicate n 0).map .int ++ [.int 1]) _ = _
      rw [newT_f (by rw [List.length_append, List.length_map, List.length_replicate, List.length_singleton]; omega)]
      show VI.R.ok (D.tup _) _ = VI.R.ok (D.tup ((List.replicate n (0 : Int) ++ [1]).map D.int)) _
      rw [List.map_append]
      rfl
    have e3 : (sSl false (sCall (f_form (tbC ct K)) (saCons (sVar 1) saNil)) (soSome (sK (.int 1))) soNone) (evp ns n m A B (some (lT (orL n m))) (some (lT (gd n m A B))) (some (fnd n m A B)) y6 none) (inB h) = .ok (dT ((sm n A).drop 1)) (inB h) := by
      refine slOk (d := dT (sm n A)) (lo := some ((1 : Nat) : Int)) (call_ok (h1 := inB h) (xs := [oL n A]) rfl (form_k HA hn)) rfl rfl ?_
      show newT (cutD _ (some ((1 : Nat) : Int)) none) _ = _
      rw [cut_from, ← List.map_drop, newT_f (by rw [List.length_map, List.length_drop]; omega)]
    rw [ew]
    exact lst_ok (xs := [rO [], rO (List.replicate n 0 ++ [1]), fO ((sm n A).drop 1) (sm m B), fO [] []]) (cons_ok (call_ok (h1 := inB h) (xs := [tI []]) (cons_ok nilT rfl) (make_r fun g => rfl)) (cons_ok (call_ok (h1 := inB h) (xs := [tI (List.replicate n 0 ++ [1])]) (cons_ok e2 rfl) (make_r fun g => rfl)) (cons_ok (call_ok (h1 := inB h) (xs := [dT ((sm n A).drop 1), dT (sm m B)]) (cons_ok e3 (cons_ok (call_ok (h1 := inB h) (xs := [oL m B]) rfl (form_k HB hm)) rfl)) make_f) (cons_ok (call_ok (h1 := inB h) (xs := [dT [], dT []]) (cons_ok nilI (cons_ok nilI rfl)) make_f) rfl)))) (by show 4 ≤ sizeLine; omega)
  refine (cons_nx (ρ1 := evp ns n m A B (some (lT (orL n m))) (some (lT (gd n m A B))) (some (fnd n m A B)) y6 (some (.lst (ws.map wD)))) (h1 := inB h) (asg_ok t8 rfl)).trans ?_
  have c9 : (sAnd (sOp (eqD true) (sVar 4) (sLst false saNil)) (sMeth 14 (fun c => List.lookup c [(1, (f_Renaming_shows (tbC ct K))), (2, (f_Forms_shows (tbC ct K)))]) (sCall (makeD 2 true (f_Forms_init (tbC ct K))) (saCons (sCall (f_form (tbC ct K)) (saCons (sVar 1) saNil)) (saCons (sCall (f_form (tbC ct K)) (saCons (sVar 2) saNil)) saNil))) (saCons (sVar 1) (saCons (sVar 2) saNil)))) (evp ns n m A B (some (lT (orL n m))) (some (lT (gd n m A B))) (some (fnd n m A B)) y6 (some (.lst (ws.map wD)))) (inB h) = .ok (.bl ((!decide (gd n m A B = [])) && false)) (inB h) := by
    refine and_ok gne fun z => ?_
    have neq : gd n m A B ≠ [] := by simpa using z
    obtain ⟨p, hp⟩ := List.exists_mem_of_ne_nil _ neq
    obtain ⟨q, _, _⟩ := gd_mem.mp hp
    subst q
    have sf := (same_form HA HB).mpr neq
    refine meth_f (C := sm n A) (E := sm n B) (xs := [oL n A, oL n B]) ff rfl ((fsh HA HB hn hm).trans ?_)
    rw [decide_eq_true rfl, decide_eq_true (show sm n A = sm n B from sf), decide_eq_true (show sm n B = sm n B from rfl), decide_eq_true (show n = n from rfl)]
    rfl
  rw [Bool.and_false] at c9
  refine (cons_nx ((if_f c9).trans rfl)).trans ?_
  have shF : ∀ w ∈ ws, ∃ ρ1, (sgName 8) (wD w) (wipeE (evp ns n m A B (some (lT (orL n m))) (some (lT (gd n m A B))) (some (fnd n m A B)) y6 (some (.lst (ws.map wD)))) [8]) (inB h) = .ok ρ1 (inB h) ∧ (sMeth 14 (fun c => List.lookup c [(1, (f_Renaming_shows (tbC ct K))), (2, (f_Forms_shows (tbC ct K)))]) (sVar 8) (saCons (sVar 1) (saCons (sVar 2) saNil))) ρ1 (inB h) = .ok (.bl ((fun _ => false) w)) (inB h) := fun w hw => by
    refine ⟨[some (.scr ns), some (oL n A), some (oL m B), some (lT (orL n m)), some (lT (gd n m A B)), some (fnd n m A B), y6, some (.lst (ws.map wD)), some (wD w)], rfl, ?_⟩
    have badX : ∀ X : List Int, X.length ≠ n → X.length ≤ 100 → f_Renaming_shows (tbC ct K) [rO X, oL n A, oL m B] (inB h) = .ok (.bl false) (inB h) := fun X hX xl => (rsh HA HB hn hm (.inr hX) xl).trans (by rw [decide_eq_false hX]; simp)
    have badF : ∀ C E : List Im, C ≠ sm n A → f_Forms_shows (tbC ct K) [fO C E, oL n A, oL m B] (inB h) = .ok (.bl false) (inB h) := fun C E hC => (fsh HA HB hn hm).trans (by rw [decide_eq_false hC]; simp)
    rw [ew] at hw
    simp only [List.mem_cons, List.not_mem_nil, or_false] at hw
    rcases hw with rfl | rfl | rfl | rfl
    · exact meth_r (X := []) (xs := [oL n A, oL m B]) rfl rfl (badX _ (by rw [List.length_nil]; omega) (Nat.zero_le _))
    · exact meth_r (X := List.replicate n 0 ++ [1]) (xs := [oL n A, oL m B]) rfl rfl (badX _ (by rw [List.length_append, List.length_replicate, List.length_singleton]; omega) (by rw [List.length_append, List.length_replicate, List.length_singleton]; omega))
    · exact meth_f (C := (sm n A).drop 1) (E := sm m B) (xs := [oL n A, oL m B]) rfl rfl (badF _ _ fun z => by have := congrArg List.length z; rw [List.length_drop] at this; omega)
    · exact meth_f (C := []) (E := []) (xs := [oL n A, oL m B]) rfl rfl (badF _ _ fun z => by have := congrArg List.length z; rw [List.length_nil] at this; omega)
  have eqF : ∀ w ∈ ws, ∃ ρ1, (sgName 8) (wD w) (wipeE (evp ns n m A B (some (lT (orL n m))) (some (lT (gd n m A B))) (some (fnd n m A B)) y6 (some (.lst (ws.map wD)))) [8]) (inB h) = .ok ρ1 (inB h) ∧ (sOp (eqW (tbC ct K) [(0, (f_Layout___eq__ (tbC ct K))), (1, (f_Renaming___eq__ (tbC ct K))), (2, (f_Forms___eq__ (tbC ct K)))]) (sVar 8) (sVar 5)) ρ1 (inB h) = .ok (.bl ((fun _ => false) w)) (inB h) := fun w hw => by
    refine ⟨[some (.scr ns), some (oL n A), some (oL m B), some (lT (orL n m)), some (lT (gd n m A B)), some (fnd n m A B), y6, some (.lst (ws.map wD)), some (wD w)], rfl, op_ok (h1 := inB h) (h2 := inB h) (x := wD w) (y := fnd n m A B) rfl rfl ?_⟩
    have c1 : (sm n A).drop 1 ≠ sm n A := fun z => by have := congrArg List.length z; rw [List.length_drop] at this; omega
    have c2 : ([] : List Im) ≠ sm n A := fun z => by have := congrArg List.length z; rw [List.length_nil] at this; omega
    rw [ew] at hw
    simp only [List.mem_cons, List.not_mem_nil, or_false] at hw
    cases e : gd n m A B with
    | nil =>
      have f : fnd n m A B = fO (sm n A) (sm m B) := by unfold fnd; rw [e]
      rw [f]
      rcases hw with rfl | rfl | rfl | rfl
      · exact eqW_rf
      · exact eqW_rf
      · exact eqW_ff.trans (by rw [decide_eq_false c1]; rfl)
      · exact eqW_ff.trans (by rw [decide_eq_false c2]; rfl)
    | cons p r =>
      have f : fnd n m A B = rO p := by unfold fnd; rw [e]
      have pl : p.length = n := by
        have mp : p ∈ gd n m A B := by rw [e]; exact List.mem_cons_self
        exact (gd_mem.mp mp).2.1.len
      rw [f]
      rcases hw with rfl | rfl | rfl | rfl
      · exact eqW_rr.trans (by rw [decide_eq_false (fun z => by have := congrArg List.length z; rw [List.length_nil] at this; omega)])
      · exact eqW_rr.trans (by rw [decide_eq_false (fun z => by have := congrArg List.length z; rw [List.length_append, List.length_replicate, List.length_singleton] at this; omega)])
      · exact eqW_fr
      · exact eqW_fr
  have wl : ws.length ≤ sizeLine := by rw [ew]; show 4 ≤ sizeLine; omega
  have anyF : ws.any (fun _ => false) = false := by rw [List.any_eq_false]; exact fun _ _ => by decide
  have g1 := any_emb (h := inB h) (own := [8]) (it := siSeq (sVar 7)) (ρ := evp ns n m A B (some (lT (orL n m))) (some (lT (gd n m A B))) (some (fnd n m A B)) y6 (some (.lst (ws.map wD)))) wD ws (fun _ => false) (seq_ok (d := .lst (ws.map wD)) rfl rfl) shF wl
  have g2 := any_emb (h := inB h) (own := [8]) (it := siSeq (sVar 7)) (ρ := evp ns n m A B (some (lT (orL n m))) (some (lT (gd n m A B))) (some (fnd n m A B)) y6 (some (.lst (ws.map wD)))) wD ws (fun _ => false) (seq_ok (d := .lst (ws.map wD)) rfl rfl) eqF wl
  rw [anyF] at g1 g2
  exact ret_ok (and_ok (a := !false) (b := !false) (not_ok g1) fun _ => not_ok g2)
end
end VI.K29
end
section
namespace VI.K29
open PySem PySem.Spec PyProof.Rows L2 VI VI.Std VI.Fl
open VI.Lay (itD ItOk LayT LayOk oL IsL rgI lT fld0 fld1)
open VI.Q (b1 b2 b2_0 b2_1 app_at ext_at b2_put0 b2_put1 two_new run_box take_b2)
section
variable {K : PySem.W.Frag} {h : Bs} {n m k : Nat} {its jts : List Im} {p X Y : List Int} {ρ : Ev} {d : D} {A B C E : List Im} {s t : Int}
def uq {α : Type} [DecidableEq α] (L : List α) : List α := (L.zipIdx.filter fun p => !decide (p.1 ∈ L.take p.2)).map (·.1)
theorem uq_snoc {α : Type} [DecidableEq α] (L : List α) (x : α) : uq (L ++ [x]) = uq L ++ if x ∈ L then [] else [x] := by
  unfold uq
  rw [List.zipIdx_append, List.filter_append, List.map_append]
  congr 1
  · congr 1
    refine List.filter_congr fun p hp => ?_
    obtain ⟨lt, _⟩ := VI.Q.mem_zipIdx hp
    rw [List.take_append_of_le_length (by omega)]
  · rw [Nat.zero_add]
    show (List.filter _ [(x, L.length)]).map _ = _
    by_cases q : x ∈ L
    · rw [if_pos q, List.filter_cons_of_neg (by rw [List.take_left]; simpa using q)]
      rfl
    · rw [if_neg q, List.filter_cons_of_pos (by rw [List.take_left]; simpa using q)]
      rfl
theorem uq_ok {α : Type} [DecidableEq α] : ∀ L : List α, (uq L.reverse).Nodup ∧ ∀ y, y ∈ uq L.reverse ↔ y ∈ L.reverse
  | [] => ⟨List.nodup_nil, fun y => Iff.rfl⟩
  | x :: L => by
    obtain ⟨nd, me⟩ := uq_ok L
    rw [List.reverse_cons, uq_snoc]
    by_cases q : x ∈ L.reverse
    · rw [if_pos q, List.append_nil]
      refine ⟨nd, fun y => ?_⟩
      rw [me, List.mem_append]
      constructor
      · exact .inl
      · rintro (z | z)
        · exact z
        · rw [List.mem_singleton.mp z]; exact q
    · rw [if_neg q]
      refine ⟨List.nodup_append.mpr ⟨nd, by simp, fun a ha b hb e => ?_⟩, fun y => ?_⟩
      · rw [List.mem_singleton.mp hb] at e
        exact q (e ▸ (me a).mp ha)
      · rw [List.mem_append, List.mem_append, me]
theorem uq_nd {α : Type} [DecidableEq α] (L : List α) : (uq L).Nodup := by
  have := (uq_ok L.reverse).1
  rwa [List.reverse_reverse] at this
theorem mem_uqG {α : Type} [DecidableEq α] {L : List α} {y : α} : y ∈ uq L ↔ y ∈ L := by
  have := (uq_ok L.reverse).2 y
  rwa [List.reverse_reverse] at this
noncomputable def rws (n : Nat) (A : List Im) (k : Nat) : List (List Int) := (List.range k).map fun (t : Nat) => orb n A t
theorem rws_succ : rws n A (k + 1) = rws n A k ++ [orb n A k] := by
  unfold rws
  rw [List.range_succ, List.map_append]
  rfl
theorem mem_uq {y : List Int} : ∀ k, y ∈ uq (rws n A k) ↔ y ∈ rws n A k
  | 0 => Iff.rfl
  | k + 1 => by
    rw [rws_succ, uq_snoc, List.mem_append, List.mem_append, mem_uq k]
    by_cases q : orb n A k ∈ rws n A k
    · rw [if_pos q]
      constructor
      · rintro (z | z)
        · exact .inl z
        · cases z
      · rintro (z | z)
        · exact .inl z
        · rw [List.mem_singleton.mp z]; exact .inl q
    · rw [if_neg q]
theorem mem_rws {y : List Int} : y ∈ rws n A k ↔ ∃ t, t < k ∧ orb n A (t : Nat) = y := by
  unfold rws
  rw [List.mem_map]
  exact ⟨fun ⟨t, a, b⟩ => ⟨t, List.mem_range.mp a, b⟩, fun ⟨t, a, b⟩ => ⟨t, List.mem_range.mpr a, b⟩⟩
theorem seen_iff (hA : Oks n A) (hk : k < n) : (k : Int) ∈ (uq (rws n A k)).flatten ↔ orb n A k ∈ rws n A k := by
  rw [List.mem_flatten]
  constructor
  · rintro ⟨r, hr, hm⟩
    obtain ⟨t, ht, rfl⟩ := mem_rws.mp ((mem_uq k).mp hr)
    have e := (orb_iff hA (s := (t : Int)) (t := (k : Int)) (by omega) (by omega) (by omega) (by omega)).mp hm
    exact mem_rws.mpr ⟨t, ht, e.symm⟩
  · intro h
    exact ⟨_, (mem_uq k).mpr h, orb_self hA (by omega) (by omega)⟩
theorem uq_len : ∀ k, (uq (rws n A k)).length ≤ k
  | 0 => Nat.le_refl _
  | k + 1 => by
    have := uq_len k
    rw [rws_succ, uq_snoc, List.length_append]
    split <;> simp <;> omega
theorem orb_len : (orb n A s).length ≤ n := by
  unfold orb
  refine Nat.le_trans (List.length_filter_le _ _) ?_
  rw [Lay.rgI_len]
  exact Nat.le_refl _
theorem fl_len : ∀ k, (uq (rws n A k)).flatten.length ≤ k * n
  | 0 => Nat.zero_le _
  | k + 1 => by
    have := fl_len k
    have := orb_len (n := n) (A := A) (s := k)
    rw [rws_succ, uq_snoc, List.flatten_append, List.length_append, Nat.succ_mul]
    split
    · show _ + 0 ≤ _
      omega
    · rw [List.flatten_singleton]
      omega
theorem orb_srt (h0 : 0 ≤ s) (h1 : s < n) : sortI (dedI ((own n A).map fun p => ap p s)) = orb n A s := by
  refine VI.Ec.sort_uni ((sortI_perm _).trans ?_) (sortI_sorted _) ?_
  · refine (List.perm_ext_iff_of_nodup ?_ ?_).mpr fun t => ?_
    · exact dedI_nodup _
    · unfold orb
      exact (rng_nodup n).filter _
    · rw [dedI_mem, mem_orb h0 h1, List.mem_map]
  · unfold orb
    refine List.Pairwise.filter _ ?_
    unfold rgI
    refine List.pairwise_map.mpr (List.pairwise_lt_range.imp fun {a b} h => ?_)
    omega
theorem in_box {x : Int} {A : List Int} {neg : Bool} {b : Nat} {h : Bs} (e : h.bs[b]? = some (.lst false (A.map .int))) : inD neg (.int x) (.ref b) h = .ok (.bl (if neg then !decide (x ∈ A) else decide (x ∈ A))) h := by
  have e2 : py pyN h (.ref b) = some (.list (A.map .int)) := by
    show (match h.bs[b]? with | some (.lst _ xs) => (mapO (py _ h) xs).map PyData.list | _ => none) = _
    rw [e]
    show (mapO (py _ h) (A.map .int)).map PyData.list = _
    rw [py_ints]; rfl
  simp only [inD, e2, any_int, show py pyN h (.int x) = some (.int x) from rfl]
theorem fac_24 (hn : n ≤ 4) : fac n ≤ 24 := by
  have : n = 0 ∨ n = 1 ∨ n = 2 ∨ n = 3 ∨ n = 4 := by omega
  rcases this with rfl | rfl | rfl | rfl | rfl <;> decide
theorem own_len (hn : n ≤ 4) : (own n A).length ≤ 24 := by
  have a := List.length_filter_le (fun p : List Int => decide (fm p A = sI A)) (ords n)
  have b := ords_len (n := n) (by omega)
  have c := fac_24 hn
  unfold own
  omega
noncomputable abbrev evk (n : Nat) (its : List Im) (b : Nat) (x4 x5 : Option D) : Ev := [some (oL n its), some (lT (own n its)), some (.ref b), some (.ref (b + 1)), x4, x5, none]
noncomputable abbrev boxk (h : Bs) (n : Nat) (its : List Im) (k : Nat) : Bs := b2 h ((uq (rws n its k)).map fun X => tI X) ((uq (rws n its k)).flatten.map .int)
theorem kinds_loop (H : LayOk n its) (hn : n ≤ 4) : ∀ (l k : Nat) (x4 x5 : Option D), k + l ≤ n → ∃ y4 y5, loopS (sgName 4) (l1_kinds (tbC ct K)) ((List.range' k l).map fun (i : Nat) => D.int i) (evk n its h.bs.length x4 x5) (boxk h n its k) = .nx (evk n its h.bs.length y4 y5) (boxk h n its (k + l))
  | 0, k, x4, x5, _ => ⟨x4, x5, rfl⟩
  | l + 1, k, x4, x5, hk => by
    have sz : (1000 : Nat) ≤ sizeLine := by decide
    have hA := oks H
    have ihh := fun x4 x5 => kinds_loop H hn l (k + 1) x4 x5 (by omega)
    have e1 : k + (l + 1) = k + 1 + l := by omega
    rw [e1, List.range'_succ, List.map_cons]
    have seen := seen_iff hA (k := k) (by omega)
    have cond : (sOp (inD true) (sVar 4) (sVar 3)) (evk n its h.bs.length (some (.int k)) x5) (boxk h n its k) = .ok (.bl (!decide ((k : Int) ∈ (uq (rws n its k)).flatten))) (boxk h n its k) := op_ok (h1 := boxk h n its k) (h2 := boxk h n its k) (x := .int k) (y := .ref (h.bs.length + 1)) rfl rfl ((in_box (neg := true) b2_1).trans rfl)
    by_cases q : orb n its k ∈ rws n its k
    · obtain ⟨y4, y5, ih⟩ := ihh (some (.int k)) x5
      have eb : boxk h n its (k + 1) = boxk h n its k := by
        show b2 h _ _ = b2 h _ _
        rw [rws_succ, uq_snoc, if_pos q, List.append_nil]
      rw [eb] at ih
      refine ⟨y4, y5, (loop_step (ρ1 := evk n its h.bs.length (some (.int k)) x5) (h1 := boxk h n its k) rfl ?_).trans ih⟩
      unfold l1_kinds
      refine (cons_nx (ρ1 := evk n its h.bs.length (some (.int k)) x5) (h1 := boxk h n its k) ?_).trans rfl
      rw [decide_eq_true (seen.mpr q)] at cond
      exact (if_f cond).trans rfl
    · obtain ⟨y4, y5, ih⟩ := ihh (some (.int k)) (some (lI (orb n its k)))
      have eb : boxk h n its (k + 1) = b2 h ((uq (rws n its k)).map (fun X => tI X) ++ [tI (orb n its k)]) ((uq (rws n its k)).flatten.map .int ++ (orb n its k).map .int) := by
        show b2 h _ _ = b2 h _ _
        rw [rws_succ, uq_snoc, if_neg q, List.map_append, List.flatten_append, List.map_append]
        congr 1
        simp
      rw [decide_eq_false (fun z => q (seen.mp z))] at cond
      refine ⟨y4, y5, (loop_step (ρ1 := evk n its h.bs.length (some (.int k)) x5) (h1 := boxk h n its k) rfl ?_).trans ih⟩
      unfold l1_kinds
      refine (cons_nx (ρ1 := evk n its h.bs.length (some (.int k)) (some (lI (orb n its k)))) (h1 := boxk h n its (k + 1)) ?_).trans rfl
      refine (if_t cond).trans ?_
      have ol := own_len (A := its) hn
      have lc : (sLc false [6] (siSeq (sVar 1)) (sgName 6) (fun _ h => .ok true h) (sOp ixD (sVar 6) (sVar 4))) (evk n its h.bs.length (some (.int k)) x5) (boxk h n its k) = .ok (lI ((own n its).map fun p => ap p k)) (boxk h n its k) := by
        refine lc_ok (h := boxk h n its k) (xs := (own n its).map fun X => tI X) (ys := ((own n its).map fun p => ap p k).map .int) (seq_ok (d := lT (own n its)) rfl rfl) ?_ (by rw [List.length_map, List.length_map]; omega)
        rw [List.map_map]
        exact lc_emb1 (fun X => tI X) (fun p => .int (ap p k)) (own n its) fun p hp => ⟨[some (oL n its), some (lT (own n its)), some (.ref h.bs.length), some (.ref (h.bs.length + 1)), some (.int k), x5, some (tI p)], rfl, op_ok (h1 := boxk h n its k) (h2 := boxk h n its k) (x := tI p) (y := .int k) rfl rfl (ix_p (mem_own.mp hp).1 (by omega) (by omega))⟩
      have sl : (sUn (srtSetL false) (sLc false [6] (siSeq (sVar 1)) (sgName 6) (fun _ h => .ok true h) (sOp ixD (sVar 6) (sVar 4)))) (evk n its h.bs.length (some (.int k)) x5) (boxk h n its k) = .ok (lI (orb n its k)) (boxk h n its k) := by
        refine un_ok lc ?_
        have z := orb_len (n := n) (A := its) (s := k)
        simp only [srtSetL, intsD_map, List.length_map]
        rw [if_pos (by omega), orb_srt (by omega) (by omega)]
        exact newL_f (by rw [List.length_map]; omega)
      refine (cons_nx (ρ1 := evk n its h.bs.length (some (.int k)) (some (lI (orb n its k)))) (h1 := boxk h n its k) (asg_ok sl rfl)).trans ?_
      have ul := uq_len (n := n) (A := its) k
      have fl := fl_len (n := n) (A := its) k
      have z := orb_len (n := n) (A := its) (s := k)
      have kn : k * n ≤ 4 * 4 := Nat.mul_le_mul (by omega) hn
      obtain ⟨M, eM⟩ : ∃ M : List D, M = (uq (rws n its k)).map (fun X => tI X) ++ [tI (orb n its k)] := ⟨_, rfl⟩
      refine (cons_nx (ρ1 := evk n its h.bs.length (some (.int k)) (some (lI (orb n its k)))) (h1 := b2 h M ((uq (rws n its k)).flatten.map .int)) (expr_ok (d := .non) (bm_ok (o := .ref h.bs.length) (xs := [tI (orb n its k)]) (h1 := boxk h n its k) (h2 := boxk h n its k) rfl (VI.Q.lst_at' b2_0) (cons_ok (call_ok (xs := [lI (orb n its k)]) rfl (tuple_lst (by rw [List.length_map]; omega))) rfl) ?_))).trans ?_
      · refine (app_at b2_0 (by rw [List.length_map]; omega) (VI.Mk.noR_tI _)).trans ?_
        rw [b2_put0, eM]
      · refine (cons_nx (ρ1 := evk n its h.bs.length (some (.int k)) (some (lI (orb n its k)))) (h1 := boxk h n its (k + 1)) (expr_ok (d := .non) (bm_ok (o := .ref (h.bs.length + 1)) (xs := [lI (orb n its k)]) (h1 := b2 h M ((uq (rws n its k)).flatten.map .int)) (h2 := b2 h M ((uq (rws n its k)).flatten.map .int)) rfl (VI.Q.lst_at' b2_1) rfl ?_))).trans rfl
        refine (ext_at b2_1 rfl (by rw [List.length_map, List.length_map]; omega) VI.Q.noRs_ints).trans ?_
        rw [b2_put1, eM, eb]
theorem kinds_k (H : LayOk n its) (hn : n ≤ 4) : f_kinds (tbC ct K) [oL n its] h = .ok (lT (uq (rws n its n))) h := by
  have L := layT (K := K)
  obtain ⟨y4, y5, e⟩ := kinds_loop (K := K) (h := inB h) H hn n 0 none none (by omega)
  rw [Nat.zero_add] at e
  refine run_box (b := h.bs.length) (hh := boxk (inB h) n its n) rfl ?_ take_b2 (Nat.le_refl _) (b2_0 (h := inB h)) (noDs_ch _)
  show s_kinds (tbC ct K) [some (oL n its), none, none, none, none, none, none] (inB h) = _
  unfold s_kinds
  refine (cons_nx (ρ1 := evk n its h.bs.length none none) (h1 := boxk (inB h) n its 0) (asg_ok (d := .tup [lT (own n its), .ref h.bs.length, .ref (h.bs.length + 1)]) (tup_ok (xs := [lT (own n its), .ref h.bs.length, .ref (h.bs.length + 1)]) (h1 := boxk (inB h) n its 0) ?_ (by show 3 ≤ sizeLine; decide)) rfl)).trans ?_
  · refine cons_ok (call_ok (xs := [oL n its]) rfl (own_k H (by omega))) ?_
    refine cons_ok (VI.Q.lst_box rfl (Nat.zero_le _)) (cons_ok ((VI.Q.lst_box rfl (Nat.zero_le _)).trans ?_) rfl)
    rw [VI.Q.b1_len, VI.Q.b1_b1]
    rfl
  · exact (cons_nx (for_ok (xs := (List.range' 0 n).map fun (i : Nat) => D.int i) (h1 := boxk (inB h) n its 0) (arg_ok (h1 := boxk (inB h) n its 0) (xs := [.int n]) (cons_ok (un_ok (x := oL n its) rfl (fld0 L)) rfl) ((rng_ok (by omega)).trans (by rw [List.range_eq_range']))) e)).trans (ret_ok rfl)
end
end VI.K29
end
section
namespace VI.K29
open PySem PySem.Spec PyProof.Rows L2 VI VI.Std VI.Fl
open VI.Lay (itD ItOk LayT LayOk oL IsL rgI lT fld0 fld1)
open VI.Q (b1 b1_at app_at b1_put)
section
variable {K : PySem.W.Frag} {h g0 : Bs} {n m k : Nat} {its jts : List Im} {p X Y ns : List Int} {ρ : Ev} {d : D} {A B C E : List Im} {s t : Int}
theorem uq_eq {L : List (List Int)} : uq L = (L.zipIdx.filter fun p => !decide (p.1 ∈ L.take p.2)).map (·.1) := by
  unfold uq
  congr 1
  exact List.filter_congr fun p _ => congrArg (!·) (decide_eq_decide.mpr Iff.rfl)
theorem runs_uq {A' : List (List Im)} : ((sL A').zipIdx.filter (fun p => decide (p.2 = 0) || !decide ((sL A').getD (p.2 - 1) [] = p.1))).map (·.1) = uq (sL A') := by
  unfold uq
  congr 1
  have so := srt_so (dE := dL) (pE := pL) A'
  refine List.filter_congr fun p hp => ?_
  obtain ⟨lt, e⟩ := VI.Q.mem_zipIdx hp
  by_cases z : p.2 = 0
  · rw [z, decide_eq_true rfl, List.take_zero]
    simp
  · rw [decide_eq_false z, Bool.false_or]
    congr 1
    refine decide_eq_decide.mpr ⟨fun h => ?_, fun h => ?_⟩
    · rw [← h]
      refine List.mem_take_iff_getElem.mpr ⟨p.2 - 1, by omega, ?_⟩
      rw [List.getD_eq_getElem?_getD, List.getElem?_eq_getElem (by omega)]
      rfl
    · obtain ⟨j, hj, ej⟩ := List.mem_take_iff_getElem.mp h
      have g : (sL A').getD (p.2 - 1) [] = (sL A')[p.2 - 1]'(by omega) := by
        rw [List.getD_eq_getElem?_getD, List.getElem?_eq_getElem (by omega)]
        rfl
      rw [g, e]
      have so' := List.pairwise_iff_getElem.mp so
      have up : leK (eE dL pL ((sL A')[p.2 - 1]'(by omega))) (eE dL pL (sL A')[p.2]) = true := so' (p.2 - 1) p.2 (by unfold sL at lt; omega) lt (by omega)
      refine le_anti encL up ?_
      by_cases q : j = p.2 - 1
      · subst q
        rw [← e, ← ej]
        exact Bool.or_self (leK _ _) ▸ leK_total _ _
      · have := so' j (p.2 - 1) (by unfold sL at lt; omega) (by unfold sL at lt; omega) (by omega)
        rw [← e, ← ej]
        exact this
theorem runs_ok (hn : n ≤ 5) (hA : Oks n A) : fac n = (((sL (forms n A)).zipIdx.filter (fun p => decide (p.2 = 0) || !decide ((sL (forms n A)).getD (p.2 - 1) [] = p.1))).map (·.1)).length * (own n A).length := by
  rw [runs_uq]
  refine named hn hA (uq_nd _) fun y => ?_
  rw [mem_uqG]
  exact (srt_perm (dE := dL) (pE := pL) (forms n A)).mem_iff
theorem lay_perm (H : LayOk n A) (q : A.Perm B) : LayOk n B := ⟨H.lo, H.hi, by have := H.ne; rw [← q.length_eq]; exact this, by have := H.few; rw [← q.length_eq]; exact this, fun i hi => H.ok i (q.mem_iff.mpr hi)⟩
theorem fm_perm : (fm p A).Perm (rnL p A) := srt_perm (dE := itD) (pE := pIt) (rnL p A)
theorem lay_up (H : LayOk n its) (hn : n < 8) : LayOk (n + 1) its := ⟨by have := H.lo; omega, by omega, H.ne, H.few, fun i hi => by
  have ok := H.ok i hi
  exact ⟨⟨ok.set.up, fun x hx => by have := ok.set.lo x hx; push_cast; omega⟩, ok.lo, ok.hi⟩⟩
theorem lc_box {own : List Nat} {it : SI} {g : SG} {tt : SB} {el : SV} {b : Nat} {zs xs ys : List D} (hb : h.bs[b]? = some (.lst false zs)) (e1 : it ρ h = .ok (xs, some b) h) (e2 : lcS g tt el (wipeE ρ own) xs (lockB b h) = .ok ys (lockB b h)) (hl : ys.length ≤ sizeLine) : sLc false own it g tt el ρ h = .ok (.lst ys) h := by
  unfold sLc
  rw [e1, bind_ok]
  show (unlR (some b) (lcS g tt el (wipeE ρ own) xs (lockB b h))).bind _ = _
  rw [e2]
  show newL false ys (unlB b (lockB b h)) = _
  rw [unl_lock hb, newL_f hl]
abbrev evl (ns : List Int) (x1 x2 x3 x4 x5 x6 x7 x8 x9 xa xb xc xd xe xf : Option D) : Ev := [some (.scr ns), x1, x2, x3, x4, x5, x6, x7, x8, x9, xa, xb, xc, xd, xe, xf, none, none, none]
noncomputable abbrev boxr (g0 : Bs) (n : Nat) (its : List Im) (k : Nat) : Bs := b1 g0 ((rws n its k).map fun X => tI X)
theorem rws_len : (rws n A k).length = k := by unfold rws; rw [List.length_map, List.length_range]
theorem rows_loop (H : LayOk n its) (hn : n ≤ 4) {x2 x3 x4 x5 : Option D} : ∀ (l k : Nat) (x8 xf : Option D), k + l ≤ n → ∃ y8 yf, loopS (sgName 8) (l11_law (tbC ct K)) ((List.range' k l).map fun (i : Nat) => D.int i) (evl ns (some (.int n)) x2 x3 x4 x5 (some (lT (own n its))) (some (.ref g0.bs.length)) x8 none none none none none none xf) (boxr g0 n its k) = .nx (evl ns (some (.int n)) x2 x3 x4 x5 (some (lT (own n its))) (some (.ref g0.bs.length)) y8 none none none none none none yf) (boxr g0 n its (k + l))
  | 0, k, x8, xf, _ => ⟨x8, xf, rfl⟩
  | l + 1, k, x8, xf, hk => by
    have sz : (1000 : Nat) ≤ sizeLine := by decide
    obtain ⟨y8, yf, ih⟩ := rows_loop H hn (x2 := x2) (x3 := x3) (x4 := x4) (x5 := x5) l (k + 1) (some (.int k)) (some (lI ((own n its).map fun p => ap p k))) (by omega)
    have e1 : k + (l + 1) = k + 1 + l := by omega
    rw [e1, List.range'_succ, List.map_cons]
    obtain ⟨g, eg⟩ : ∃ g, g = boxr g0 n its k := ⟨_, rfl⟩
    have gb : g.bs[g0.bs.length]? = some (.lst false ((rws n its k).map fun X => tI X)) := by rw [eg]; exact b1_at
    have gn : putL g0.bs.length ((rws n its k).map (fun X => tI X) ++ [tI (orb n its k)]) g = boxr g0 n its (k + 1) := by
      rw [eg, b1_put]
      show b1 g0 _ = b1 g0 _
      rw [rws_succ, List.map_append]
      rfl
    rw [← eg]
    refine ⟨y8, yf, (loop_step (ρ1 := evl ns (some (.int n)) x2 x3 x4 x5 (some (lT (own n its))) (some (.ref g0.bs.length)) (some (.int k)) none none none none none none xf) (h1 := g) rfl ?_).trans ih⟩
    unfold l11_law
    have ol := own_len (A := its) hn
    have zl := orb_len (n := n) (A := its) (s := k)
    refine (cons_nx (ρ1 := evl ns (some (.int n)) x2 x3 x4 x5 (some (lT (own n its))) (some (.ref g0.bs.length)) (some (.int k)) none none none none none none (some (lI ((own n its).map fun p => ap p k)))) (h1 := g) ?_).trans ?_
    · unfold t9_law
      refine asg_ok (d := lI ((own n its).map fun p => ap p k)) (lc_ok (h := g) (xs := (own n its).map fun X => tI X) (ys := ((own n its).map fun p => ap p k).map .int) (seq_ok (d := lT (own n its)) rfl rfl) ?_ (by rw [List.length_map, List.length_map]; omega)) rfl
      rw [List.map_map]
      exact lc_emb1 (fun X => tI X) (fun p => .int (ap p k)) (own n its) fun p hp => ⟨[some (.scr ns), some (.int n), x2, x3, x4, x5, some (lT (own n its)), some (.ref g0.bs.length), some (.int k), none, some (tI p), none, none, none, none, xf, none, none, none], rfl, op_ok (h1 := g) (h2 := g) (x := tI p) (y := .int k) rfl rfl (ix_p (mem_own.mp hp).1 (by omega) (by omega))⟩
    · refine (cons_nx (ρ1 := evl ns (some (.int n)) x2 x3 x4 x5 (some (lT (own n its))) (some (.ref g0.bs.length)) (some (.int k)) none none none none none none (some (lI ((own n its).map fun p => ap p k)))) (h1 := boxr g0 n its (k + 1)) ?_).trans rfl
      unfold t10_law
      have lc : (sLc false [18] (siArg itRng1 (saCons (sVar 1) saNil)) (sgName 18) (sTru (sOp (inD false) (sVar 18) (sVar 15))) (sVar 18)) (evl ns (some (.int n)) x2 x3 x4 x5 (some (lT (own n its))) (some (.ref g0.bs.length)) (some (.int k)) none none none none none none (some (lI ((own n its).map fun p => ap p k)))) g = .ok (lI (orb n its k)) g := by
        refine lc_ok (h := g) (xs := (rgI n).map .int) (ys := (orb n its k).map .int) (arg_ok (h1 := g) (xs := [.int n]) rfl (Lay.rng_I (by omega))) ?_ (by rw [List.length_map]; omega)
        refine lc_emb D.int (fun t => decide (t ∈ (own n its).map fun p => ap p k)) .int (rgI n) fun t ht => ⟨[some (.scr ns), some (.int n), x2, x3, x4, x5, some (lT (own n its)), some (.ref g0.bs.length), some (.int k), none, none, none, none, none, none, some (lI ((own n its).map fun p => ap p k)), none, none, some (.int t)], rfl, tru_ok (op_ok (h1 := g) (h2 := g) (x := .int t) (y := lI ((own n its).map fun p => ap p k)) rfl rfl ((in_lI (neg := false)).trans rfl)), fun _ => rfl⟩
      refine expr_ok (d := .non) (bm_ok (o := .ref g0.bs.length) (xs := [tI (orb n its k)]) (h1 := g) (h2 := g) rfl (VI.Q.lst_at' gb) (cons_ok (call_ok (xs := [lI (orb n its k)]) (cons_ok lc rfl) (tuple_lst (by rw [List.length_map]; omega))) rfl) ?_)
      refine (app_at gb (by rw [List.length_map, rws_len]; omega) (VI.Mk.noR_tI _)).trans ?_
      rw [gn]
theorem law_body (hl : ns.length ≤ 63) : ∃ g1, s_law (tbC ct K) (evl ns none none none none none none none none none none none none none none none) g0 = .rt (.bl true) g1 := by
  have sz : (10000 : Nat) ≤ sizeLine := by decide
  have L := layT (K := K)
  obtain ⟨z0, hz0'⟩ := Lay.num2 hl g0
  have hz0 : ∀ i : Int, 0 ≤ i → i < 2 ^ 63 → f__law_number (tbC ct K) [.scr ns, .int i] g0 = .ok (.int (z0 i)) g0 := hz0'
  obtain ⟨n, hn⟩ : ∃ n : Nat, (n : Int) = 1 + z0 0 % 4 := ⟨(1 + z0 0 % 4).toNat, by have := Int.emod_nonneg (z0 0) (b := 4) (by decide); omega⟩
  have nb : 1 ≤ n ∧ n ≤ 4 := by
    have := Int.emod_nonneg (z0 0) (b := 4) (by decide)
    have := Int.emod_lt_of_pos (z0 0) (b := 4) (by decide)
    omega
  obtain ⟨its, H, hm, e2⟩ := Lay.items_ok (h := g0) hl nb.1 (by omega) (at_ := 1) (most := 4) (by decide) (by decide) (by decide)
  have h8 := H.hi
  have hfew := H.few
  have n5 : n ≤ 5 := by omega
  have oA := oks H
  have ol : (ords n).length ≤ 24 := by rw [ords_len n5]; exact fac_24 nb.2
  have on : (ords n).length ≠ 0 := fun z => ords_ne (List.length_eq_zero_iff.mp z)
  have wl := own_len (A := its) nb.2
  obtain ⟨g1, eg1⟩ : ∃ g1, g1 = boxr g0 n its n := ⟨_, rfl⟩
  have gb : g1.bs[g0.bs.length]? = some (.lst false ((rws n its n).map fun X => tI X)) := by rw [eg1]; exact b1_at
  obtain ⟨z, hz'⟩ := Lay.num2 hl g1
  have hz : ∀ i : Int, 0 ≤ i → i < 2 ^ 63 → f__law_number (tbC ct K) [.scr ns, .int i] g1 = .ok (.int (z i)) g1 := hz'
  obtain ⟨m, hmm⟩ : ∃ m : Nat, (m : Int) = 1 + z 91 % 4 := ⟨(1 + z 91 % 4).toNat, by have := Int.emod_nonneg (z 91) (b := 4) (by decide); omega⟩
  have mb : 1 ≤ m ∧ m ≤ 4 := by
    have := Int.emod_nonneg (z 91) (b := 4) (by decide)
    have := Int.emod_lt_of_pos (z 91) (b := 4) (by decide)
    omega
  obtain ⟨jts, J, jm, e18⟩ := Lay.items_ok (h := g1) hl mb.1 (by omega) (at_ := 101) (most := 3) (by decide) (by decide) (by decide)
  obtain ⟨r, hr⟩ : ∃ r : Nat, (r : Int) = z 90 % ((ords n).length : Int) := ⟨(z 90 % ((ords n).length : Int)).toNat, by have := Int.emod_nonneg (z 90) (b := ((ords n).length : Int)) (by omega); omega⟩
  have rb : r < (ords n).length := by
    have := Int.emod_lt_of_pos (z 90) (b := ((ords n).length : Int)) (by omega)
    omega
  obtain ⟨p, ep⟩ : ∃ p, p = (ords n).getD r [] := ⟨_, rfl⟩
  have pm : p ∈ ords n := by
    rw [ep, List.getD_eq_getElem?_getD, List.getElem?_eq_getElem rb]
    exact List.getElem_mem rb
  have po := mem_ords.mp pm
  obtain ⟨tu, etu⟩ : ∃ tu, tu = (fm p its).reverse := ⟨_, rfl⟩
  have tup : (rnL p its).Perm tu := by rw [etu]; exact fm_perm.symm.trans (List.reverse_perm _).symm
  have TU : LayOk n tu := lay_perm (rows_ok po H) tup
  have W : LayOk (n + 1) its := lay_up H (by omega)
  obtain ⟨y8, yf, e11⟩ := rows_loop (K := K) (ns := ns) (g0 := g0) H nb.2 (x2 := some (dL its)) (x3 := some (lT (ords n))) (x4 := some (oL n its)) (x5 := some (dL (sm n its))) n 0 none none (by omega)
  rw [Nat.zero_add, ← eg1] at e11
  refine ⟨g1, ?_⟩
  unfold s_law
  refine (cons_nx (ρ1 := evl ns (some (.int n)) none none none none none none none none none none none none none none) (h1 := g0) ?_).trans ?_
  · unfold t1_law
    exact asg_ok (op_ok (x := .int 1) (y := .int (z0 0 % 4)) rfl (op_ok (x := .int (z0 0)) (y := .int 4) (call_ok (cons_ok (call_ok (h1 := g0) (xs := [.scr ns, .int 0]) rfl (hz0 0 (by decide) (by decide))) rfl) rfl) rfl (modI (by decide))) rfl) (by rw [← hn]; rfl)
  refine (cons_nx (ρ1 := evl ns (some (.int n)) (some (dL its)) (some (lT (ords n))) none none none none none none none none none none none none) (h1 := g0) ?_).trans ?_
  · unfold t2_law
    exact asg_ok (d := .tup [dL its, lT (ords n)]) (tup_ok (xs := [dL its, lT (ords n)]) (cons_ok (call_ok (h1 := g0) (xs := [.scr ns, .int 1, .int n, .int 4]) rfl e2) (cons_ok (call_ok (h1 := g0) (xs := [.int n]) rfl (lorders_k n5)) rfl)) two_le) rfl
  refine (cons_nx (ρ1 := evl ns (some (.int n)) (some (dL its)) (some (lT (ords n))) (some (oL n its)) none none none none none none none none none none none) (h1 := g0) ?_).trans ?_
  · unfold t3_law
    exact asg_ok (d := oL n its) (call_ok (h1 := g0) (xs := [.int n, dL its]) rfl (make_k H (.inl rfl))) rfl
  refine (cons_nx (ρ1 := evl ns (some (.int n)) (some (dL its)) (some (lT (ords n))) (some (oL n its)) (some (dL (sm n its))) none none none none none none none none none none) (h1 := g0) ?_).trans ?_
  · unfold t4_law
    have lc := forms_lc (h := g0) (ρ := evl ns (some (.int n)) (some (dL its)) (some (lT (ords n))) (some (oL n its)) none none none none none none none none none none none) (own := [10]) (g := sgName 10) (it := siSeq (sVar 3)) (el := sCall (f__law_renamed (tbC ct K)) (saCons (sVar 2) (saCons (sVar 10) saNil))) (its := its) (F := dL) n5 (seq_ok (d := lT (ords n)) rfl rfl) fun q hq => ⟨evl ns (some (.int n)) (some (dL its)) (some (lT (ords n))) (some (oL n its)) none none none none none (some (tI q)) none none none none none, rfl, call_ok (h1 := g0) (xs := [dL its, tI q]) rfl (lren_k H (mem_ords.mp hq) (.inl rfl))⟩
    exact asg_ok (d := dL (sm n its)) (call_ok (h1 := g0) (xs := [.lst ((forms n its).map dL)]) (cons_ok lc rfl) (min_L forms_ne)) rfl
  refine (cons_nx (ρ1 := evl ns (some (.int n)) (some (dL its)) (some (lT (ords n))) (some (oL n its)) (some (dL (sm n its))) none none none none none none none none none none) (h1 := g0) ?_).trans ?_
  · unfold t5_law
    exact (if_f (h1 := g0) (op_ok (h1 := g0) (h2 := g0) (x := dT (sm n its)) (y := dT (sm n its)) (call_ok (h1 := g0) (xs := [oL n its]) rfl (form_k H n5)) (call_ok (h1 := g0) (xs := [dL (sm n its)]) rfl (tuple_lst (by rw [List.length_map, sm_len]; omega))) ((eq_itsT (neg := true)).trans (by simp)))).trans rfl
  refine (cons_nx (ρ1 := evl ns (some (.int n)) (some (dL its)) (some (lT (ords n))) (some (oL n its)) (some (dL (sm n its))) (some (lT (own n its))) none none none none none none none none none) (h1 := g0) ?_).trans ?_
  · unfold t6_law
    refine asg_ok (d := lT (own n its)) (lc_ok (h := g0) (xs := (ords n).map fun X => tI X) (ys := (own n its).map fun X => tI X) (seq_ok (d := lT (ords n)) rfl rfl) ?_ (by rw [List.length_map]; omega)) rfl
    unfold own
    refine lc_emb (fun X => tI X) (fun p => decide (fm p its = sI its)) (fun X => tI X) (ords n) fun q hq => ⟨evl ns (some (.int n)) (some (dL its)) (some (lT (ords n))) (some (oL n its)) (some (dL (sm n its))) none none none none (some (tI q)) none none none none none, rfl, tru_ok (op_ok (h1 := g0) (h2 := g0) (x := dL (fm q its)) (y := dL (sI its)) (call_ok (h1 := g0) (xs := [dL its, tI q]) rfl (lren_k H (mem_ords.mp hq) (.inl rfl))) (call_ok (h1 := g0) (xs := [dL its]) rfl (sort_its (by omega))) ((eq_itsL (neg := false)).trans rfl)), fun _ => rfl⟩
  refine (cons_nx (ρ1 := evl ns (some (.int n)) (some (dL its)) (some (lT (ords n))) (some (oL n its)) (some (dL (sm n its))) (some (lT (own n its))) none none none none none none none none none) (h1 := g0) ?_).trans ?_
  · unfold t7_law
    exact (if_f (h1 := g0) (op_ok (h1 := g0) (h2 := g0) (x := lT (own n its)) (y := lT (own n its)) (call_ok (h1 := g0) (xs := [oL n its]) rfl (own_k H n5)) rfl ((eq_lTn (neg := true)).trans (by simp)))).trans rfl
  refine (cons_nx (ρ1 := evl ns (some (.int n)) (some (dL its)) (some (lT (ords n))) (some (oL n its)) (some (dL (sm n its))) (some (lT (own n its))) (some (.ref g0.bs.length)) none none none none none none none none) (h1 := boxr g0 n its 0) ?_).trans ?_
  · unfold t8_law
    exact asg_ok (VI.Q.lst_box (xs := []) rfl (Nat.zero_le _)) rfl
  refine (cons_nx (ρ1 := evl ns (some (.int n)) (some (dL its)) (some (lT (ords n))) (some (oL n its)) (some (dL (sm n its))) (some (lT (own n its))) (some (.ref g0.bs.length)) y8 none none none none none none yf) (h1 := g1) ?_).trans ?_
  · unfold t11_law
    exact for_ok (xs := (List.range' 0 n).map fun (i : Nat) => D.int i) (h1 := boxr g0 n its 0) (arg_ok (h1 := boxr g0 n its 0) (xs := [.int n]) rfl ((rng_ok (by omega)).trans (by rw [List.range_eq_range']))) e11
  refine (cons_nx (ρ1 := evl ns (some (.int n)) (some (dL its)) (some (lT (ords n))) (some (oL n its)) (some (dL (sm n its))) (some (lT (own n its))) (some (.ref g0.bs.length)) y8 none none none none none none yf) (h1 := g1) ?_).trans ?_
  · unfold t12_law
    have ul := uq_len (n := n) (A := its) n
    have lc : (sLc false [16, 17] (siArg itEnum2 (saCons (sVar 7) saNil)) (sgTup 2 (sgCons (sgName 16) (sgCons (sgName 17) sgNil))) (sTru (sOp (inD true) (sVar 17) (sSl false (sVar 7) soNone (soSome (sVar 16))))) (sVar 17)) (evl ns (some (.int n)) (some (dL its)) (some (lT (ords n))) (some (oL n its)) (some (dL (sm n its))) (some (lT (own n its))) (some (.ref g0.bs.length)) y8 none none none none none none yf) g1 = .ok (lT (uq (rws n its n))) g1 := by
      refine lc_box (h := g1) (b := g0.bs.length) gb (xs := (rws n its n).zipIdx.map fun q => D.tup [.int q.2, tI q.1]) (ys := (uq (rws n its n)).map fun X => tI X) ?_ ?_ (by rw [List.length_map]; omega)
      · refine arg_ok (h1 := g1) (xs := [.ref g0.bs.length]) rfl ?_
        have e : itSeq (.ref g0.bs.length) g1 = .ok ((rws n its n).map (fun X => tI X), some g0.bs.length) g1 := by simp only [itSeq, gb]
        unfold itEnum2
        simp only [e]
        rw [VI.Q.enum_map]
      · obtain ⟨g2, eg2⟩ : ∃ g2, g2 = lockB g0.bs.length g1 := ⟨_, rfl⟩
        have lb : lstOf g2 (.ref g0.bs.length) = some ((rws n its n).map fun X => tI X) := by
          rw [eg2, lock_eq gb]
          simp only [lstOf]
          rw [List.getElem?_set_self (List.getElem?_eq_some_iff.mp gb).1]
        rw [← eg2]
        rw [uq_eq, List.map_map]
        refine lc_emb (h := g2) (g := sgTup 2 (sgCons (sgName 16) (sgCons (sgName 17) sgNil))) (tt := sTru (sOp (inD true) (sVar 17) (sSl false (sVar 7) soNone (soSome (sVar 16))))) (el := sVar 17) (fun q : List Int × Nat => D.tup [.int q.2, tI q.1]) (fun q => !decide (q.1 ∈ (rws n its n).take q.2)) (fun q => tI q.1) (rws n its n).zipIdx fun q hq => ⟨[some (.scr ns), some (.int n), some (dL its), some (lT (ords n)), some (oL n its), some (dL (sm n its)), some (lT (own n its)), some (.ref g0.bs.length), y8, none, none, none, none, none, none, yf, some (.int q.2), some (tI q.1), none], rfl, ?_, fun _ => rfl⟩
        refine tru_ok (op_ok (h1 := g2) (h2 := g2) (x := tI q.1) (y := lT ((rws n its n).take q.2)) rfl (slOk (d := .ref g0.bs.length) (hi := some (q.2 : Int)) rfl rfl rfl ?_) ((in_lT (neg := true)).trans rfl))
        simp only [slD, lb]
        rw [cut_nat (by omega), Int.toNat_natCast, ← List.map_take, newL_f (by rw [List.length_map, List.length_take, rws_len]; omega)]
    exact (if_f (h1 := g1) (op_ok (h1 := g1) (h2 := g1) (x := lT (uq (rws n its n))) (y := lT (uq (rws n its n))) (call_ok (h1 := g1) (xs := [oL n its]) rfl (kinds_k H nb.2)) lc ((eq_lTn (neg := true)).trans (by simp)))).trans rfl
  refine (cons_nx (ρ1 := evl ns (some (.int n)) (some (dL its)) (some (lT (ords n))) (some (oL n its)) (some (dL (sm n its))) (some (lT (own n its))) (some (.ref g0.bs.length)) y8 (some (.lst ((sL (forms n its)).map dL))) none none none none none yf) (h1 := g1) ?_).trans ?_
  · unfold t13_law
    have lc := forms_lc (h := g1) (ρ := evl ns (some (.int n)) (some (dL its)) (some (lT (ords n))) (some (oL n its)) (some (dL (sm n its))) (some (lT (own n its))) (some (.ref g0.bs.length)) y8 none none none none none none yf) (own := [10]) (g := sgName 10) (it := siSeq (sVar 3)) (el := sCall (f__law_renamed (tbC ct K)) (saCons (sVar 2) (saCons (sVar 10) saNil))) (its := its) (F := dL) n5 (seq_ok (d := lT (ords n)) rfl rfl) fun q hq => ⟨evl ns (some (.int n)) (some (dL its)) (some (lT (ords n))) (some (oL n its)) (some (dL (sm n its))) (some (lT (own n its))) (some (.ref g0.bs.length)) y8 none (some (tI q)) none none none none yf, rfl, call_ok (h1 := g1) (xs := [dL its, tI q]) rfl (lren_k H (mem_ords.mp hq) (.inl rfl))⟩
    exact asg_ok (d := .lst ((sL (forms n its)).map dL)) (call_ok (h1 := g1) (xs := [.lst ((forms n its).map dL)]) (cons_ok lc rfl) (sort_L forms_ne (by unfold forms; rw [List.length_map]; omega))) rfl
  refine (cons_nx (ρ1 := evl ns (some (.int n)) (some (dL its)) (some (lT (ords n))) (some (oL n its)) (some (dL (sm n its))) (some (lT (own n its))) (some (.ref g0.bs.length)) y8 (some (.lst ((sL (forms n its)).map dL))) none none none none none yf) (h1 := g1) ?_).trans ?_
  · unfold t14_law
    obtain ⟨S, eS⟩ : ∃ S, S = sL (forms n its) := ⟨_, rfl⟩
    have Sl : S.length ≤ 24 := by rw [eS]; unfold sL; rw [srt_len]; unfold forms; rw [List.length_map]; exact ol
    have cnt := runs_ok n5 oA
    rw [← eS] at cnt ⊢
    obtain ⟨V, eV⟩ : ∃ V, V = (S.zipIdx.filter (fun p => decide (p.2 = 0) || !decide (S.getD (p.2 - 1) [] = p.1))).map (·.1) := ⟨_, rfl⟩
    rw [← eV] at cnt
    have Vl : V.length ≤ 24 := by
      rw [eV, List.length_map]
      refine Nat.le_trans (List.length_filter_le _ _) ?_
      rw [List.length_zipIdx]
      exact Sl
    have lc : (sLc false [16, 17] (siArg itEnum2 (saCons (sVar 9) saNil)) (sgTup 2 (sgCons (sgName 16) (sgCons (sgName 17) sgNil))) (sTru (sOr (sOp (eqD false) (sVar 16) (sK (.int 0))) (sOp (eqD true) (sOp ixD (sVar 9) (sOp subD (sVar 16) (sK (.int 1)))) (sVar 17)))) (sVar 17)) (evl ns (some (.int n)) (some (dL its)) (some (lT (ords n))) (some (oL n its)) (some (dL (sm n its))) (some (lT (own n its))) (some (.ref g0.bs.length)) y8 (some (.lst (S.map dL))) none none none none none yf) g1 = .ok (.lst (V.map dL)) g1 := by
      refine lc_ok (h := g1) (xs := S.zipIdx.map fun q => D.tup [.int q.2, dL q.1]) (ys := V.map dL) (arg_ok (h1 := g1) (xs := [.lst (S.map dL)]) rfl ?_) ?_ (by rw [List.length_map]; omega)
      · show VI.R.ok (enumL 0 (S.map dL), none) g1 = _
        rw [VI.Q.enum_map]
      · rw [eV, List.map_map]
        refine lc_emb (fun q : List Im × Nat => D.tup [.int q.2, dL q.1]) (fun p => decide (p.2 = 0) || !decide (S.getD (p.2 - 1) [] = p.1)) _ S.zipIdx fun q hq => ⟨[some (.scr ns), some (.int n), some (dL its), some (lT (ords n)), some (oL n its), some (dL (sm n its)), some (lT (own n its)), some (.ref g0.bs.length), y8, some (.lst (S.map dL)), none, none, none, none, none, yf, some (.int q.2), some (dL q.1), none], rfl, ?_, fun _ => rfl⟩
        obtain ⟨lt, _⟩ := VI.Q.mem_zipIdx hq
        refine tru_ok (or_ok (op_ok (h1 := g1) (h2 := g1) (x := .int q.2) (y := .int 0) rfl rfl ((eq_ints (neg := false)).trans (by rw [if_neg (by decide), show decide ((q.2 : Int) = 0) = decide (q.2 = 0) from decide_eq_decide.mpr (by omega)]))) fun h0 => ?_)
        have q0 : q.2 ≠ 0 := of_decide_eq_false h0
        refine op_ok (h1 := g1) (h2 := g1) (x := dL (S.getD (q.2 - 1) [])) (y := dL q.1) (op_ok (h1 := g1) (h2 := g1) (x := .lst (S.map dL)) (y := .int ((q.2 - 1 : Nat) : Int)) rfl (op_ok (h1 := g1) (h2 := g1) (x := .int q.2) (y := .int 1) rfl rfl (by rw [show ((q.2 - 1 : Nat) : Int) = (q.2 : Int) - 1 by omega]; rfl)) ?_) rfl ((eq_itsL (neg := true)).trans rfl)
        have ga : (S.map dL)[q.2 - 1]? = some (dL (S.getD (q.2 - 1) [])) := by
          rw [List.getElem?_map, List.getElem?_eq_getElem (by omega), List.getD_eq_getElem?_getD, List.getElem?_eq_getElem (by omega)]
          rfl
        simp only [ixD, seqOf, lstOf]
        rw [atI_get ga]
    refine (if_f (h1 := g1) (op_ok (h1 := g1) (h2 := g1) (x := .int V.length) (y := .int V.length) (call_ok (h1 := g1) (xs := [oL n its]) rfl (count_k H n5 cnt)) (call_ok (h1 := g1) (xs := [.lst (V.map dL)]) (cons_ok lc rfl) ?_) ((eq_ints (neg := true)).trans (by simp)))).trans rfl
    show VI.R.ok (D.int ((V.map dL).length : Nat)) g1 = _
    rw [List.length_map]
  refine (cons_nx (ρ1 := evl ns (some (.int n)) (some (dL its)) (some (lT (ords n))) (some (oL n its)) (some (dL (sm n its))) (some (lT (own n its))) (some (.ref g0.bs.length)) y8 (some (.lst ((sL (forms n its)).map dL))) (some (tI p)) none none none none yf) (h1 := g1) ?_).trans ?_
  · unfold t15_law
    refine asg_ok (d := tI p) (op_ok (h1 := g1) (h2 := g1) (x := lT (ords n)) (y := .int r) rfl (op_ok (h1 := g1) (h2 := g1) (x := .int (z 90)) (y := .int (ords n).length) (call_ok (h1 := g1) (xs := [.int (z 90)]) (cons_ok (call_ok (h1 := g1) (xs := [.scr ns, .int 90]) rfl (hz 90 (by decide) (by decide))) rfl) rfl) (call_ok (h1 := g1) (xs := [lT (ords n)]) rfl (VI.Q.IsR.len (.inl rfl))) ((modI (by omega)).trans (by rw [hr]))) ((VI.Q.IsR.ix (.inl rfl) rb).trans (by rw [ep]))) rfl
  refine (cons_nx (ρ1 := evl ns (some (.int n)) (some (dL its)) (some (lT (ords n))) (some (oL n its)) (some (dL (sm n its))) (some (lT (own n its))) (some (.ref g0.bs.length)) y8 (some (.lst ((sL (forms n its)).map dL))) (some (tI p)) (some (oL n tu)) none none none yf) (h1 := g1) ?_).trans ?_
  · unfold t16_law
    refine asg_ok (d := oL n tu) (call_ok (h1 := g1) (xs := [.int n, dL tu]) (cons_ok rfl (cons_ok (un_ok (x := dL (fm p its)) (call_ok (h1 := g1) (xs := [dL its, tI p]) rfl (lren_k H po (.inl rfl))) ?_) rfl)) (make_k TU (.inl rfl))) rfl
    show newL false ((fm p its).map itD).reverse g1 = _
    rw [← List.map_reverse, ← etu, newL_f (by rw [List.length_map]; have := TU.few; omega)]
  refine (cons_nx (ρ1 := evl ns (some (.int n)) (some (dL its)) (some (lT (ords n))) (some (oL n its)) (some (dL (sm n its))) (some (lT (own n its))) (some (.ref g0.bs.length)) y8 (some (.lst ((sL (forms n its)).map dL))) (some (tI p)) (some (oL n tu)) (some (.int m)) none none yf) (h1 := g1) ?_).trans ?_
  · unfold t17_law
    exact asg_ok (op_ok (x := .int 1) (y := .int (z 91 % 4)) rfl (op_ok (x := .int (z 91)) (y := .int 4) (call_ok (cons_ok (call_ok (h1 := g1) (xs := [.scr ns, .int 91]) rfl (hz 91 (by decide) (by decide))) rfl) rfl) rfl (modI (by decide))) rfl) (by rw [← hmm]; rfl)
  refine (cons_nx (ρ1 := evl ns (some (.int n)) (some (dL its)) (some (lT (ords n))) (some (oL n its)) (some (dL (sm n its))) (some (lT (own n its))) (some (.ref g0.bs.length)) y8 (some (.lst ((sL (forms n its)).map dL))) (some (tI p)) (some (oL n tu)) (some (.int m)) (some (oL m jts)) none yf) (h1 := g1) ?_).trans ?_
  · unfold t18_law
    exact asg_ok (d := oL m jts) (call_ok (h1 := g1) (xs := [.int m, dL jts]) (cons_ok rfl (cons_ok (call_ok (h1 := g1) (xs := [.scr ns, .int 101, .int m, .int 3]) rfl e18) rfl)) (make_k J (.inl rfl))) rfl
  obtain ⟨ρ9, eρ⟩ : ∃ ρ9, ρ9 = evl ns (some (.int n)) (some (dL its)) (some (lT (ords n))) (some (oL n its)) (some (dL (sm n its))) (some (lT (own n its))) (some (.ref g0.bs.length)) y8 (some (.lst ((sL (forms n its)).map dL))) (some (tI p)) (some (oL n tu)) (some (.int m)) (some (oL m jts)) (some (oL (n + 1) its)) yf := ⟨_, rfl⟩
  have v0 : ρ9[0]? = some (some (.scr ns)) := by rw [eρ]; rfl
  have v4 : ρ9[4]? = some (some (oL n its)) := by rw [eρ]; rfl
  have v11 : ρ9[11]? = some (some (oL n tu)) := by rw [eρ]; rfl
  have v13 : ρ9[13]? = some (some (oL m jts)) := by rw [eρ]; rfl
  have v14 : ρ9[14]? = some (some (oL (n + 1) its)) := by rw [eρ]; rfl
  refine (cons_nx (ρ1 := ρ9) (h1 := g1) ?_).trans ?_
  · rw [eρ]
    unfold t19_law
    exact asg_ok (d := oL (n + 1) its) (call_ok (h1 := g1) (xs := [.int ((n + 1 : Nat) : Int), dL its]) rfl (make_k W (.inl rfl))) rfl
  have two : ∀ {i j : Nat} {a b : D}, ρ9[i]? = some (some a) → ρ9[j]? = some (some b) → (saCons (sVar i) (saCons (sVar j) saNil)) ρ9 g1 = .ok [a, b] g1 := fun e1 e2 => cons_ok (var_ok e1) (cons_ok (var_ok e2) rfl)
  have three : ∀ {i j : Nat} {a b : D}, ρ9[i]? = some (some a) → ρ9[j]? = some (some b) → (saCons (sVar 0) (saCons (sVar i) (saCons (sVar j) saNil))) ρ9 g1 = .ok [.scr ns, a, b] g1 := fun e1 e2 => cons_ok (var_ok v0) (two e1 e2)
  have gp : p ∈ gd n n its tu := gd_mem.mpr ⟨rfl, po, fm_alk.mpr tup⟩
  have gn : gd n n its tu ≠ [] := fun z => by rw [z] at gp; cases gp
  have sf : sm n its = sm n tu := sm_alk po oA (oks TU) tup
  refine (cons_nx (ρ1 := ρ9) (h1 := g1) ?_).trans ?_
  · unfold t20_law
    refine (if_f (h1 := g1) (or_ok (a := !true) (b := false) (not_ok ((call_ok (h1 := g1) (xs := [oL n its, oL n tu]) (two v4 v11) (alike_k H TU n5 n5)).trans (by rw [decide_eq_false gn]; rfl))) fun _ => or_ok (a := false) (b := false) ?_ fun _ => (call_ok (h1 := g1) (xs := [oL n its, oL (n + 1) its]) (two v4 v14) (alike_k H W n5 (by omega))).trans ?_)).trans rfl
    · exact op_ok (h1 := g1) (h2 := g1) (x := dT (sm n tu)) (y := dT (sm n its)) (call_ok (h1 := g1) (xs := [oL n tu]) (cons_ok (var_ok v11) rfl) (form_k TU n5)) (call_ok (h1 := g1) (xs := [oL n its]) (cons_ok (var_ok v4) rfl) (form_k H n5)) ((eq_itsT (neg := true)).trans (by rw [sf]; simp))
    · have : gd n (n + 1) its its = [] := if_neg (by omega)
      rw [this]
      rfl
  refine (cons_nx (ρ1 := ρ9) (h1 := g1) ?_).trans ?_
  · unfold t21_law
    exact (if_f (h1 := g1) (or_ok (a := !true) (b := !true) (not_ok (call_ok (h1 := g1) (xs := [.scr ns, oL n its, oL n tu]) (three v4 v11) (pair_k H TU n5 n5))) fun _ => not_ok (call_ok (h1 := g1) (xs := [.scr ns, oL n its, oL (n + 1) its]) (three v4 v14) (pair_k H W n5 (by omega))))).trans rfl
  unfold t22_law
  exact ret_ok (and_ok (a := true) (b := true) (call_ok (h1 := g1) (xs := [.scr ns, oL n its, oL m jts]) (three v4 v13) (pair_k H J n5 (by omega))) fun _ => call_ok (h1 := g1) (xs := [.scr ns, oL m jts, oL n tu]) (three v13 v11) (pair_k J TU (by omega) n5))
theorem plain (K : PySem.W.Frag) (ns : List Int) (hl : ns.length ≤ 63) : ∃ h, f_law (tbC ct K) [.scr ns] bs0 = .ok (.bl true) h := by
  obtain ⟨g1, e⟩ := law_body (K := K) (g0 := inB bs0) hl
  refine ⟨outB bs0 g1, ?_⟩
  unfold f_law runFn
  rw [if_pos (by rfl), show slots 19 [D.scr ns] = evl ns none none none none none none none none none none none none none none none from rfl, e]
  rfl
end
end VI.K29
end
section
namespace VI.K29
open PySem PySem.Spec PyProof.Rows L2 VI
theorem zok {w : World} {K : PySem.W.Frag} {h base : Heap} {mg : Str → Option Value} (X : K.In h) (G : h.Ns mainGlobals mg) (c : SaysC ct fa fn K) : Cfg.Ok ⟨tbC ct K, Rr.prog, w, mg, base⟩ tx where
  ok := tbC_ok (by decide +kernel) (by decide +kernel) c.ct
  fr := fun x e => by
    simp only [tx, List.contains_cons, List.contains_nil, Bool.or_false, Bool.or_eq_true, beq_iff_eq] at e
    rcases e with rfl | rfl | rfl | rfl | rfl | rfl | rfl | rfl | rfl | rfl | rfl | rfl | rfl | rfl
    · exact He.free_ok X G (c.d.fact 32 (f := .free "all") rfl)
    · exact He.free_ok X G (c.d.fact 33 (f := .free "any") rfl)
    · exact He.free_ok X G (c.d.fact 34 (f := .free "bool") rfl)
    · exact He.free_ok X G (c.d.fact 35 (f := .free "enumerate") rfl)
    · exact He.free_ok X G (c.d.fact 36 (f := .free "int") rfl)
    · exact He.free_ok X G (c.d.fact 37 (f := .free "isinstance") rfl)
    · exact He.free_ok X G (c.d.fact 38 (f := .free "len") rfl)
    · exact He.free_ok X G (c.d.fact 39 (f := .free "list") rfl)
    · exact He.free_ok X G (c.d.fact 40 (f := .free "min") rfl)
    · exact He.free_ok X G (c.d.fact 41 (f := .free "range") rfl)
    · exact He.free_ok X G (c.d.fact 42 (f := .free "set") rfl)
    · exact He.free_ok X G (c.d.fact 43 (f := .free "sorted") rfl)
    · exact He.free_ok X G (c.d.fact 44 (f := .free "tuple") rfl)
    · exact He.free_ok X G (c.d.fact 45 (f := .free "zip") rfl)
  co := fun x i e => by
    simp only [tx, List.lookup_cons, List.lookup_nil] at e
    split at e
    · rename_i q; rw [beq_iff_eq] at q; subst q; cases e; exact He.int_ok X G (c.d.fact 46 (f := .int "MOST_SERVERS" 8) rfl)
    split at e
    · rename_i q; rw [beq_iff_eq] at q; subst q; cases e; exact He.int_ok X G (c.d.fact 47 (f := .int "MOST_ITEMS" 10) rfl)
    split at e
    · rename_i q; rw [beq_iff_eq] at q; subst q; cases e; exact He.int_ok X G (c.d.fact 48 (f := .int "MOST_RENAMED" 6) rfl)
    cases e
  cl := fun i x e => by
    match i, e with
    | 0, rfl => exact ⟨_, rfl, He.glo_ok X G (c.d.fact 49 (f := .glo "Layout") rfl), He.keep_ok (c.d.fact 50 (f := .keep "Layout") rfl)⟩
    | 1, rfl => exact ⟨_, rfl, He.glo_ok X G (c.d.fact 51 (f := .glo "Renaming") rfl), He.keep_ok (c.d.fact 52 (f := .keep "Renaming") rfl)⟩
    | 2, rfl => exact ⟨_, rfl, He.glo_ok X G (c.d.fact 53 (f := .glo "Forms") rfl), He.keep_ok (c.d.fact 54 (f := .keep "Forms") rfl)⟩
    | _ + 3, e => exact nomatch (show (none : Option Str) = some x from e)
  ex := fun i x b e => by
    exact nomatch (show (none : Option (Str × Bool)) = some (x, b) from e)
  att := fun i x e => ⟨by show ct.att.getD i "" = x; rw [List.getD_eq_getElem?_getD, show ct.att[i]? = some x from e]; rfl, (List.getElem?_eq_some_iff.mp (show ct.att[i]? = some x from e)).1⟩
theorem dat {w : World} {K : PySem.W.Frag} {h base : Heap} {mg : Str → Option Value} (X : K.In h) (G : h.Ns mainGlobals mg) (c : SaysC ct fa fn K) (i : Nat) (x : Str) (st : Stmt) (e : fn[i]? = some ⟨(x, none), x, x, defArgs st, defBody st, defScope st, [], []⟩) (e2 : fa[i]? = some (.glo x)) : DefAt ⟨tbC ct K, Rr.prog, w, mg, base⟩ x st := by
  obtain ⟨fd, F⟩ := c.d.def_ i e
  exact ⟨_, fd, F, He.glo_ok X G (c.d.fact i e2)⟩
theorem mdat {w : World} {K : PySem.W.Frag} {base : Heap} {mg : Str → Option Value} (c : SaysC ct fa fn K) (i j : Nat) (C x q : Str) (st : Stmt) (ec : ct.cls[j]? = some C) (ej : clsC ct j = some C) (e : fn[i]? = some ⟨(C, some x), x, q, defArgs st, defBody st, defScope st, [], []⟩) (e2 : fa[i]? = some (.meth C x)) : MDef ⟨tbC ct K, Rr.prog, w, mg, base⟩ j x q st := by
  obtain ⟨fd, F⟩ := c.d.def_ i e
  have k := c.ct
  unfold ctOk at k
  have k1 := List.all_eq_true.mp (He.ba (He.ba k).2).1 C (List.mem_of_getElem? ec)
  refine ⟨He.ga K C, _, fd, F, ?_, He.cls_ok (He.ba k1).1, He.meth_ok (c.d.fact i e2)⟩
  show (clsC ct j).map (He.ga K) = some (He.ga K C)
  rw [ej]; rfl
theorem idat {w : World} {K : PySem.W.Frag} {h base : Heap} {mg : Str → Option Value} (X : K.In h) (G : h.Ns mainGlobals mg) (c : SaysC ct fa fn K) (i j g : Nat) (C q : Str) (st : Stmt) (ec : ct.cls[j]? = some C) (ej : clsC ct j = some C) (e : fn[i]? = some ⟨(C, some "__init__"), "__init__", q, defArgs st, defBody st, defScope st, [], []⟩) (e2 : fa[i]? = some (.mkr C)) (e3 : fa[g]? = some (.glo C)) : IDef ⟨tbC ct K, Rr.prog, w, mg, base⟩ C j q st := by
  obtain ⟨fd, F⟩ := c.d.def_ i e
  refine ⟨He.ga K C, _, fd, F, ?_, He.mkr_ok (c.d.fact i e2), He.glo_ok X G (c.d.fact g e3)⟩
  show (clsC ct j).map (He.ga K) = some (He.ga K C)
  rw [ej]; rfl
theorem facts {w : World} {K : PySem.W.Frag} {h : Heap} {mg : Str → Option Value} {f : Addr} (X : K.In h) (G : h.Ns mainGlobals mg) (hfa : mg ("law" : Str) = some (.ref f)) (c : SaysC ct fa fn K) :
    ∃ fd : FuncData, (∀ (s : Shared) (v : Value), BindsTo s fd ⟨[v], []⟩ [("_law_script", v)]) ∧ ∀ base : Heap, K.In base → base.Ns mainGlobals mg → FnOk Rr.prog w K mg base (L2.CX Rr.prog w) 9 f fd ["_law_script"] (spF (tbC ct K) (f_law (tbC ct K))) := by
  obtain ⟨fd, F⟩ := c.d.def_ 31 (d := dd_law) rfl
  have e := hfa.symm.trans (He.glo_ok X G (c.d.fact 31 (f := .glo "law") rfl))
  cases e
  have b := FunD.bindsA (ps := ["_law_script"]) F fun _ _ _ _ _ _ us hl => match us, hl with | [_], _ => rfl
  refine ⟨fd, fun s v => b s [v] rfl, fun base _ _ => ?_⟩
  have z : Cfg.Ok ⟨tbC ct K, Rr.prog, w, mg, base⟩ tx := zok X G c
  have G__law_number := g__law_number z (dat X G c 0 "_law_number" d__law_number rfl rfl)
  have G__law_items := g__law_items z (dat X G c 1 "_law_items" d__law_items rfl rfl) G__law_number
  have G__law_orders := g__law_orders z (dat X G c 2 "_law_orders" d__law_orders rfl rfl)
  have G_is_number := g_is_number z (dat X G c 3 "is_number" d_is_number rfl rfl)
  have G_is_set := g_is_set z (dat X G c 4 "is_set" d_is_set rfl rfl) G_is_number
  have G_is_item := g_is_item z (dat X G c 5 "is_item" d_is_item rfl rfl) G_is_number G_is_set
  have K_Layout := g_Layout_init z (idat X G c 6 0 49 "Layout" "Layout.__init__" d_Layout_init rfl rfl rfl rfl rfl) G_is_number G_is_item
  have G__law_renamed := g__law_renamed z (dat X G c 7 "_law_renamed" d__law_renamed rfl rfl)
  have G_check_layout := g_check_layout z (dat X G c 8 "check_layout" d_check_layout rfl rfl)
  have G_check_few := g_check_few z (dat X G c 9 "check_few" d_check_few rfl rfl) G_check_layout
  have G_orders_of := g_orders_of z (dat X G c 10 "orders_of" d_orders_of rfl rfl)
  have G_form_by := g_form_by z (dat X G c 11 "form_by" d_form_by rfl rfl)
  have G_smallest := g_smallest z (dat X G c 12 "smallest" d_smallest rfl rfl) G_orders_of G_form_by
  have G_form := g_form z (dat X G c 13 "form" d_form rfl rfl) G_check_few G_smallest
  have G_own_renamings := g_own_renamings z (dat X G c 14 "own_renamings" d_own_renamings rfl rfl) G_check_few G_orders_of G_form_by
  have G_kinds := g_kinds z (dat X G c 15 "kinds" d_kinds rfl rfl) G_own_renamings
  have G_factorial := g_factorial z (dat X G c 16 "factorial" d_factorial rfl rfl)
  have G_count_named := g_count_named z (dat X G c 17 "count_named" d_count_named rfl rfl) G_own_renamings G_factorial
  have G_check_two := g_check_two z (dat X G c 18 "check_two" d_check_two rfl rfl) G_check_few
  have K_Renaming := g_Renaming_init z (idat X G c 19 1 51 "Renaming" "Renaming.__init__" d_Renaming_init rfl rfl rfl rfl rfl)
  have K_Forms := g_Forms_init z (idat X G c 20 2 53 "Forms" "Forms.__init__" d_Forms_init rfl rfl rfl rfl rfl)
  have G_compare_layouts := g_compare_layouts z (dat X G c 21 "compare_layouts" d_compare_layouts rfl rfl) G_orders_of G_form_by G_smallest G_check_two K_Renaming K_Forms
  have G_are_alike := g_are_alike z (dat X G c 22 "are_alike" d_are_alike rfl rfl) G_compare_layouts
  have G_is_order := g_is_order z (dat X G c 23 "is_order" d_is_order rfl rfl) G_is_number
  have M_Layout_renamed := g_Layout_renamed z (mdat c 24 0 "Layout" "renamed" "Layout.renamed" d_Layout_renamed rfl rfl rfl rfl) K_Layout G_is_order
  have M_Renaming_shows := g_Renaming_shows z (mdat c 25 1 "Renaming" "shows" "Renaming.shows" d_Renaming_shows rfl rfl rfl rfl) G_check_two G_is_order M_Layout_renamed
  have M_Forms_shows := g_Forms_shows z (mdat c 26 2 "Forms" "shows" "Forms.shows" d_Forms_shows rfl rfl rfl rfl) G_smallest G_check_two
  have M_Layout___eq__ := g_Layout___eq__ z (mdat c 27 0 "Layout" "__eq__" "Layout.__eq__" d_Layout___eq__ rfl rfl rfl rfl)
  have M_Renaming___eq__ := g_Renaming___eq__ z (mdat c 28 1 "Renaming" "__eq__" "Renaming.__eq__" d_Renaming___eq__ rfl rfl rfl rfl)
  have M_Forms___eq__ := g_Forms___eq__ z (mdat c 29 2 "Forms" "__eq__" "Forms.__eq__" d_Forms___eq__ rfl rfl rfl rfl)
  have G__law_pair_right := g__law_pair_right z (dat X G c 30 "_law_pair_right" d__law_pair_right rfl rfl) G__law_orders G__law_renamed G_form K_Renaming K_Forms G_compare_layouts G_are_alike M_Renaming_shows M_Forms_shows M_Layout___eq__ M_Renaming___eq__ M_Forms___eq__
  exact fn_sound (T := tbC ct K) (ss := s_law (tbC ct K)) (N := ["_law_script", "_law_servers", "_law_items_here", "_law_orders_here", "_law_layout", "_law_smallest_now", "_law_own", "_law_rows", "_law_server", "_law_named", "_law_order", "_law_turned", "_law_more", "_law_other", "_law_wide", "_law_names", "_law_at", "_law_row", "_law_late"]) (ps := ["_law_script"]) F (S := ⟨rfl, rfl, rfl, by decide +kernel, rfl, by decide +kernel, by decide +kernel⟩) fun cdv A outer s H E hr => b_law G__law_number G__law_items G__law_orders K_Layout G__law_renamed G_form G_own_renamings G_kinds G_count_named G_are_alike G__law_pair_right ⟨z, rfl, rfl, rfl, rfl, rfl, rfl, by decide +kernel, rfl, rfl, fun _ _ => rfl, rfl, hr, takes_of rfl rfl rfl rfl, passes_of rfl, fun _ => ⟨rfl, rfl, rfl⟩⟩
end VI.K29
open PySem PySem.W PySem.Calls PyProof.Rows
theorem PySem.Challenge.cw_copylots_k29_whole_alike_holds : PySem.Challenge.rw_copylots_k29_whole_alike.Holds := by
  w_on; o_law
  refine HandSHeadRun.head_any (r := OpenLaw.row PySem.Challenge.rw_copylots_k29_whole_alike) (q := view (OpenLaw.row PySem.Challenge.rw_copylots_k29_whole_alike).prog [44]) (H := VI.K29.hk) (ob := VI.K29.ob) (M := 4000) (loose := VI.K29.loose) (d := HandSHeadRun.topDef (OpenLaw.row PySem.Challenge.rw_copylots_k29_whole_alike).prog 44) (kwd := []) VI.K29.ob_eq
    (by kernel_rfl) (fun s => by kernel_rfl) VI.K29.run (by kernel_rfl) (by kernel_rfl) (by kernel_rfl) (by rfl) (by first | assumption | decide +kernel) (by decide +kernel) ⟨rfl, rfl, rfl, rfl, rfl, by decide +kernel⟩ ?hw ?hc
  case hw => w_witness2
  case hc =>
    refine VI.walk_w (l := PySem.Challenge.rw_copylots_k29_whole_alike) (n := 63) (k := 9) (x := "_law_script") rfl (by decide) (by kernel_rfl) ⟨rfl, by decide, by decide⟩ ?_
    intro w mg fa h Y G hmg0
    obtain ⟨K, KX, c⟩ := Y
    have hmg : mg ("law" : PySem.Str) = some (.ref fa) := by
      have e : (HandSHeadRun.topDef (OpenLaw.row PySem.Challenge.rw_copylots_k29_whole_alike).prog 44).name = ("law" : PySem.Str) := by kernel_rfl
      rw [← e]
      exact hmg0
    obtain ⟨fd, hb, hF⟩ := VI.K29.facts (w := w) KX G hmg c
    exact ⟨K, fd, _, KX, hb, fun H a ns hl hS => VI.start_ok (T := VI.tbC VI.K29.ct K) hS (VI.K29.plain K ns hl).choose_spec, hF⟩
end
