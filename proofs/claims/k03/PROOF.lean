import PyProof.Rows.All
import PySem.Challenge.RW_otherpace_k03_whole_powers_obey_the_bott
import Wide.All
import OpenK.AllK
import Wide.FinOn
import HandS.ForMost
import HandS.Walk
import HandS.Zip
import HandS.Conv
import HandS.TupAny
import HandS.TupMul
import HandS.IsInst
import HandS.Wide
import HandS.Defaults
import HandS.TryMany
import HandS.ExcInit
import HandS.ExcOwn
import HandS.WordsExc
import HandS.Gcd
import HandS.SortInts
import HandS.Style
import HandS.HeadEnd
import HandS.HeadHook1
import HandS.HeadHook2
import HandS.HeadHook3
import HandS.Head0
import HandS.Head1
import HandS.Head2
import KE.KStateDown
import KE.DataMinMax
import KE.DataCmp
import HandS.Lambda
import HandS.EndTab
import KE.GoesEnum
import HandS.ExcSuper
import HandS.ExcField
import KE.KDictZip
import HandS.Head3
import PyProof.Claim2Refuses
import PyProof.ListNew
import HandS.Star
import HandS.ExcValue
import PyProof.ReprRoads
import PyProof.FitsInt
import PyProof.StrLawsRepr
import PyProof.StrOps2
import KE.GoesNew
import HandS.ExcIs
import KE.KExcIs
set_option Elab.async false
set_option linter.all false
set_option maxRecDepth 100000
namespace DL
open PySem PySem.Spec PyProof.Rows L2
/-- the defs of the top that make lambdas, and where the table of each one's code object stands (a law's own: filled in) -/
def lamTabs : List (Str × Nat) := []
/-- the tables, and the name that their code objects bear -/
def tbs : List (Addr × Str) := lamTabs.map fun p => (p.2, p.1 ++ ".<locals>." ++ "<lambda>")
/-- the code objects and their tables -/
def tcs (K : PySem.W.Frag) : List (Addr × Addr) := lamTabs.filterMap fun p => PySem.W.tabIn K p.1
theorem tbs_of {H : Hp} (h : ∀ p ∈ lamTabs, H p.2 = some (.tbl #[])) : LamX.Tabs tbs H := by
  intro p hp
  obtain ⟨x, hx, e⟩ := List.mem_map.mp hp
  rw [← e]
  exact .nil (h x hx)
/-- the tables of the law's defs over a base -/
def TBs (K : PySem.W.Frag) (mg : Str → Option Value) (base : Heap) : Prop := ∀ p ∈ lamTabs, ∃ c, PySem.W.tabIn K p.1 = some (c, p.2) ∧ LamX.TabB base mg c p.2
end DL
set_option Elab.async false
set_option linter.all false
set_option maxRecDepth 100000
set_option maxHeartbeats 1000000
namespace DL
open PySem PySem.Spec PyProof.Rows L2

abbrev D := PyData
abbrev Fg := PySem.W.Frag
abbrev Sl := List (Option V)

/-! ### what never changes in the heap -/
def Fz : HO → Prop
  | .tup _ => True
  | .rng _ _ => True
  | .xd _ => True
  | .frz _ _ => True
  | .ext _ => True
  | _ => False
structure Ez (H H' : Hp) : Prop where
  fz : ∀ a u, H a = some u → Fz u → H' a = some u
  tb : LamX.Tabs tbs H → LamX.Tabs tbs H'
instance (H H' : Hp) : CoeFun (Ez H H') fun _ => ∀ a u, H a = some u → Fz u → H' a = some u := ⟨Ez.fz⟩
theorem Ez.refl (H : Hp) : Ez H H := ⟨fun _ _ h _ => h, fun h => h⟩
theorem Ez.trans {H H1 H2 : Hp} (h : Ez H H1) (h' : Ez H1 H2) : Ez H H2 := ⟨fun a u e z => h' a u (h a u e z) z, fun t => h'.tb (h.tb t)⟩
/-- what is not a table and no code object may change, the tables stay -/
theorem tab_but {H H' : Hp} (k : ∀ a u, H a = some u → (∀ xs, u ≠ .lst xs) → (∀ ks, u ≠ .dK ks) → H' a = some u) (t : LamX.Tabs tbs H) : LamX.Tabs tbs H' := by
  intro p hp
  obtain ⟨ps, h1, h2, h3⟩ := t p hp
  refine ⟨ps, k _ _ h1 (fun _ z => by cases z) (fun _ z => by cases z), h2, fun pos cv hc => ?_⟩
  obtain ⟨c, e1, e2⟩ := h3 pos cv hc
  exact ⟨c, e1, k _ _ e2 (fun _ z => by unfold LamX.CodeO at z; cases z) (fun _ z => by unfold LamX.CodeO at z; cases z)⟩

/-- a list that is read only: it is locked -/
def LstZ (_ : Fg) (H : Hp) (a : Addr) (xs : List V) : Prop := ∃ o, H a = some (.frz o (.lst xs))
def TupZ (K : Fg) (H : Hp) (a : Addr) (xs : List V) : Prop :=
  H a = some (.tup xs) ∨ (∃ o, H a = some (.frz o (.tup xs))) ∨ ∀ G : Hp, SqT K G a xs
theorem LstZ.sq {K : Fg} {H : Hp} {a : Addr} {xs : List V} (h : LstZ K H a xs) : SqL K H a xs := .inl (.inr h)
theorem TupZ.sq {K : Fg} {H : Hp} {a : Addr} {xs : List V} (h : TupZ K H a xs) : SqT K H a xs := by
  rcases h with h | ⟨o, h⟩ | h
  · exact .inl (.inl h)
  · exact .inl (.inr ⟨o, h⟩)
  · exact h H
theorem TupZ.of {K : Fg} {H : Hp} {a : Addr} {xs : List V} (h : SqT K H a xs) : TupZ K H a xs := by
  rcases h with (h | ⟨o, h⟩) | h
  · exact .inl h
  · exact .inr (.inl ⟨o, h⟩)
  · exact .inr (.inr fun G => .inr h)
theorem LstZ.mono {K : Fg} {H H' : Hp} {a : Addr} {xs : List V} (z : Ez H H') (h : LstZ K H a xs) : LstZ K H' a xs := by
  obtain ⟨o, h⟩ := h
  exact ⟨o, z _ _ h trivial⟩
theorem TupZ.mono {K : Fg} {H H' : Hp} {a : Addr} {xs : List V} (z : Ez H H') (h : TupZ K H a xs) : TupZ K H' a xs := by
  rcases h with h | ⟨o, h⟩ | h
  · exact .inl (z _ _ h trivial)
  · exact .inr (.inl ⟨o, z _ _ h trivial⟩)
  · exact .inr (.inr h)

/-! ### things of one own class, the class House, that are only handed on -/
abbrev hsA (K : Fg) : Addr := He.ga K "House"
def hsTs : List String := ["int", "bool", "str", "tuple", "list", "dict"]
structure HsC (K : Fg) : Prop where
  cl : Cls K (hsA K)
  ha : PySem.W.findIn K (.ref (hsA K)) "__class__" = some (some (.builtin "object.__class__"))
  hn : PySem.W.specialIn K (.builtin "object.__class__") "__get__" = some (some (.builtin "getset_descriptor.__get__"))
  htk : PySem.W.takesIn K (.builtin "object.__class__") = some true
  hm : PySem.W.mroIn K (hsA K) (.type "object") = some true
  ty : ∀ T ∈ hsTs, PySem.W.kitOne K (.ref (hsA K)) (.type T) = some false
  own : PySem.W.kitOne K (.ref (hsA K)) (.ref (hsA K)) = some true
  no : ∀ T ∈ "NoneType" :: hsTs, PySem.W.kitOne K (.type T) (.ref (hsA K)) = some false
abbrev hsD : D := .dict [(.bool false, .none)]
/-! ### data behind a value: nothing of it is ever written -/
def kD : Key → D
  | .inl i => .int i
  | .inr x => .str x
mutual
inductive Rep (K : Fg) (H : Hp) : V → D → Prop
  | non : Rep K H .non .none
  | bl (b : Bool) : Rep K H (.bl b) (.bool b)
  | int (i : Int) : Rep K H (.int i) (.int i)
  | str (x : Str) : Rep K H (.str x) (.str x)
  | lst {a : Addr} {xs : List V} {ds : List D} : LstZ K H a xs → RepAll K H xs ds → Rep K H (.ref a) (.list ds)
  | tup {a : Addr} {xs : List V} {ds : List D} : TupZ K H a xs → RepAll K H xs ds → Rep K H (.ref a) (.tuple ds)
  | dct {a : Addr} {o : Obj} {ks : List (Key × V)} {kvs : List (D × D)} : H a = some (.frz o (.dK ks)) → RepKV K H ks kvs → Rep K H (.ref a) (.dict kvs)
  | rng {a : Addr} {lo hi : Int} : H a = some (.rng lo hi) → Rep K H (.ref a) (.dict [(.none, .tuple [.int lo, .int hi])])
  | xv {a dd : Addr} {f : Str} {v : V} {d : D} : H dd = some (.xd [(f, v)]) → Rep K H v d → Rep K H (.ref a) (.dict [(.bool true, .tuple [.int (a : Nat), .int (dd : Nat), .str f, d])])
  | hs {a dx : Addr} {o : Obj} {fs : List (Str × V)} : H a = some (.frz o (.ins (hsA K) dx fs)) → HsC K → Rep K H (.ref a) hsD
inductive RepAll (K : Fg) (H : Hp) : List V → List D → Prop
  | nil : RepAll K H [] []
  | cons {v : V} {vs : List V} {d : D} {ds : List D} : Rep K H v d → RepAll K H vs ds → RepAll K H (v :: vs) (d :: ds)
inductive RepKV (K : Fg) (H : Hp) : List (Key × V) → List (D × D) → Prop
  | nil : RepKV K H [] []
  | cons {k : Key} {v : V} {ks : List (Key × V)} {d : D} {kvs : List (D × D)} : Rep K H v d → RepKV K H ks kvs → RepKV K H ((k, v) :: ks) ((kD k, d) :: kvs)
end
section
variable {K : Fg} {H H' : Hp}
mutual
theorem Rep.mono (z : Ez H H') : ∀ {v : V} {d : D}, Rep K H v d → Rep K H' v d
  | _, _, .non => .non
  | _, _, .bl b => .bl b
  | _, _, .int i => .int i
  | _, _, .str x => .str x
  | _, _, .lst h r => .lst (h.mono z) (RepAll.mono z r)
  | _, _, .tup h r => .tup (h.mono z) (RepAll.mono z r)
  | _, _, .dct h r => .dct (z _ _ h trivial) (RepKV.mono z r)
  | _, _, .rng h => .rng (z _ _ h trivial)
  | _, _, .xv h r => .xv (z _ _ h trivial) (Rep.mono z r)
  | _, _, .hs h r => .hs (z _ _ h trivial) r
theorem RepAll.mono (z : Ez H H') : ∀ {v : List V} {d : List D}, RepAll K H v d → RepAll K H' v d
  | _, _, .nil => .nil
  | _, _, .cons h r => .cons (Rep.mono z h) (RepAll.mono z r)
theorem RepKV.mono (z : Ez H H') : ∀ {v : List (Key × V)} {d : List (D × D)}, RepKV K H v d → RepKV K H' v d
  | _, _, .nil => .nil
  | _, _, .cons h r => .cons (Rep.mono z h) (RepKV.mono z r)
end
theorem RepAll.length : ∀ {vs : List V} {ds : List D}, RepAll K H vs ds → vs.length = ds.length
  | _, _, .nil => rfl
  | _, _, .cons _ r => congrArg (· + 1) (RepAll.length r)
theorem RepAll.get : ∀ {vs : List V} {ds : List D} {i : Nat} {v : V}, RepAll K H vs ds → vs[i]? = some v → ∃ d, ds[i]? = some d ∧ Rep K H v d
  | _, _, 0, _, .cons h _, e => by simp at e; subst e; exact ⟨_, rfl, h⟩
  | _, _, i + 1, v, .cons _ r, e => by
    obtain ⟨d, h1, h2⟩ := RepAll.get (i := i) (v := v) r (by simpa using e)
    exact ⟨d, by simpa using h1, h2⟩
theorem RepAll.getD : ∀ {vs : List V} {ds : List D} {i : Nat} {d : D}, RepAll K H vs ds → ds[i]? = some d → ∃ v, vs[i]? = some v ∧ Rep K H v d
  | _, _, 0, _, .cons h _, e => by simp at e; subst e; exact ⟨_, rfl, h⟩
  | _, _, i + 1, v, .cons _ r, e => by
    obtain ⟨d, h1, h2⟩ := RepAll.getD (i := i) (d := v) r (by simpa using e)
    exact ⟨d, by simpa using h1, h2⟩
theorem RepAll.append : ∀ {vs ws : List V} {ds es : List D}, RepAll K H vs ds → RepAll K H ws es → RepAll K H (vs ++ ws) (ds ++ es)
  | _, _, _, _, .nil, s => s
  | _, _, _, _, .cons h r, s => .cons h (RepAll.append r s)
theorem RepAll.take : ∀ {vs : List V} {ds : List D} (n : Nat), RepAll K H vs ds → RepAll K H (vs.take n) (ds.take n)
  | _, _, 0, _ => .nil
  | _, _, _ + 1, .nil => .nil
  | _, _, n + 1, .cons h r => .cons h (RepAll.take n r)
theorem RepAll.drop : ∀ {vs : List V} {ds : List D} (n : Nat), RepAll K H vs ds → RepAll K H (vs.drop n) (ds.drop n)
  | _, _, 0, r => r
  | _, _, _ + 1, .nil => .nil
  | _, _, n + 1, .cons _ r => RepAll.drop n r
theorem RepAll.reverse {vs : List V} {ds : List D} (r : RepAll K H vs ds) : RepAll K H vs.reverse ds.reverse := by
  induction vs generalizing ds with
  | nil => cases r; exact .nil
  | cons v vs ih =>
    cases r with
    | cons h r => rw [List.reverse_cons, List.reverse_cons]; exact (ih r).append (.cons h .nil)
theorem RepAll.rep {vs : List V} {ds : List D} (r : RepAll K H vs ds) : ∀ k : Nat, RepAll K H (List.replicate k vs).flatten (List.replicate k ds).flatten
  | 0 => .nil
  | k + 1 => by
    rw [List.replicate_succ, List.replicate_succ, List.flatten_cons, List.flatten_cons]
    exact r.append (RepAll.rep r k)
theorem RepAll.set {v : V} {d : D} (h : Rep K H v d) : ∀ {vs : List V} {ds : List D} (i : Nat), RepAll K H vs ds → RepAll K H (vs.set i v) (ds.set i d)
  | _, _, _, .nil => .nil
  | _, _, 0, .cons _ r => .cons h r
  | _, _, i + 1, .cons q r => .cons q (RepAll.set h i r)
theorem RepAll.eraseIdx : ∀ {vs : List V} {ds : List D} (i : Nat), RepAll K H vs ds → RepAll K H (vs.eraseIdx i) (ds.eraseIdx i)
  | _, _, _, .nil => .nil
  | _, _, 0, .cons _ r => r
  | _, _, i + 1, .cons q r => .cons q (RepAll.eraseIdx i r)
theorem RepAll.ints : ∀ (ns : List Int), RepAll K H (ns.map V.int) (ns.map PyData.int)
  | [] => .nil
  | n :: ns => .cons (.int n) (RepAll.ints ns)
theorem RepAll.to_ints : ∀ {vs : List V} {ns : List Int}, RepAll K H vs (ns.map PyData.int) → vs = ns.map V.int
  | _, [], .nil => rfl
  | _, n :: ns, .cons h r => by cases h; rw [RepAll.to_ints r]; rfl
theorem RepAll.to_bls : ∀ {vs : List V} {bs : List Bool}, RepAll K H vs (bs.map PyData.bool) → vs = bs.map V.bl
  | _, [], .nil => rfl
  | _, n :: ns, .cons h r => by cases h; rw [RepAll.to_bls r]; rfl
theorem RepAll.to_strs : ∀ {vs : List V} {bs : List Str}, RepAll K H vs (bs.map PyData.str) → vs = bs.map V.str
  | _, [], .nil => rfl
  | _, n :: ns, .cons h r => by cases h; rw [RepAll.to_strs r]; rfl
end

/-! ### data that is owned: lists and dicts down to a depth may be written -/
inductive All3 (R : V → D → List Addr → Prop) : List V → List D → List Addr → Prop
  | nil : All3 R [] [] []
  | cons {v : V} {vs : List V} {d : D} {ds : List D} {f fs : List Addr} : R v d f → All3 R vs ds fs → All3 R (v :: vs) (d :: ds) (f ++ fs)
inductive AllK (R : V → D → List Addr → Prop) : List (Key × V) → List (D × D) → List Addr → Prop
  | nil : AllK R [] [] []
  | cons {k : Key} {v : V} {ks : List (Key × V)} {d : D} {kvs : List (D × D)} {f fs : List Addr} : R v d f → AllK R ks kvs fs → AllK R ((k, v) :: ks) ((kD k, d) :: kvs) (f ++ fs)
def NoLst : D → Prop
  | .list _ => False
  | .dict _ => False
  | _ => True
def Own (K : Fg) (H : Hp) : Nat → V → D → List Addr → Prop
  | 0, v, d, fp => Rep K H v d ∧ fp = []
  | n + 1, v, d, fp =>
    (∃ a xs ds fs, v = .ref a ∧ d = .list ds ∧ H a = some (.lst xs) ∧ All3 (Own K H n) xs ds fs ∧ fp = a :: fs) ∨
    (∃ a ks kvs fs, v = .ref a ∧ d = .dict kvs ∧ H a = some (.dK ks) ∧ AllK (Own K H n) ks kvs fs ∧ fp = a :: fs) ∨
    (NoLst d ∧ Rep K H v d ∧ fp = [])
theorem All3.mono {R R' : V → D → List Addr → Prop} : ∀ {vs : List V} {ds : List D} {fs : List Addr}, All3 R vs ds fs → (∀ v d f, (∀ a ∈ f, a ∈ fs) → R v d f → R' v d f) → All3 R' vs ds fs
  | _, _, _, .nil, _ => .nil
  | _, _, _, .cons h r, g => .cons (g _ _ _ (fun a ha => List.mem_append_left _ ha) h) (All3.mono r fun v d f hf => g v d f fun a ha => List.mem_append_right _ (hf a ha))
theorem AllK.mono {R R' : V → D → List Addr → Prop} : ∀ {vs : List (Key × V)} {ds : List (D × D)} {fs : List Addr}, AllK R vs ds fs → (∀ v d f, (∀ a ∈ f, a ∈ fs) → R v d f → R' v d f) → AllK R' vs ds fs
  | _, _, _, .nil, _ => .nil
  | _, _, _, .cons h r, g => .cons (g _ _ _ (fun a ha => List.mem_append_left _ ha) h) (AllK.mono r fun v d f hf => g v d f fun a ha => List.mem_append_right _ (hf a ha))
theorem All3.length {R : V → D → List Addr → Prop} : ∀ {vs : List V} {ds : List D} {fs : List Addr}, All3 R vs ds fs → vs.length = ds.length
  | _, _, _, .nil => rfl
  | _, _, _, .cons _ r => congrArg (· + 1) (All3.length r)
theorem AllK.length {R : V → D → List Addr → Prop} : ∀ {vs : List (Key × V)} {ds : List (D × D)} {fs : List Addr}, AllK R vs ds fs → vs.length = ds.length
  | _, _, _, .nil => rfl
  | _, _, _, .cons _ r => congrArg (· + 1) (AllK.length r)
section
variable {K : Fg} {H H' : Hp}
theorem Own.mono (z : Ez H H') : ∀ {n : Nat} {v : V} {d : D} {fp : List Addr}, Own K H n v d fp → (∀ a ∈ fp, H' a = H a) → Own K H' n v d fp
  | 0, _, _, _, h, _ => ⟨h.1.mono z, h.2⟩
  | n + 1, v, d, fp, h, hk => by
    rcases h with ⟨a, xs, ds, fs, rfl, rfl, e, r, rfl⟩ | ⟨a, xs, ds, fs, rfl, rfl, e, r, rfl⟩ | ⟨h1, h2, h3⟩
    · exact .inl ⟨a, xs, ds, fs, rfl, rfl, (hk a List.mem_cons_self).trans e, r.mono fun v d f hf q => Own.mono z q fun b hb => hk b (List.mem_cons_of_mem _ (hf b hb)), rfl⟩
    · exact .inr (.inl ⟨a, xs, ds, fs, rfl, rfl, (hk a List.mem_cons_self).trans e, r.mono fun v d f hf q => Own.mono z q fun b hb => hk b (List.mem_cons_of_mem _ (hf b hb)), rfl⟩)
    · exact .inr (.inr ⟨h1, h2.mono z, h3⟩)
/-- a place that may be written, and is a list or a dict -/
def Wr (H : Hp) (a : Addr) : Prop := (∃ xs, H a = some (.lst xs)) ∨ ∃ ks, H a = some (.dK ks)
theorem Wr.ne {a : Addr} (h : Wr H a) : H a ≠ none := by
  rcases h with ⟨_, e⟩ | ⟨_, e⟩ <;> rw [e] <;> exact fun z => nomatch z
theorem Wr.noFz {a : Addr} {u : HO} (h : Wr H a) (e : H a = some u) : ¬ Fz u := by
  rcases h with ⟨_, q⟩ | ⟨_, q⟩ <;> (rw [e] at q; cases q; exact fun z => z)
theorem All3.wr {n : Nat} (ih : ∀ {v : V} {d : D} {fp : List Addr}, Own K H n v d fp → ∀ a ∈ fp, Wr H a) : ∀ {vs : List V} {ds : List D} {fs : List Addr}, All3 (Own K H n) vs ds fs → ∀ a ∈ fs, Wr H a
  | _, _, _, .nil, a, h => nomatch h
  | _, _, _, .cons h r, a, m => (List.mem_append.mp m).elim (ih h a) (All3.wr ih r a)
theorem AllK.wr {n : Nat} (ih : ∀ {v : V} {d : D} {fp : List Addr}, Own K H n v d fp → ∀ a ∈ fp, Wr H a) : ∀ {vs : List (Key × V)} {ds : List (D × D)} {fs : List Addr}, AllK (Own K H n) vs ds fs → ∀ a ∈ fs, Wr H a
  | _, _, _, .nil, a, h => nomatch h
  | _, _, _, .cons h r, a, m => (List.mem_append.mp m).elim (ih h a) (AllK.wr ih r a)
theorem Own.wr : ∀ {n : Nat} {v : V} {d : D} {fp : List Addr}, Own K H n v d fp → ∀ a ∈ fp, Wr H a
  | 0, _, _, _, h, a, m => by rw [h.2] at m; cases m
  | n + 1, v, d, fp, h, a, m => by
    rcases h with ⟨b, xs, ds, fs, rfl, rfl, e, r, rfl⟩ | ⟨b, xs, ds, fs, rfl, rfl, e, r, rfl⟩ | ⟨_, _, h3⟩
    · rcases List.mem_cons.mp m with rfl | m
      · exact .inl ⟨_, e⟩
      · exact All3.wr Own.wr r a m
    · rcases List.mem_cons.mp m with rfl | m
      · exact .inr ⟨_, e⟩
      · exact AllK.wr Own.wr r a m
    · rw [h3] at m; cases m
theorem Own.rep {v : V} {d : D} {fp : List Addr} (h : Own K H 0 v d fp) : Rep K H v d := h.1
theorem Own.of_rep {v : V} {d : D} (h : Rep K H v d) : Own K H 0 v d [] := ⟨h, rfl⟩
theorem All3.of_rep : ∀ {vs : List V} {ds : List D}, RepAll K H vs ds → All3 (Own K H 0) vs ds []
  | _, _, .nil => .nil
  | _, _, .cons h r => .cons (f := []) ⟨h, rfl⟩ (All3.of_rep r)
theorem All3.rep : ∀ {vs : List V} {ds : List D} {fs : List Addr}, All3 (Own K H 0) vs ds fs → RepAll K H vs ds ∧ fs = []
  | _, _, _, .nil => ⟨.nil, rfl⟩
  | _, _, _, .cons h r => by
    obtain ⟨q, e⟩ := All3.rep r
    refine ⟨.cons h.1 q, ?_⟩
    rw [h.2, e]; rfl
theorem All3.append {R : V → D → List Addr → Prop} : ∀ {vs ws : List V} {ds es : List D} {fs gs : List Addr}, All3 R vs ds fs → All3 R ws es gs → All3 R (vs ++ ws) (ds ++ es) (fs ++ gs)
  | _, _, _, _, _, _, .nil, s => s
  | _, _, _, _, _, _, .cons (f := f) h r, s => by
    rw [List.append_assoc]
    exact .cons h (All3.append r s)
end

/-! ### all of a list of places locked, or unlocked -/
section
variable {X : Cx} {pins : List (Addr × Obj)} {σ : Sl} {H : Hp} {s : Shared} {K : Fg}
/-- H' is H with the places of l locked -/
def Locked (l : List Addr) (H H' : Hp) : Prop := (∀ a, a ∉ l → H' a = H a) ∧ ∀ a ∈ l, ∃ o u, H a = some u ∧ H' a = some (.frz o u)
theorem Wr.mut {H : Hp} {a : Addr} (h : Wr H a) : ∃ u, H a = some u ∧ Mut (some u) := by
  rcases h with ⟨_, e⟩ | ⟨_, e⟩
  · exact ⟨_, e, trivial⟩
  · exact ⟨_, e, trivial⟩
theorem lock_all (I : Inv X pins σ H s) : ∀ (l : List Addr), (∀ a ∈ l, Wr H a) → l.Nodup → ∃ H', Inv X pins σ H' s ∧ Locked l H H'
  | [], _, _ => ⟨H, I, fun _ _ => rfl, fun _ h => nomatch h⟩
  | b :: l, hw, nd => by
    obtain ⟨H1, I1, k1, k2⟩ := lock_all I l (fun a ha => hw a (List.mem_cons_of_mem _ ha)) (List.nodup_cons.mp nd).2
    have hb : b ∉ l := (List.nodup_cons.mp nd).1
    obtain ⟨u, e, mu⟩ := (hw b List.mem_cons_self).mut
    have e1 : H1 b = some u := (k1 b hb).trans e
    obtain ⟨o, I2⟩ := I1.lock e1 mu
    refine ⟨_, I2, fun a ha => ?_, fun a ha => ?_⟩
    · rw [upd_ne (fun z => ha (by rw [z]; exact List.mem_cons_self))]
      exact k1 a fun m => ha (List.mem_cons_of_mem _ m)
    · by_cases z : a = b
      · subst z
        exact ⟨o, u, e, upd_same⟩
      · rw [upd_ne z]
        exact k2 a ((List.mem_cons.mp ha).resolve_left z)
theorem Locked.ez {l : List Addr} {H H' : Hp} (h : Locked l H H') (hw : ∀ a ∈ l, Wr H a) : Ez H H' := ⟨fun a u e z => by
  by_cases m : a ∈ l
  · exact absurd z ((hw a m).noFz e)
  · exact (h.1 a m).trans e, tab_but fun a u e n1 n2 => by
  by_cases m : a ∈ l
  · rcases hw a m with ⟨xs, z⟩ | ⟨ks, z⟩
    · rw [z] at e; exact absurd (Option.some.inj e).symm (n1 xs)
    · rw [z] at e; exact absurd (Option.some.inj e).symm (n2 ks)
  · exact (h.1 a m).trans e⟩
theorem All3.froz {H H' : Hp} {n : Nat} (ih : ∀ {v : V} {d : D} {fp : List Addr}, Own K H n v d fp → (∀ a ∈ fp, ∃ o u, H a = some u ∧ H' a = some (.frz o u)) → Rep K H' v d) :
    ∀ {vs : List V} {ds : List D} {fs : List Addr}, All3 (Own K H n) vs ds fs → (∀ a ∈ fs, ∃ o u, H a = some u ∧ H' a = some (.frz o u)) → RepAll K H' vs ds
  | _, _, _, .nil, _ => .nil
  | _, _, _, .cons h r, k => .cons (ih h fun a m => k a (List.mem_append_left _ m)) (All3.froz ih r fun a m => k a (List.mem_append_right _ m))
theorem AllK.froz {H H' : Hp} {n : Nat} (ih : ∀ {v : V} {d : D} {fp : List Addr}, Own K H n v d fp → (∀ a ∈ fp, ∃ o u, H a = some u ∧ H' a = some (.frz o u)) → Rep K H' v d) :
    ∀ {vs : List (Key × V)} {ds : List (D × D)} {fs : List Addr}, AllK (Own K H n) vs ds fs → (∀ a ∈ fs, ∃ o u, H a = some u ∧ H' a = some (.frz o u)) → RepKV K H' vs ds
  | _, _, _, .nil, _ => .nil
  | _, _, _, .cons h r, k => .cons (ih h fun a m => k a (List.mem_append_left _ m)) (AllK.froz ih r fun a m => k a (List.mem_append_right _ m))
theorem Own.froz {H H' : Hp} (z : Ez H H') : ∀ {n : Nat} {v : V} {d : D} {fp : List Addr}, Own K H n v d fp → (∀ a ∈ fp, ∃ o u, H a = some u ∧ H' a = some (.frz o u)) → Rep K H' v d
  | 0, _, _, _, h, _ => h.1.mono z
  | n + 1, v, d, fp, h, k => by
    rcases h with ⟨b, xs, ds, fs, rfl, rfl, e, r, rfl⟩ | ⟨b, xs, ds, fs, rfl, rfl, e, r, rfl⟩ | ⟨_, h2, _⟩
    · obtain ⟨o, u, e1, e2⟩ := k b List.mem_cons_self
      rw [e] at e1; cases e1
      exact .lst ⟨o, e2⟩ (All3.froz (Own.froz z) r fun a m => k a (List.mem_cons_of_mem _ m))
    · obtain ⟨o, u, e1, e2⟩ := k b List.mem_cons_self
      rw [e] at e1; cases e1
      exact .dct e2 (AllK.froz (Own.froz z) r fun a m => k a (List.mem_cons_of_mem _ m))
    · exact h2.mono z
end

/-! ### the slots of a frame -/
inductive SV where
  | no
  | pv (d : D)
  | ow (v : V) (n : Nat) (d : D)
  | fx (v : V) (F : Hp → Prop)
/-- a fact that stays while nothing is written that never is -/
def FxOk (F : Hp → Prop) (H : Hp) : Prop := F H ∧ ∀ H1 H2, Ez H1 H2 → F H1 → F H2
theorem FxOk.mono {F : Hp → Prop} {H H' : Hp} (z : Ez H H') (h : FxOk F H) : FxOk F H' := ⟨h.2 _ _ z h.1, h.2⟩
abbrev Gam := List SV
inductive EnvOk (K : Fg) (H : Hp) : Gam → Sl → List Addr → Prop
  | nil : LamX.Tabs tbs H → EnvOk K H [] [] []
  | no {Γ : Gam} {σ : Sl} {fp : List Addr} {x : Option V} : EnvOk K H Γ σ fp → EnvOk K H (.no :: Γ) (x :: σ) fp
  | pv {Γ : Gam} {σ : Sl} {fp : List Addr} {v : V} {d : D} : Rep K H v d → EnvOk K H Γ σ fp → EnvOk K H (.pv d :: Γ) (some v :: σ) fp
  | ow {Γ : Gam} {σ : Sl} {fp f : List Addr} {v : V} {n : Nat} {d : D} : Own K H n v d f → EnvOk K H Γ σ fp → EnvOk K H (.ow v n d :: Γ) (some v :: σ) (f ++ fp)
  | fx {Γ : Gam} {σ : Sl} {fp : List Addr} {v : V} {F : Hp → Prop} : FxOk F H → EnvOk K H Γ σ fp → EnvOk K H (.fx v F :: Γ) (some v :: σ) fp
/-- the slots are as told; what is owned stands apart -/
def Env (K : Fg) (Γ : Gam) (σ : Sl) (H : Hp) (fp : List Addr) : Prop := EnvOk K H Γ σ fp ∧ fp.Nodup
section
variable {K : Fg} {H H' : Hp}
theorem EnvOk.mono (z : Ez H H') : ∀ {Γ : Gam} {σ : Sl} {fp : List Addr}, EnvOk K H Γ σ fp → (∀ a ∈ fp, H' a = H a) → EnvOk K H' Γ σ fp
  | _, _, _, .nil t, _ => .nil (z.tb t)
  | _, _, _, .no r, k => .no (EnvOk.mono z r k)
  | _, _, _, .pv h r, k => .pv (h.mono z) (EnvOk.mono z r k)
  | _, _, _, .fx h r, k => .fx (h.mono z) (EnvOk.mono z r k)
  | _, _, _, .ow h r, k => .ow (h.mono z fun a m => k a (List.mem_append_left _ m)) (EnvOk.mono z r fun a m => k a (List.mem_append_right _ m))
theorem EnvOk.wr : ∀ {Γ : Gam} {σ : Sl} {fp : List Addr}, EnvOk K H Γ σ fp → ∀ a ∈ fp, Wr H a
  | _, _, _, .nil _, _, h => nomatch h
  | _, _, _, .no r, a, m => EnvOk.wr r a m
  | _, _, _, .pv _ r, a, m => EnvOk.wr r a m
  | _, _, _, .fx _ r, a, m => EnvOk.wr r a m
  | _, _, _, .ow h r, a, m => (List.mem_append.mp m).elim (h.wr a) (EnvOk.wr r a)
theorem EnvOk.len : ∀ {Γ : Gam} {σ : Sl} {fp : List Addr}, EnvOk K H Γ σ fp → Γ.length = σ.length
  | _, _, _, .nil _ => rfl
  | _, _, _, .no r => congrArg (· + 1) (EnvOk.len r)
  | _, _, _, .pv _ r => congrArg (· + 1) (EnvOk.len r)
  | _, _, _, .fx _ r => congrArg (· + 1) (EnvOk.len r)
  | _, _, _, .ow _ r => congrArg (· + 1) (EnvOk.len r)
theorem EnvOk.tb : ∀ {Γ : Gam} {σ : Sl} {fp : List Addr}, EnvOk K H Γ σ fp → LamX.Tabs tbs H
  | _, _, _, .nil t => t
  | _, _, _, .no r => EnvOk.tb r
  | _, _, _, .pv _ r => EnvOk.tb r
  | _, _, _, .fx _ r => EnvOk.tb r
  | _, _, _, .ow _ r => EnvOk.tb r
theorem EnvOk.pvAt : ∀ {Γ : Gam} {σ : Sl} {fp : List Addr} {i : Nat} {d : D}, EnvOk K H Γ σ fp → Γ[i]? = some (.pv d) → ∃ v, σ[i]? = some (some v) ∧ Rep K H v d
  | _, _, _, 0, _, .pv h _, e => by simp at e; subst e; exact ⟨_, rfl, h⟩
  | _, _, _, 0, _, .no _, e => by simp at e
  | _, _, _, 0, _, .ow _ _, e => by simp at e
  | _, _, _, 0, _, .fx _ _, e => by simp at e
  | _, _, _, i + 1, d, .no r, e => by simpa using EnvOk.pvAt (i := i) (d := d) r (by simpa using e)
  | _, _, _, i + 1, d, .pv _ r, e => by simpa using EnvOk.pvAt (i := i) (d := d) r (by simpa using e)
  | _, _, _, i + 1, d, .fx _ r, e => by simpa using EnvOk.pvAt (i := i) (d := d) r (by simpa using e)
  | _, _, _, i + 1, d, .ow _ r, e => by simpa using EnvOk.pvAt (i := i) (d := d) r (by simpa using e)
/-- a slot that owns: its own places, the others', and how another thing is put there -/
theorem EnvOk.owAt : ∀ {Γ : Gam} {σ : Sl} {fp : List Addr} {i : Nat} {v : V} {n : Nat} {d : D}, EnvOk K H Γ σ fp → Γ[i]? = some (.ow v n d) →
    ∃ f g h, fp = g ++ (f ++ h) ∧ σ[i]? = some (some v) ∧ Own K H n v d f ∧
      (∀ {n' d' f' H'}, Ez H H' → (∀ a ∈ g ++ h, H' a = H a) → Own K H' n' v d' f' → EnvOk K H' (Γ.set i (.ow v n' d')) σ (g ++ (f' ++ h))) ∧
      (∀ {d' H'}, Ez H H' → (∀ a ∈ g ++ h, H' a = H a) → Rep K H' v d' → EnvOk K H' (Γ.set i (.pv d')) σ (g ++ h)) ∧
      (∀ {H'}, Ez H H' → (∀ a ∈ g ++ h, H' a = H a) → EnvOk K H' (Γ.set i .no) σ (g ++ h))
  | _, _, _, 0, _, _, _, .ow (f := f) (fp := fp) o r, e => by
    simp at e
    obtain ⟨rfl, rfl, rfl⟩ := e
    exact ⟨f, [], fp, rfl, rfl, o, fun {_ _ f1 _} z k q => .ow (f := f1) q (r.mono z k), fun z k q => .pv q (r.mono z k), fun z k => .no (r.mono z k)⟩
  | _, _, _, 0, _, _, _, .no _, e => by simp at e
  | _, _, _, 0, _, _, _, .pv _ _, e => by simp at e
  | _, _, _, 0, _, _, _, .fx _ _, e => by simp at e
  | _, _, _, i + 1, v, n, d, .no r, e => by
    obtain ⟨f, g, h, q1, q2, q3, q4, q5, q6⟩ := EnvOk.owAt (i := i) (v := v) (n := n) (d := d) r (by simpa using e)
    exact ⟨f, g, h, q1, by simpa using q2, q3, fun z k q => .no (q4 z k q), fun z k q => .no (q5 z k q), fun z k => .no (q6 z k)⟩
  | _, _, _, i + 1, v, n, d, .pv p r, e => by
    obtain ⟨f, g, h, q1, q2, q3, q4, q5, q6⟩ := EnvOk.owAt (i := i) (v := v) (n := n) (d := d) r (by simpa using e)
    exact ⟨f, g, h, q1, by simpa using q2, q3, fun z k q => .pv (p.mono z) (q4 z k q), fun z k q => .pv (p.mono z) (q5 z k q), fun z k => .pv (p.mono z) (q6 z k)⟩
  | _, _, _, i + 1, v, n, d, .fx p r, e => by
    obtain ⟨f, g, h, q1, q2, q3, q4, q5, q6⟩ := EnvOk.owAt (i := i) (v := v) (n := n) (d := d) r (by simpa using e)
    exact ⟨f, g, h, q1, by simpa using q2, q3, fun z k q => .fx (p.mono z) (q4 z k q), fun z k q => .fx (p.mono z) (q5 z k q), fun z k => .fx (p.mono z) (q6 z k)⟩
  | _, _, _, i + 1, v, n, d, .ow (f := f0) p r, e => by
    obtain ⟨f, g, h, q1, q2, q3, q4, q5, q6⟩ := EnvOk.owAt (i := i) (v := v) (n := n) (d := d) r (by simpa using e)
    have sub : ∀ {H' : Hp}, (∀ a ∈ (f0 ++ g) ++ h, H' a = H a) → (∀ a ∈ f0, H' a = H a) ∧ ∀ a ∈ g ++ h, H' a = H a := fun k =>
      ⟨fun a m => k a (List.mem_append_left _ (List.mem_append_left _ m)), fun a m => k a (by rw [List.append_assoc]; exact List.mem_append_right _ m)⟩
    refine ⟨f, f0 ++ g, h, by rw [q1, List.append_assoc], by simpa using q2, q3, fun z k q => ?_, fun z k q => ?_, fun z k => ?_⟩
    · rw [List.append_assoc]; exact .ow (p.mono z (sub k).1) (q4 z (sub k).2 q)
    · rw [List.append_assoc]; exact .ow (p.mono z (sub k).1) (q5 z (sub k).2 q)
    · rw [List.append_assoc]; exact .ow (p.mono z (sub k).1) (q6 z (sub k).2)
/-- a slot of which nothing is known -/
theorem EnvOk.toFx : ∀ {Γ : Gam} {σ : Sl} {fp : List Addr} {i : Nat} {v : V} {F : Hp → Prop}, EnvOk K H Γ σ fp → Γ[i]? = some .no → σ[i]? = some (some v) → FxOk F H → EnvOk K H (Γ.set i (.fx v F)) σ fp
  | _, _, _, 0, _, _, .no r, _, e, q => by simp at e; subst e; exact .fx q r
  | _, _, _, 0, _, _, .pv _ _, e, _, _ => by simp at e
  | _, _, _, 0, _, _, .fx _ _, e, _, _ => by simp at e
  | _, _, _, 0, _, _, .ow _ _, e, _, _ => by simp at e
  | _, _, _, i + 1, _, _, .no r, e, e2, q => .no (EnvOk.toFx r (by simpa using e) (by simpa using e2) q)
  | _, _, _, i + 1, _, _, .pv p r, e, e2, q => .pv p (EnvOk.toFx r (by simpa using e) (by simpa using e2) q)
  | _, _, _, i + 1, _, _, .fx p r, e, e2, q => .fx p (EnvOk.toFx r (by simpa using e) (by simpa using e2) q)
  | _, _, _, i + 1, _, _, .ow p r, e, e2, q => .ow p (EnvOk.toFx r (by simpa using e) (by simpa using e2) q)
theorem EnvOk.fxAt : ∀ {Γ : Gam} {σ : Sl} {fp : List Addr} {i : Nat} {v : V} {F : Hp → Prop}, EnvOk K H Γ σ fp → Γ[i]? = some (.fx v F) → σ[i]? = some (some v) ∧ FxOk F H
  | _, _, _, 0, _, _, .fx p _, e => by simp at e; obtain ⟨rfl, rfl⟩ := e; exact ⟨rfl, p⟩
  | _, _, _, 0, _, _, .no _, e => by simp at e
  | _, _, _, 0, _, _, .pv _ _, e => by simp at e
  | _, _, _, 0, _, _, .ow _ _, e => by simp at e
  | _, _, _, i + 1, _, _, .no r, e => by simpa using EnvOk.fxAt (i := i) r (by simpa using e)
  | _, _, _, i + 1, _, _, .pv _ r, e => by simpa using EnvOk.fxAt (i := i) r (by simpa using e)
  | _, _, _, i + 1, _, _, .fx _ r, e => by simpa using EnvOk.fxAt (i := i) r (by simpa using e)
  | _, _, _, i + 1, _, _, .ow _ r, e => by simpa using EnvOk.fxAt (i := i) r (by simpa using e)
/-- without what is owned -/
def unO : SV → SV
  | .ow _ _ _ => .no
  | s => s
theorem EnvOk.un : ∀ {Γ : Gam} {σ : Sl} {fp : List Addr}, EnvOk K H Γ σ fp → EnvOk K H (Γ.map unO) σ []
  | _, _, _, .nil t => .nil t
  | _, _, _, .no r => .no r.un
  | _, _, _, .pv p r => .pv p r.un
  | _, _, _, .fx p r => .fx p r.un
  | _, _, _, .ow _ r => .no r.un
/-- any slot is given another thing; what it owned is dropped -/
theorem EnvOk.put : ∀ {Γ : Gam} {σ : Sl} {fp : List Addr} {i : Nat}, EnvOk K H Γ σ fp → i < Γ.length →
    ∃ g h, (g ++ h).Sublist fp ∧
      (∀ {v d}, Rep K H v d → EnvOk K H (Γ.set i (.pv d)) (σ.set i (some v)) (g ++ h)) ∧
      (∀ {x}, EnvOk K H (Γ.set i .no) (σ.set i x) (g ++ h)) ∧
      (∀ {v n d f}, Own K H n v d f → EnvOk K H (Γ.set i (.ow v n d)) (σ.set i (some v)) (g ++ (f ++ h)))
  | _, _, _, 0, .no (fp := fp) r, _ => ⟨[], fp, List.Sublist.refl _, fun q => .pv q r, .no r, fun {_ _ _ f1} q => .ow (f := f1) q r⟩
  | _, _, _, 0, .pv (fp := fp) _ r, _ => ⟨[], fp, List.Sublist.refl _, fun q => .pv q r, .no r, fun {_ _ _ f1} q => .ow (f := f1) q r⟩
  | _, _, _, 0, .fx (fp := fp) _ r, _ => ⟨[], fp, List.Sublist.refl _, fun q => .pv q r, .no r, fun {_ _ _ f1} q => .ow (f := f1) q r⟩
  | _, _, _, 0, .ow (fp := fp) _ r, _ => ⟨[], fp, List.sublist_append_right _ _, fun q => .pv q r, .no r, fun {_ _ _ f1} q => .ow (f := f1) q r⟩
  | _, _, _, i + 1, .no r, hi => by
    obtain ⟨g, h, q1, q2, q3, q4⟩ := EnvOk.put (i := i) r (by simpa using hi)
    exact ⟨g, h, q1, fun q => .no (q2 q), .no q3, fun q => .no (q4 q)⟩
  | _, _, _, i + 1, .pv p r, hi => by
    obtain ⟨g, h, q1, q2, q3, q4⟩ := EnvOk.put (i := i) r (by simpa using hi)
    exact ⟨g, h, q1, fun q => .pv p (q2 q), .pv p q3, fun q => .pv p (q4 q)⟩
  | _, _, _, i + 1, .fx p r, hi => by
    obtain ⟨g, h, q1, q2, q3, q4⟩ := EnvOk.put (i := i) r (by simpa using hi)
    exact ⟨g, h, q1, fun q => .fx p (q2 q), .fx p q3, fun q => .fx p (q4 q)⟩
  | _, _, _, i + 1, .ow (f := f0) p r, hi => by
    obtain ⟨g, h, q1, q2, q3, q4⟩ := EnvOk.put (i := i) r (by simpa using hi)
    refine ⟨f0 ++ g, h, ?_, fun q => ?_, fun {x} => ?_, fun q => ?_⟩
    · rw [List.append_assoc]; exact q1.append_left f0
    · rw [List.append_assoc]; exact .ow p (q2 q)
    · rw [List.append_assoc]; exact .ow p q3
    · rw [List.append_assoc]; exact .ow p (q4 q)
end

/-! ### what a step may do to the heap: the owned places change, new ones come -/
structure Fr (fp fp' : List Addr) (H H' : Hp) : Prop where
  keep : ∀ a o, H a = some o → (∀ ps, o ≠ .tbl ps) → a ∉ fp → H' a = some o
  new : ∀ a ∈ fp', a ∈ fp ∨ H a = none
  dom : ∀ a, H' a = none → H a = none
  ez : Ez H H'
section
variable {K : Fg} {H H' H1 H2 : Hp} {fp fp' fp1 fp2 : List Addr}
theorem Fr.refl : Fr fp fp H H := ⟨fun _ _ e _ _ => e, fun _ m => .inl m, fun _ e => e, .refl H⟩
theorem Fr.trans (a : Fr fp fp1 H H1) (b : Fr fp1 fp2 H1 H2) : Fr fp fp2 H H2 where
  keep := fun x o e t m => b.keep x o (a.keep x o e t m) t fun m1 => (a.new x m1).elim m fun z => by rw [e] at z; cases z
  new := fun x m => (b.new x m).elim (a.new x) fun z => .inr (a.dom x z)
  dom := fun x e => a.dom x (b.dom x e)
  ez := a.ez.trans b.ez
theorem Fr.sub (a : Fr fp fp1 H H1) (h : ∀ x ∈ fp2, x ∈ fp1) : Fr fp fp2 H H1 := ⟨a.keep, fun x m => a.new x (h x m), a.dom, a.ez⟩
theorem Fr.wide (a : Fr fp fp1 H H1) (h : ∀ x ∈ fp, x ∈ fp2) : Fr fp2 fp1 H H1 := ⟨fun x o e t m => a.keep x o e t fun m1 => m (h x m1), fun x m => (a.new x m).imp (h x) id, a.dom, a.ez⟩
/-- what others own is kept too -/
theorem Fr.more {g : List Addr} (a : Fr fp fp1 H H1) : Fr (g ++ fp) (g ++ fp1) H H1 :=
  ⟨fun x o e t m => a.keep x o e t fun m1 => m (List.mem_append_right _ m1), fun x m => (List.mem_append.mp m).elim (fun z => .inl (List.mem_append_left _ z)) fun z => (a.new x z).imp (List.mem_append_right _) id, a.dom, a.ez⟩
theorem ez_upd {p : Addr} {o : HO} (h : H p = none) : Ez H (upd H p o) := ⟨fun a u e _ => by rw [upd_ne (ne_of_none e h)]; exact e, tab_but fun a u e _ _ => by rw [upd_ne (ne_of_none e h)]; exact e⟩
theorem Fr.alloc {p : Addr} {o : HO} (h : H p = none) : Fr fp (p :: fp) H (upd H p o) where
  keep := fun a u e _ _ => by rw [upd_ne (ne_of_none e h)]; exact e
  new := fun a m => (List.mem_cons.mp m).elim (fun z => .inr (z ▸ h)) .inl
  dom := fun a e => by
    by_cases z : a = p
    · rw [z]; exact h
    · rw [upd_ne z] at e; exact e
  ez := ez_upd h
theorem Fr.write {p : Addr} {o : HO} (m : p ∈ fp) (h : Wr H p) : Fr fp fp H (upd H p o) where
  keep := fun a u e _ hn => by rw [upd_ne (fun z => hn (by rw [z]; exact m))]; exact e
  new := fun a m => .inl m
  dom := fun a e => by
    by_cases z : a = p
    · rw [z, upd_same] at e; cases e
    · rw [upd_ne z] at e; exact e
  ez := ⟨fun a u e z => by rw [upd_ne (fun q => by rw [q] at e; exact h.noFz e z)]; exact e, tab_but fun a u e n1 n2 => by
    rw [upd_ne (fun q => by
      rw [q] at e
      rcases h with ⟨xs, z⟩ | ⟨ks, z⟩
      · rw [z] at e; exact absurd (Option.some.inj e).symm (n1 xs)
      · rw [z] at e; exact absurd (Option.some.inj e).symm (n2 ks))]
    exact e⟩
theorem Fr.locked {l : List Addr} (h : Locked l H H') (hw : ∀ a ∈ l, Wr H a) : Fr (l ++ fp) fp H H' where
  keep := fun a o e _ hn => (h.1 a fun m => hn (List.mem_append_left _ m)).trans e
  new := fun a m => .inl (List.mem_append_right _ m)
  dom := fun a e => by
    by_cases m : a ∈ l
    · obtain ⟨o, u, _, e2⟩ := h.2 a m
      rw [e2] at e; cases e
    · rw [← h.1 a m]; exact e
  ez := h.ez hw
/-- kept by a step: what it does not own -/
theorem Fr.same {a : Addr} {o : HO} (f : Fr fp fp' H H') (e : H a = some o) (t : ∀ ps, o ≠ .tbl ps) (m : a ∉ fp) : H' a = H a := (f.keep a o e t m).trans e.symm
theorem Wr.noTb {a : Addr} {o : HO} (w : Wr H a) (e : H a = some o) : ∀ ps, o ≠ .tbl ps := fun ps z => by
  subst z
  rcases w with ⟨xs, q⟩ | ⟨ks, q⟩ <;> (rw [q] at e; cases e)
theorem Fr.sameW {a : Addr} (f : Fr fp fp' H H') (w : Wr H a) (m : a ∉ fp) : H' a = H a := by
  obtain ⟨u, e, _⟩ := w.mut
  exact f.same e (w.noTb e) m
end
end DL
set_option Elab.async false
set_option linter.all false
set_option maxRecDepth 100000
set_option maxHeartbeats 1000000
namespace DL
open PySem PySem.Spec PyProof.Rows L2

/-! ### the judgements -/
abbrev XP := Addr → List (Str × D) → Gam → Prop
def noX : XP := fun _ _ _ => False
inductive RepF (K : Fg) (H : Hp) : List (Str × V) → List (Str × D) → Prop
  | nil : RepF K H [] []
  | cons {x : Str} {v : V} {d : D} {fs : List (Str × V)} {gs : List (Str × D)} : Rep K H v d → RepF K H fs gs → RepF K H ((x, v) :: fs) ((x, d) :: gs)
theorem RepF.mono {K : Fg} {H H' : Hp} (z : Ez H H') : ∀ {fs : List (Str × V)} {gs : List (Str × D)}, RepF K H fs gs → RepF K H' fs gs
  | _, _, .nil => .nil
  | _, _, .cons h r => .cons (h.mono z) (RepF.mono z r)
/-- the fields of an exception -/
def FldAt (K : Fg) (H : Hp) (dd : Addr) (fs : List (Str × D)) : Prop := ∃ fv, H dd = some (.xd fv) ∧ RepF K H fv fs
def XC (K : Fg) (W : WX) (R : XP) (fp : List Addr) (H : Hp) : Prop :=
  ∀ C dd fs Γ' σ' H' fp', R C fs Γ' → FldAt K H' dd fs → Env K Γ' σ' H' fp' → Fr fp fp' H H' → W (.ref C) (some dd) σ' H'
def Kt (K : Fg) (n : Nat) (P : D → Gam → Prop) (σ : Sl) (fp : List Addr) (H : Hp) (Q : VK) : Prop :=
  ∀ v d fv Γ' H' fp', P d Γ' → Own K H' n v d fv → EnvOk K H' Γ' σ fp' → (fv ++ fp').Nodup → Fr fp (fv ++ fp') H H' → Q v H'
def tEG (K : Fg) (W : WX) (R : XP) (n : Nat) (Γ : Gam) (P : D → Gam → Prop) : TE := fun σ H Q => ∃ fp, Env K Γ σ H fp ∧ Kt K n P σ fp H Q ∧ XC K W R fp H
def EG (X : Cx) (R : XP) (n : Nat) (e : Expr) (Γ : Gam) (P : D → Gam → Prop) : Prop := ∀ W, Takes X W → PE X e (tEG X.K W R n Γ P)
abbrev EV (X : Cx) (R : XP) (e : Expr) (Γ : Gam) (P : D → Gam → Prop) : Prop := EG X R 0 e Γ P
def Kb (K : Fg) (P : Bool → Gam → Prop) (σ : Sl) (fp : List Addr) (H : Hp) (Q : Bool → Hp → Prop) : Prop :=
  ∀ b Γ' H' fp', P b Γ' → Env K Γ' σ H' fp' → Fr fp fp' H H' → Q b H'
def tET (K : Fg) (W : WX) (R : XP) (Γ : Gam) (P : Bool → Gam → Prop) : TT := fun σ H Q => ∃ fp, Env K Γ σ H fp ∧ Kb K P σ fp H Q ∧ XC K W R fp H
def ET (X : Cx) (R : XP) (e : Expr) (Γ : Gam) (P : Bool → Gam → Prop) : Prop := ∀ W, Takes X W → PT X e (tET X.K W R Γ P)
def EW (X : Cx) (R : XP) (e : Expr) (Γ : Gam) (P : Bool → Gam → Prop) : Prop := ∀ W, Takes X W → PW X e (tET X.K W R Γ P)
/-- arguments: a datum, or a slot whose object is handed on -/
inductive AV where
  | pv (d : D)
  | sl (j : Nat)
def AvOk (K : Fg) (σ : Sl) (H : Hp) : AV → V → Prop
  | .pv d, v => Rep K H v d
  | .sl j, v => σ[j]? = some (some v)
inductive AvAll (K : Fg) (σ : Sl) (H : Hp) : List AV → List V → Prop
  | nil : AvAll K σ H [] []
  | cons {a : AV} {v : V} {as : List AV} {vs : List V} : AvOk K σ H a v → AvAll K σ H as vs → AvAll K σ H (a :: as) (v :: vs)
theorem AvOk.mono {K : Fg} {σ : Sl} {H H' : Hp} (z : Ez H H') : ∀ {a : AV} {v : V}, AvOk K σ H a v → AvOk K σ H' a v
  | .pv _, _, h => Rep.mono z h
  | .sl _, _, h => h
theorem AvAll.mono {K : Fg} {σ : Sl} {H H' : Hp} (z : Ez H H') : ∀ {as : List AV} {vs : List V}, AvAll K σ H as vs → AvAll K σ H' as vs
  | _, _, .nil => .nil
  | _, _, .cons h r => .cons (h.mono z) (AvAll.mono z r)
theorem AvAll.pure {K : Fg} {σ : Sl} {H : Hp} : ∀ {ds : List D} {vs : List V}, AvAll K σ H (ds.map .pv) vs → RepAll K H vs ds
  | [], _, .nil => .nil
  | _ :: _, _, .cons h r => .cons h (AvAll.pure r)
def Ka (K : Fg) (P : List AV → Gam → Prop) (σ : Sl) (fp : List Addr) (H : Hp) (Q : List V → Hp → Prop) : Prop :=
  ∀ vs as Γ' H' fp', P as Γ' → AvAll K σ H' as vs → Env K Γ' σ H' fp' → Fr fp fp' H H' → Q vs H'
def tEA (K : Fg) (W : WX) (R : XP) (Γ : Gam) (P : List AV → Gam → Prop) : TA := fun σ H Q => ∃ fp, Env K Γ σ H fp ∧ Ka K P σ fp H Q ∧ XC K W R fp H
def EA (X : Cx) (R : XP) (es : List Expr) (Γ : Gam) (P : List AV → Gam → Prop) : Prop := ∀ W, Takes X W → PA X es (tEA X.K W R Γ P)

/-! ### general moves -/
section
variable {X : Cx} {R : XP} {W : WX} {Γ : Gam} {n : Nat} {e a b c : Expr} {pos : Pos}
theorem pe_weak {t t' : TE} (h : PE X e t) (i : ∀ σ H Q, t' σ H Q → t σ H Q) : PE X e t' := ⟨fun pins s σ H Q I q => h.run pins s σ H Q I (i σ H Q q)⟩
theorem pt_weak {t t' : TT} (h : PT X e t) (i : ∀ σ H Q, t' σ H Q → t σ H Q) : PT X e t' := ⟨fun pins s σ H Q I q => h.run pins s σ H Q I (i σ H Q q)⟩
theorem pw_weak {t t' : TT} (h : PW X e t) (i : ∀ σ H Q, t' σ H Q → t σ H Q) : PW X e t' := ⟨fun whole pins s σ H Q I q => h.run whole pins s σ H Q I (i σ H Q q)⟩
theorem pa_weak {es : List Expr} {t t' : TA} (h : PA X es t) (i : ∀ σ H Q, t' σ H Q → t σ H Q) : PA X es t' := ⟨fun pos pins s σ H Q I q => h.run pos pins s σ H Q I (i σ H Q q)⟩
theorem XC.trans {K : Fg} {fp fp1 : List Addr} {H H1 : Hp} (x : XC K W R fp H) (f : Fr fp fp1 H H1) : XC K W R fp1 H1 :=
  fun C dd fs Γ' σ' H' fp' r hf hE hF => x C dd fs Γ' σ' H' fp' r hf hE (f.trans hF)
theorem XC.none {K : Fg} {fp : List Addr} {H : Hp} : XC K W noX fp H := fun _ _ _ _ _ _ _ h => h.elim
theorem Kt.of0 {K : Fg} {P : D → Gam → Prop} {σ : Sl} {fp : List Addr} {H : Hp} {Q : VK} (h : ∀ v d Γ' H' fp', P d Γ' → Rep K H' v d → Env K Γ' σ H' fp' → Fr fp fp' H H' → Q v H') : Kt K 0 P σ fp H Q :=
  fun v d fv Γ' H' fp' p o hE nd f => by
    obtain ⟨r, e⟩ := o
    subst e
    exact h v d Γ' H' fp' p r ⟨hE, nd⟩ f
theorem Kt.to0 {K : Fg} {P : D → Gam → Prop} {σ : Sl} {fp : List Addr} {H : Hp} {Q : VK} (h : Kt K 0 P σ fp H Q) {v : V} {d : D} {Γ' : Gam} {H' : Hp} {fp' : List Addr} (p : P d Γ') (r : Rep K H' v d) (hE : Env K Γ' σ H' fp') (f : Fr fp fp' H H') : Q v H' :=
  h v d [] Γ' H' fp' p ⟨r, rfl⟩ hE.1 hE.2 f
/-- any thing that is known of the expression -/
def Any (X : Cx) (W : WX) (n : Nat) (e : Expr) : TE := fun σ H Q => ∃ R Γ P, EG X R n e Γ P ∧ tEG X.K W R n Γ P σ H Q
theorem pe_any (tk : Takes X W) : PE X e (Any X W n e) := ⟨fun pins s σ H Q I ⟨_, _, _, h, q⟩ => (h W tk).run pins s σ H Q I q⟩
def AnyT (X : Cx) (W : WX) (e : Expr) : TT := fun σ H Q => ∃ R Γ P, ET X R e Γ P ∧ tET X.K W R Γ P σ H Q
theorem pt_any (tk : Takes X W) : PT X e (AnyT X W e) := ⟨fun pins s σ H Q I ⟨_, _, _, h, q⟩ => (h W tk).run pins s σ H Q I q⟩
def AnyW (X : Cx) (W : WX) (e : Expr) : TT := fun σ H Q => ∃ R Γ P, EW X R e Γ P ∧ tET X.K W R Γ P σ H Q
theorem pw_any (tk : Takes X W) : PW X e (AnyW X W e) := ⟨fun whole pins s σ H Q I ⟨_, _, _, h, q⟩ => (h W tk).run whole pins s σ H Q I q⟩
def AnyA (X : Cx) (W : WX) (es : List Expr) : TA := fun σ H Q => ∃ R Γ P, EA X R es Γ P ∧ tEA X.K W R Γ P σ H Q
theorem pa_any {es : List Expr} (tk : Takes X W) : PA X es (AnyA X W es) := ⟨fun pos pins s σ H Q I ⟨_, _, _, h, q⟩ => (h W tk).run pos pins s σ H Q I q⟩
theorem Any.go {P : D → Gam → Prop} {σ : Sl} {H : Hp} {Q : VK} {fp : List Addr} (h : EG X R n e Γ P) (hE : Env X.K Γ σ H fp) (x : XC X.K W R fp H) (k : Kt X.K n P σ fp H Q) : Any X W n e σ H Q := ⟨R, Γ, P, h, fp, hE, k, x⟩
theorem AnyT.go {P : Bool → Gam → Prop} {σ : Sl} {H : Hp} {Q : Bool → Hp → Prop} {fp : List Addr} (h : ET X R e Γ P) (hE : Env X.K Γ σ H fp) (x : XC X.K W R fp H) (k : Kb X.K P σ fp H Q) : AnyT X W e σ H Q := ⟨R, Γ, P, h, fp, hE, k, x⟩
theorem AnyW.go {P : Bool → Gam → Prop} {σ : Sl} {H : Hp} {Q : Bool → Hp → Prop} {fp : List Addr} (h : EW X R e Γ P) (hE : Env X.K Γ σ H fp) (x : XC X.K W R fp H) (k : Kb X.K P σ fp H Q) : AnyW X W e σ H Q := ⟨R, Γ, P, h, fp, hE, k, x⟩
theorem AnyA.go {es : List Expr} {P : List AV → Gam → Prop} {σ : Sl} {H : Hp} {Q : List V → Hp → Prop} {fp : List Addr} (h : EA X R es Γ P) (hE : Env X.K Γ σ H fp) (x : XC X.K W R fp H) (k : Ka X.K P σ fp H Q) : AnyA X W es σ H Q := ⟨R, Γ, P, h, fp, hE, k, x⟩

theorem EG.imp {P P' : D → Gam → Prop} (h : EG X R n e Γ P) (i : ∀ d Γ', P d Γ' → P' d Γ') : EG X R n e Γ P' := fun W tk =>
  pe_weak (h W tk) fun σ H Q ⟨fp, hE, k, x⟩ => ⟨fp, hE, fun v d fv Γ' H' fp' p => k v d fv Γ' H' fp' (i d Γ' p), x⟩
theorem ET.imp {P P' : Bool → Gam → Prop} (h : ET X R e Γ P) (i : ∀ d Γ', P d Γ' → P' d Γ') : ET X R e Γ P' := fun W tk =>
  pt_weak (h W tk) fun σ H Q ⟨fp, hE, k, x⟩ => ⟨fp, hE, fun d Γ' H' fp' p => k d Γ' H' fp' (i d Γ' p), x⟩
theorem EA.imp {es : List Expr} {P P' : List AV → Gam → Prop} (h : EA X R es Γ P) (i : ∀ d Γ', P d Γ' → P' d Γ') : EA X R es Γ P' := fun W tk =>
  pa_weak (h W tk) fun σ H Q ⟨fp, hE, k, x⟩ => ⟨fp, hE, fun vs d Γ' H' fp' p => k vs d Γ' H' fp' (i d Γ' p), x⟩
/-- an expression whose reading is known: its value, the heap as it was or grown -/
theorem eg_of {P : D → Gam → Prop} {t : TE} (h : PE X e t) (i : ∀ σ H Q fp, Env X.K Γ σ H fp → Kt X.K n P σ fp H Q → t σ H Q) : EG X R n e Γ P := fun W tk =>
  pe_weak h fun σ H Q ⟨fp, hE, k, _⟩ => i σ H Q fp hE k
/-- all that is owned by a value is locked: it is data -/
theorem eg_freeze {P : D → Gam → Prop} (h : EG X R n e Γ P) : EV X R e Γ P := fun W tk => by
  refine ⟨fun pins s σ H Q I ⟨fp, hE, k, x⟩ => ?_⟩
  refine thn ((h W tk).run pins s σ H (fun v H' => ∃ d fv Γ' fp', P d Γ' ∧ Own X.K H' n v d fv ∧ EnvOk X.K H' Γ' σ fp' ∧ (fv ++ fp').Nodup ∧ Fr fp (fv ++ fp') H H') I
    ⟨fp, hE, fun v d fv Γ' H' fp' p o hE' nd f => ⟨d, fv, Γ', fp', p, o, hE', nd, f⟩, x⟩) fun u s1 ⟨v, H1, I1, r, d, fv, Γ', fp', p, o, hE', nd, f⟩ => ?_
  obtain ⟨nd1, nd2, nd3⟩ := List.nodup_append.mp nd
  obtain ⟨H2, I2, L⟩ := lock_all I1 fv o.wr nd1
  have z := L.ez o.wr
  refine ⟨v, H2, I2, r, k.to0 p (o.froz z L.2) ⟨hE'.mono z fun a m => L.1 a fun m1 => nd3 a m1 a m rfl, nd2⟩ (f.trans (Fr.locked L o.wr))⟩

/-! ### names and constants -/
theorem ev_int {i : Int} {j : Nat} {P : D → Gam → Prop} (h : P (.int i) Γ) : EV X R (.Constant (.int i) j pos) Γ P :=
  eg_of pe_int fun σ H Q fp hE k => k.to0 h (.int i) hE .refl
theorem ev_bl {i : Bool} {j : Nat} {P : D → Gam → Prop} (h : P (.bool i) Γ) : EV X R (.Constant (.bool i) j pos) Γ P :=
  eg_of pe_bl fun σ H Q fp hE k => k.to0 h (.bl i) hE .refl
theorem ev_non {j : Nat} {P : D → Gam → Prop} (h : P .none Γ) : EV X R (.Constant .none j pos) Γ P :=
  eg_of pe_non fun σ H Q fp hE k => k.to0 h .non hE .refl
theorem ev_str {i : Str} {j : Nat} {P : D → Gam → Prop} (h : P (.str i) Γ) : EV X R (.Constant (.str i) j pos) Γ P :=
  eg_of pe_str fun σ H Q fp hE k => k.to0 h (.str i) hE .refl
theorem ev_var (i : Nat) {x : Str} {d : D} {P : D → Gam → Prop} (hd : Γ[i]? = some (.pv d)) (h : P d Γ) (hN : X.N[i]? = some x := by rfl)
    (hv : Vis X.env.scope x := by first | exact Or.inl rfl | exact Or.inr (Or.inl rfl) | exact Or.inr (Or.inr rfl)) (hdb : (x == ("__debug__" : Str)) = false := by decide) (hcd : (x == ("__classdict__" : Str)) = false := by decide) :
    EV X R (.Name x pos) Γ P :=
  eg_of (pe_var hN hv hdb hcd) fun σ H Q fp hE k => by
    obtain ⟨v, e, r⟩ := hE.1.pvAt hd
    exact ⟨v, e, k.to0 h r hE .refl⟩
/-- a name that owns is read for good: its object is locked from here on -/
theorem ev_varZ (i : Nat) {x : Str} {w : V} {m : Nat} {d : D} {P : D → Gam → Prop} (hd : Γ[i]? = some (.ow w m d)) (h : P d (Γ.set i (.pv d))) (hN : X.N[i]? = some x := by rfl)
    (hv : Vis X.env.scope x := by first | exact Or.inl rfl | exact Or.inr (Or.inl rfl) | exact Or.inr (Or.inr rfl)) (hdb : (x == ("__debug__" : Str)) = false := by decide) (hcd : (x == ("__classdict__" : Str)) = false := by decide) :
    EV X R (.Name x pos) Γ P := fun W tk => by
  refine ⟨fun pins s σ H Q I ⟨fp, hE, k, _⟩ => ?_⟩
  obtain ⟨f, g, h1, rfl, e, o, _, hp, _⟩ := hE.1.owAt hd
  have ndf : f.Nodup := (List.nodup_append.mp (List.nodup_append.mp hE.2).2.1).1
  obtain ⟨H2, I2, L⟩ := lock_all I f o.wr ndf
  have z := L.ez o.wr
  have out : ∀ a ∈ g ++ h1, a ∉ f := fun a m mf => by
    obtain ⟨_, n2, n3⟩ := List.nodup_append.mp hE.2
    rcases List.mem_append.mp m with m | m
    · exact n3 a m a (List.mem_append_left _ mf) rfl
    · exact (List.nodup_append.mp n2).2.2 a mf a m rfl
  have r : Rep X.K H2 w d := o.froz z L.2
  refine (pe_var hN hv hdb hcd).run pins s σ H2 Q I2 ⟨w, e, k.to0 h r ⟨hp z (fun a m => L.1 a (out a m)) r, ?_⟩ ?_⟩
  · refine hE.2.sublist ?_
    exact (List.sublist_append_right f h1).append_left g
  · have F0 : Fr (f ++ (g ++ h1)) (g ++ h1) H H2 := Fr.locked L o.wr
    exact F0.wide fun a m => by
      simp only [List.mem_append] at m ⊢
      rcases m with m | m | m
      · exact .inr (.inl m)
      · exact .inl m
      · exact .inr (.inr m)

/-! ### by values -/
/-- an operator on data -/
def BinG (X : Cx) (f : Value → Value → Sem Value) (n : Nat) (d1 d2 d3 : D) : Prop :=
  OpR X f fun x y H Q => Rep X.K H x d1 ∧ Rep X.K H y d2 ∧ ∀ v H' fv, Own X.K H' n v d3 fv → fv.Nodup → Fr [] fv H H' → Q v H'
theorem Kt.ans {K : Fg} {P : D → Gam → Prop} {σ : Sl} {fp fp1 : List Addr} {H H1 H2 : Hp} {Q : VK} {v : V} {d : D} {fv : List Addr} {Γ' : Gam} (k : Kt K n P σ fp H Q) (p : P d Γ') (hE : Env K Γ' σ H1 fp1) (f : Fr fp fp1 H H1)
    (o : Own K H2 n v d fv) (nd : fv.Nodup) (g : Fr [] fv H1 H2) : Q v H2 := by
  have keep : ∀ a ∈ fp1, H2 a = H1 a := fun a m => by
    obtain ⟨u, e, _⟩ := (hE.1.wr a m).mut
    exact g.sameW (hE.1.wr a m) (List.not_mem_nil)
  refine k v d fv Γ' H2 fp1 p o (hE.1.mono g.ez keep) ?_ (f.trans ?_)
  · refine List.nodup_append.mpr ⟨nd, hE.2, fun a m b m' q => ?_⟩
    subst q
    rcases g.new a m with z | z
    · cases z
    · exact (hE.1.wr a m').ne z
  · have q := g.more (g := fp1)
    refine ⟨fun a o e t m => q.keep a o e t (by simpa using m), fun a m => ?_, q.dom, q.ez⟩
    rcases List.mem_append.mp m with m | m
    · rcases g.new a m with z | z
      · cases z
      · exact .inr z
    · exact .inl m
theorem eg_bin {op : Operator} {P : D → Gam → Prop} (h : EV X R a Γ fun d1 Γ1 => EV X R b Γ1 fun d2 Γ2 => ∃ d3, BinG X (binaryOp op) n d1 d2 d3 ∧ P d3 Γ2) : EG X R n (.BinOp a op b pos) Γ P := fun W tk => by
  refine ⟨fun pins s σ H Q I ⟨fp, hE, k, x⟩ => ?_⟩
  refine wpAny_BinOp (binT (pe_any (n := 0) tk) (pe_any (n := 0) tk) (R := fun v w H2 => ∃ d1 d2 d3 Γ2 fp2, BinG X (binaryOp op) n d1 d2 d3 ∧ P d3 Γ2 ∧ Rep X.K H2 v d1 ∧ Rep X.K H2 w d2 ∧ Env X.K Γ2 σ H2 fp2 ∧ Fr fp fp2 H H2) I ?_ ?_)
  · refine Any.go h hE x (Kt.of0 fun v d Γ1 H1 fp1 h1 r1 E1 f1 => ?_)
    refine Any.go h1 E1 (x.trans f1) (Kt.of0 fun w d2 Γ2 H2 fp2 ⟨d3, hb, p⟩ r2 E2 f2 => ?_)
    exact ⟨d, d2, d3, Γ2, fp2, hb, p, r1.mono f2.ez, r2, E2, f1.trans f2⟩
  · intro v u s2 y z H2 I2 ry rz ⟨d1, d2, d3, Γ2, fp2, hb, p, r1, r2, E2, f2⟩
    exact hb pins s2 σ H2 y z v u Q I2 ry rz ⟨r1, r2, fun v' H' fv o nd g => k.ans p E2 f2 o nd g⟩
/-- a comparison of data -/
def CmpG (X : Cx) (op : CmpOp) (d1 d2 : D) (b : Bool) : Prop := OpR X (compareOp op) fun x y H Q => Rep X.K H x d1 ∧ Rep X.K H y d2 ∧ Q (.bl b) H
theorem cmpT {op : CmpOp} {P : Bool → Gam → Prop} {σ : Sl} {H : Hp} {fp : List Addr} {Q : VK} (h : EV X R a Γ fun d1 Γ1 => EV X R b Γ1 fun d2 Γ2 => ∃ k, CmpG X op d1 d2 k ∧ P k Γ2) (hE : Env X.K Γ σ H fp) (x : XC X.K W R fp H)
    (q : ∀ k Γ2 H2 fp2, P k Γ2 → Env X.K Γ2 σ H2 fp2 → Fr fp fp2 H H2 → Q (.bl k) H2) :
    tOp (fun v w H2 Q' => ∃ d1 d2 k, CmpG X op d1 d2 k ∧ Rep X.K H2 v d1 ∧ Rep X.K H2 w d2 ∧ Q' (.bl k) H2) (Any X W 0 a) (Any X W 0 b) σ H Q := by
  refine Any.go h hE x (Kt.of0 fun v d Γ1 H1 fp1 h1 r1 E1 f1 => ?_)
  refine Any.go h1 E1 (x.trans f1) (Kt.of0 fun w d2 Γ2 H2 fp2 ⟨k, hb, p⟩ r2 E2 f2 => ?_)
  exact ⟨d, d2, k, hb, r1.mono f2.ez, r2, q k Γ2 H2 fp2 p E2 (f1.trans f2)⟩
theorem cmpR {op : CmpOp} : OpR X (compareOp op) fun v w H2 Q' => ∃ d1 d2 k, CmpG X op d1 d2 k ∧ Rep X.K H2 v d1 ∧ Rep X.K H2 w d2 ∧ Q' (.bl k) H2 :=
  fun pins s σ H y z v u Q I ry rz ⟨d1, d2, k, hb, r1, r2, q⟩ => hb pins s σ H y z v u Q I ry rz ⟨r1, r2, q⟩
theorem ev_cmp {op : CmpOp} {P : D → Gam → Prop} (h : EV X R a Γ fun d1 Γ1 => EV X R b Γ1 fun d2 Γ2 => ∃ k, CmpG X op d1 d2 k ∧ P (.bool k) Γ2) (hm : behindInMarks op b = false := by first | exact nomark _ | rfl) : EV X R (.Compare a [op] [b] pos) Γ P := fun W tk =>
  pe_weak (pe_cmpR cmpR (pe_any tk) (pe_any tk) hm) fun σ H Q ⟨fp, hE, k, x⟩ => cmpT (P := fun k Γ2 => P (.bool k) Γ2) h hE x fun b Γ2 H2 fp2 p E2 f2 => k.to0 p (.bl b) E2 f2
theorem et_cmp {op : CmpOp} {P : Bool → Gam → Prop} (h : EV X R a Γ fun d1 Γ1 => EV X R b Γ1 fun d2 Γ2 => ∃ k, CmpG X op d1 d2 k ∧ P k Γ2) (hm : behindInMarks op b = false := by first | exact nomark _ | rfl) : ET X R (.Compare a [op] [b] pos) Γ P := fun W tk =>
  pt_weak (pt_cmpR cmpR (pe_any tk) (pe_any tk) hm) fun σ H Q ⟨fp, hE, k, x⟩ => cmpT h hE x fun b Γ2 H2 fp2 p E2 f2 => ⟨b, rfl, k b Γ2 H2 fp2 p E2 f2⟩
end
end DL
set_option Elab.async false
set_option linter.all false
set_option maxRecDepth 100000
set_option maxHeartbeats 1000000
namespace DL
open PySem PySem.Spec PyProof.Rows L2
section
variable {X : Cx} {R : XP} {W : WX} {Γ : Gam} {n : Nat} {e a b c : Expr} {pos : Pos} {rest es : List Expr}

/-! ### if, and, or, not -/
theorem eg_if {P : D → Gam → Prop} (h : ET X R c Γ fun k Γ1 => (k = true → EG X R n a Γ1 P) ∧ (k = false → EG X R n b Γ1 P)) : EG X R n (.IfExp c a b pos) Γ P := fun W tk =>
  pe_weak (pe_ifExp (pt_any tk) (pe_any (n := n) tk) (pe_any (n := n) tk)) fun σ H Q ⟨fp, hE, k, x⟩ => by
    refine AnyT.go h hE x fun d Γ1 H1 fp1 ⟨h1, h2⟩ E1 f1 => ?_
    cases d with
    | true => exact Any.go (h1 rfl) E1 (x.trans f1) fun v d fv Γ' H' fp' p o hE' nd f => k v d fv Γ' H' fp' p o hE' nd (f1.trans f)
    | false => exact Any.go (h2 rfl) E1 (x.trans f1) fun v d fv Γ' H' fp' p o hE' nd f => k v d fv Γ' H' fp' p o hE' nd (f1.trans f)
theorem et_of_w {P : Bool → Gam → Prop} (h : EW X R e Γ P) : ET X R e Γ P := fun W tk => (h W tk).pt
theorem ew_and1 {P : Bool → Gam → Prop} (h : ET X R a Γ P) : EW X R (.BoolOp .And [a] pos) Γ P := fun W tk => pw_and1 (h W tk)
theorem ew_or1 {P : Bool → Gam → Prop} (h : ET X R a Γ P) : EW X R (.BoolOp .Or [a] pos) Γ P := fun W tk => pw_or1 (h W tk)
theorem ew_and {P : Bool → Gam → Prop} (h : ET X R a Γ fun k Γ1 => (k = true → EW X R (.BoolOp .And (b :: rest) pos) Γ1 P) ∧ (k = false → P false Γ1)) : EW X R (.BoolOp .And (a :: b :: rest) pos) Γ P := fun W tk =>
  pw_weak (pw_and (pt_any tk) (pw_any tk)) fun σ H Q ⟨fp, hE, k, x⟩ => by
    refine AnyT.go h hE x fun d Γ1 H1 fp1 ⟨h1, h2⟩ E1 f1 => ?_
    cases d with
    | true => exact AnyW.go (h1 rfl) E1 (x.trans f1) fun d' Γ2 H2 fp2 p E2 f2 => k d' Γ2 H2 fp2 p E2 (f1.trans f2)
    | false => exact k false Γ1 H1 fp1 (h2 rfl) E1 f1
theorem ew_or {P : Bool → Gam → Prop} (h : ET X R a Γ fun k Γ1 => (k = false → EW X R (.BoolOp .Or (b :: rest) pos) Γ1 P) ∧ (k = true → P true Γ1)) : EW X R (.BoolOp .Or (a :: b :: rest) pos) Γ P := fun W tk =>
  pw_weak (pw_or (pt_any tk) (pw_any tk)) fun σ H Q ⟨fp, hE, k, x⟩ => by
    refine AnyT.go h hE x fun d Γ1 H1 fp1 ⟨h1, h2⟩ E1 f1 => ?_
    cases d with
    | false => exact AnyW.go (h1 rfl) E1 (x.trans f1) fun d' Γ2 H2 fp2 p E2 f2 => k d' Γ2 H2 fp2 p E2 (f1.trans f2)
    | true => exact k true Γ1 H1 fp1 (h2 rfl) E1 f1
theorem et_not {P : Bool → Gam → Prop} (h : ET X R a Γ fun k Γ1 => P (!k) Γ1) : ET X R (.UnaryOp .Not a pos) Γ P := fun W tk =>
  pt_weak (pt_not (pt_any tk)) fun σ H Q ⟨fp, hE, k, x⟩ => AnyT.go h hE x fun d Γ1 H1 fp1 p E1 f1 => k (!d) Γ1 H1 fp1 p E1 f1
theorem et_val {P : Bool → Gam → Prop} (h : EV X R e Γ fun d Γ1 => ∃ k, d = .bool k ∧ P k Γ1) (he : ∀ whole, isTrue e X.env whole = (do let v ← whole; standAt e.pos; holding [v] (truthy v)) := by intro _; rfl) : ET X R e Γ P := fun W tk =>
  pt_weak (pt_val (pe_any (n := 0) tk) he) fun σ H Q ⟨fp, hE, k, x⟩ => Any.go h hE x (Kt.of0 fun v d Γ1 H1 fp1 ⟨b, e1, p⟩ r E1 f1 => by
    subst e1
    cases r
    exact ⟨b, rfl, k b Γ1 H1 fp1 p E1 f1⟩)
theorem ev_one {op : BoolOp} {P : D → Gam → Prop} (h : EV X R a Γ P) : EV X R (.BoolOp op [a] pos) Γ P := fun W tk => pe_one (h W tk)
theorem ev_and {P : D → Gam → Prop} (h : EV X R a Γ fun d Γ1 => ∃ k, d = .bool k ∧ (k = true → EV X R (.BoolOp .And (b :: rest) pos) Γ1 P) ∧ (k = false → P (.bool false) Γ1)) : EV X R (.BoolOp .And (a :: b :: rest) pos) Γ P := fun W tk =>
  pe_weak (pe_and (pe_any (n := 0) tk) (pe_any (n := 0) tk)) fun σ H Q ⟨fp, hE, k, x⟩ => by
    refine Any.go h hE x (Kt.of0 fun v d Γ1 H1 fp1 ⟨q, e1, h1, h2⟩ r E1 f1 => ?_)
    subst e1
    cases r
    refine ⟨q, rfl, ?_⟩
    cases q with
    | true => exact Any.go (h1 rfl) E1 (x.trans f1) (Kt.of0 fun v d Γ2 H2 fp2 p r E2 f2 => k.to0 p r E2 (f1.trans f2))
    | false => exact k.to0 (h2 rfl) (.bl false) E1 f1
theorem ev_or {P : D → Gam → Prop} (h : EV X R a Γ fun d Γ1 => ∃ k, d = .bool k ∧ (k = false → EV X R (.BoolOp .Or (b :: rest) pos) Γ1 P) ∧ (k = true → P (.bool true) Γ1)) : EV X R (.BoolOp .Or (a :: b :: rest) pos) Γ P := fun W tk =>
  pe_weak (pe_or (pe_any (n := 0) tk) (pe_any (n := 0) tk)) fun σ H Q ⟨fp, hE, k, x⟩ => by
    refine Any.go h hE x (Kt.of0 fun v d Γ1 H1 fp1 ⟨q, e1, h1, h2⟩ r E1 f1 => ?_)
    subst e1
    cases r
    refine ⟨q, rfl, ?_⟩
    cases q with
    | false => exact Any.go (h1 rfl) E1 (x.trans f1) (Kt.of0 fun v d Γ2 H2 fp2 p r E2 f2 => k.to0 p r E2 (f1.trans f2))
    | true => exact k.to0 (h2 rfl) (.bl true) E1 f1
theorem ev_not {P : D → Gam → Prop} (h : EV X R a Γ fun d Γ1 => ∃ k, d = .bool k ∧ P (.bool !k) Γ1) : EV X R (.UnaryOp .Not a pos) Γ P := fun W tk =>
  pe_weak (pe_not (pe_any (n := 0) tk)) fun σ H Q ⟨fp, hE, k, x⟩ => Any.go h hE x (Kt.of0 fun v d Γ1 H1 fp1 ⟨q, e1, p⟩ r E1 f1 => by
    subst e1
    cases r
    exact ⟨q, rfl, k.to0 p (.bl !q) E1 f1⟩)

/-! ### arguments, displays -/
theorem ea_nil {P : List AV → Gam → Prop} (h : P [] Γ) : EA X R [] Γ P := fun W tk => pa_weak pa_nil fun σ H Q ⟨fp, hE, k, _⟩ => k [] [] Γ H fp h .nil hE .refl
theorem ea_cons {P : List AV → Gam → Prop} (h : EV X R e Γ fun d Γ1 => EA X R es Γ1 fun as Γ2 => P (.pv d :: as) Γ2) (hs : starEach (e :: es) X.env = (false, eval e X.env) :: starEach es X.env := by rfl) : EA X R (e :: es) Γ P := fun W tk =>
  pa_weak (pa_cons (pe_any (n := 0) tk) (pa_any tk) hs) fun σ H Q ⟨fp, hE, k, x⟩ => Any.go h hE x (Kt.of0 fun v d Γ1 H1 fp1 h1 r E1 f1 =>
    AnyA.go h1 E1 (x.trans f1) fun vs as Γ2 H2 fp2 p av E2 f2 => k (v :: vs) (.pv d :: as) Γ2 H2 fp2 p (.cons (a := .pv d) (r.mono f2.ez) av) E2 (f1.trans f2))
theorem EnvOk.valAt {K : Fg} {H : Hp} {σ : Sl} {fp : List Addr} {Γ : Gam} {j : Nat} {v : V} {m : Nat} {d : D} (h : EnvOk K H Γ σ fp) (e : Γ[j]? = some (.ow v m d)) : σ[j]? = some (some v) := by
  obtain ⟨_, _, _, _, q, _⟩ := h.owAt e
  exact q
/-- an argument whose object is handed on -/
theorem ea_slot (j : Nat) {x : Str} {v : V} {m : Nat} {d : D} {P : List AV → Gam → Prop} (hd : Γ[j]? = some (.ow v m d)) (h : EA X R es Γ fun as Γ2 => P (.sl j :: as) Γ2) (hN : X.N[j]? = some x := by rfl)
    (hv : Vis X.env.scope x := by first | exact Or.inl rfl | exact Or.inr (Or.inl rfl) | exact Or.inr (Or.inr rfl)) (hdb : (x == ("__debug__" : Str)) = false := by decide) (hcd : (x == ("__classdict__" : Str)) = false := by decide)
    (hs : starEach (.Name x pos :: es) X.env = (false, eval (.Name x pos) X.env) :: starEach es X.env := by rfl) : EA X R (.Name x pos :: es) Γ P := fun W tk =>
  pa_weak (pa_cons (pe_var hN hv hdb hcd) (pa_any tk) hs) fun σ H Q ⟨fp, hE, k, x⟩ => by
    have q := hE.1.valAt hd
    exact ⟨v, q, AnyA.go h hE x fun vs as Γ2 H2 fp2 p av E2 f2 => k (v :: vs) (.sl j :: as) Γ2 H2 fp2 p (.cons (a := .sl j) q av) E2 f2⟩
theorem own_tup {K : Fg} {H : Hp} {p : Addr} {vs : List V} {ds : List D} (h : H p = none) (r : RepAll K H vs ds) : Rep K (upd H p (.tup vs)) (.ref p) (.tuple ds) :=
  .tup (.inl upd_same) (r.mono (ez_upd h))
theorem Env.alloc {K : Fg} {Γ : Gam} {σ : Sl} {H : Hp} {fp : List Addr} {p : Addr} {o : HO} (h : Env K Γ σ H fp) (hp : H p = none) : Env K Γ σ (upd H p o) fp :=
  ⟨h.1.mono (ez_upd hp) fun a m => upd_ne fun z => (h.1.wr a m).ne (by rw [z]; exact hp), h.2⟩
theorem Fr.alloc0 {fp : List Addr} {H : Hp} {p : Addr} {o : HO} (h : H p = none) : Fr fp fp H (upd H p o) := (Fr.alloc h).sub fun x m => List.mem_cons_of_mem _ m
theorem ev_tup {x1 : Nat} {P : D → Gam → Prop} (h : EA X R es Γ fun as Γ1 => ∃ ds : List D, as = ds.map AV.pv ∧ ds.length ≤ 1000 ∧ P (.tuple ds) Γ1) : EV X R (.Tuple es x1 pos) Γ P := fun W tk =>
  pe_weak (pe_tup (pa_any tk)) fun σ H Q ⟨fp, hE, k, x⟩ => AnyA.go h hE x fun vs as Γ1 H1 fp1 ⟨ds, e1, hl, p⟩ av E1 f1 => by
    subst e1
    have r := av.pure
    refine ⟨by rw [r.length]; exact Nat.le_of_lt (small1000 hl), fun q hq => ?_⟩
    exact k.to0 p (own_tup hq r) (E1.alloc hq) (f1.trans (Fr.alloc0 hq))
theorem Kt.lst1 {K : Fg} {P : D → Gam → Prop} {σ : Sl} {fp fp1 : List Addr} {H H1 : Hp} {Q : VK} {p : Addr} {vs : List V} {ds : List D} {Γ' : Gam} (k : Kt K 1 P σ fp H Q) (hP : P (.list ds) Γ') (hE : Env K Γ' σ H1 fp1) (f : Fr fp fp1 H H1)
    (r : RepAll K H1 vs ds) (hq : H1 p = none) : Q (.ref p) (upd H1 p (.lst vs)) := by
  refine k.ans hP hE f (H2 := upd H1 p (.lst vs)) (fv := [p]) (.inl ⟨p, vs, ds, [], rfl, rfl, upd_same, All3.of_rep (r.mono (ez_upd hq)), rfl⟩) (by simp) (Fr.alloc hq)
theorem eg_lst {P : D → Gam → Prop} (h : EA X R es Γ fun as Γ1 => ∃ ds : List D, as = ds.map AV.pv ∧ ds.length ≤ 1000 ∧ P (.list ds) Γ1) : EG X R 1 (.List es pos) Γ P := fun W tk =>
  pe_weak (pe_lst (pa_any tk)) fun σ H Q ⟨fp, hE, k, x⟩ => AnyA.go h hE x fun vs as Γ1 H1 fp1 ⟨ds, e1, hl, p⟩ av E1 f1 => by
    subst e1
    have r := av.pure
    exact ⟨by rw [r.length]; exact Nat.le_of_lt (small1000 hl), fun q hq => k.lst1 p E1 f1 r hq⟩

/-! ### subscripts, slices -/
def SubG (X : Cx) (d1 d2 d3 : D) : Prop := IxR X fun x y H Q => Rep X.K H x d1 ∧ Rep X.K H y d2 ∧ ∀ v, Rep X.K H v d3 → Q v H
theorem subR : IxR X fun v w H2 Q' => ∃ d1 d2 d3, SubG X d1 d2 d3 ∧ Rep X.K H2 v d1 ∧ Rep X.K H2 w d2 ∧ ∀ u, Rep X.K H2 u d3 → Q' u H2 :=
  fun vl sl pins s σ H y z v u Q I ry rz ⟨d1, d2, k, hb, r1, r2, q⟩ hs => hb vl sl pins s σ H y z v u Q I ry rz ⟨r1, r2, q⟩ hs
theorem ev_sub {P : D → Gam → Prop} (h : EV X R a Γ fun d1 Γ1 => EV X R b Γ1 fun d2 Γ2 => ∃ d3, SubG X d1 d2 d3 ∧ P d3 Γ2) (hs : PlainIx b := by exact fun _ _ => rfl) : EV X R (.Subscript a b pos) Γ P := fun W tk =>
  pe_weak (pe_ix subR (pe_any (n := 0) tk) (pe_any (n := 0) tk) hs) fun σ H Q ⟨fp, hE, k, x⟩ => by
    refine Any.go h hE x (Kt.of0 fun v d Γ1 H1 fp1 h1 r1 E1 f1 => ?_)
    refine Any.go h1 E1 (x.trans f1) (Kt.of0 fun w d2 Γ2 H2 fp2 ⟨d3, hb, p⟩ r2 E2 f2 => ?_)
    exact ⟨d, d2, d3, hb, r1.mono f2.ez, r2, fun u ru => k.to0 p ru E2 (f1.trans f2)⟩
theorem RepAll.atI {K : Fg} {H : Hp} {vs : List V} {ds : List D} (r : RepAll K H vs ds) {i : Int} {d : D} (h : atI ds i = some d) : ∃ v, L2.atI vs i = some v ∧ Rep K H v d := by
  unfold L2.atI at h ⊢
  rw [r.length]
  cases e : ixN ds.length i with
  | none => rw [e] at h; cases h
  | some j =>
    rw [e] at h
    obtain ⟨v, h1, h2⟩ := r.getD (i := j) (d := d) h
    exact ⟨v, h1, h2⟩
theorem sub_tup {ds : List D} {i : Int} {d : D} (h : L2.atI ds i = some d) : SubG X (.tuple ds) (.int i) d := fun vl sl pins s σ H x y v u Q I rx ry ⟨h1, h2, q⟩ hs => by
  cases h1 with
  | tup ht r =>
    cases h2
    obtain ⟨w, e, rw'⟩ := r.atI h
    exact ix_tup vl sl pins s σ H _ _ v u Q I rx ry ⟨_, _, i, w, rfl, rfl, ht.sq, e, q w rw'⟩ hs
theorem sub_lst {ds : List D} {i : Int} {d : D} (h : L2.atI ds i = some d) : SubG X (.list ds) (.int i) d := fun vl sl pins s σ H x y v u Q I rx ry ⟨h1, h2, q⟩ hs => by
  cases h1 with
  | lst ht r =>
    cases h2
    obtain ⟨w, e, rw'⟩ := r.atI h
    exact ix_list vl sl pins s σ H _ _ v u Q I rx ry ⟨_, _, i, w, rfl, rfl, ht.sq, e, q w rw'⟩ hs
/-- a[k] of a dict whose keys are ints and texts -/
def getD? (kvs : List (D × D)) (k : Key) : Option D := (kvs.find? fun p => match p.1, k with
  | .int i, .inl j => decide (i = j)
  | .str x, .inr y => decide (x = y)
  | _, _ => false).map (·.2)
theorem RepKV.get {K : Fg} {H : Hp} (k : Key) : ∀ {ks : List (Key × V)} {kvs : List (D × D)}, RepKV K H ks kvs → (∀ d, getD? kvs k = some d → ∃ v, valV ks k = some v ∧ Rep K H v d) ∧ (getD? kvs k = none → valV ks k = none)
  | _, _, .nil => ⟨fun d h => by simp [getD?] at h, fun _ => rfl⟩
  | _, _, .cons (k := k') (v := v) (d := d) (ks := ks) (kvs := kvs) h r => by
    obtain ⟨i1, i2⟩ := RepKV.get k r
    have key : getD? ((kD k', d) :: kvs) k = if k' = k then some d else getD? kvs k := by
      cases k' <;> cases k <;> (simp only [getD?, kD, List.find?_cons]; split <;> simp_all)
    have val : valV ((k', v) :: ks) k = if k' = k then some v else valV ks k := by
      simp only [valV, List.find?_cons]; split <;> simp_all
    rw [key, val]
    by_cases e : k' = k
    · rw [if_pos e, if_pos e]
      exact ⟨fun d' h' => by cases h'; exact ⟨v, rfl, h⟩, fun h' => nomatch h'⟩
    · rw [if_neg e, if_neg e]
      exact ⟨i1, i2⟩
theorem kD_rep {K : Fg} {H : Hp} {k : Key} {v : V} (h : Rep K H v (kD k)) : v = kV k := by
  cases k <;> (cases h; rfl)
theorem ev_dsub {P : D → Gam → Prop} (hu : X.A.units + 1 < cLine) (h : EV X R a Γ fun d1 Γ1 => EV X R b Γ1 fun d2 Γ2 => ∃ kvs k d3, d1 = .dict kvs ∧ d2 = kD k ∧ getD? kvs k = some d3 ∧ P d3 Γ2) (hs : NoSl b := by exact fun _ _ => rfl) : EV X R (.Subscript a b pos) Γ P := fun W tk =>
  pe_weak (pe_dget hu (pe_any (n := 0) tk) (pe_any (n := 0) tk) hs) fun σ H Q ⟨fp, hE, k, x⟩ => by
    refine Any.go h hE x (Kt.of0 fun v d Γ1 H1 fp1 h1 r1 E1 f1 => ?_)
    refine Any.go h1 E1 (x.trans f1) (Kt.of0 fun w d2 Γ2 H2 fp2 ⟨kvs, ky, d3, e1, e2, e3, p⟩ r2 E2 f2 => ?_)
    subst e1 e2
    cases r1.mono f2.ez with
    | dct hd rk =>
      obtain ⟨u, hu, ru⟩ := (rk.get ky).1 d3 e3
      rw [kD_rep r2]
      exact ⟨_, u, rfl, .inl ⟨_, ky, .inr ⟨_, hd⟩, rfl, hu.symm⟩, k.to0 p ru E2 (f1.trans f2)⟩
    | rng _ => simp [getD?] at e3
    | xv _ _ => simp [getD?] at e3
    | hs _ _ => simp [getD?] at e3
end
end DL
set_option Elab.async false
set_option linter.all false
set_option maxRecDepth 100000
set_option maxHeartbeats 1000000
namespace DL
open PySem PySem.Spec PyProof.Rows L2

/-! ### a def's promise, where no repr is running around -/
structure Rm (k : Nat) (A : Around) : Prop where
  rm : Room k A
  gd : A.guards = some []
theorem Rm.mono {j k : Nat} {A : Around} (r : Rm k A) (h : j ≤ k) : Rm j A := ⟨r.rm.mono h, r.gd⟩
theorem Rm.hu {k : Nat} {A : Around} (r : Rm k A) : A.units + 1 < cLine := hu_of r.rm
theorem Rm.hu64 {k : Nat} {A : Around} (r : Rm k A) : A.units + 64 < cLine := r.rm.units
structure FnG (P : Program) (w : World) (K : Fg) (mg : Str → Option Value) (base : Heap) (k : Nat) (f : Addr) (fd : FuncData) (ps : List Str) (sp : Sp) : Prop where
  len : ∀ vs H Q E, sp vs H Q E → vs.length = ps.length
  run : ∀ (A : Around) (outer : List PySem.Env) (s : Shared) (H : Hp) (args : Args) (us : List Value) (vs : List V) (Q : VK) (E : XK), Rm k A → Env0 P w K mg base A outer s H → BindsTo s fd args (ps.zip us) → Vals vs us → sp vs H Q E →
    codeAny (model P w) A (.call (.ref f) args) (CR (CX P w) outer P w H s Q E) s
end DL
namespace DL
open PySem PySem.Spec PyProof.Rows L2
section
variable {P : Program} {w : World} {K : Fg} {mg : Str → Option Value} {base : Heap}
theorem FnG.mono {j k : Nat} {f : Addr} {fd : FuncData} {ps : List Str} {sp : Sp} (F : FnG P w K mg base j f fd ps sp) (h : j ≤ k) : FnG P w K mg base k f fd ps sp :=
  ⟨F.len, fun A outer s H args us vs Q E hr => F.run A outer s H args us vs Q E (hr.mono h)⟩
/-- the place where a def's body runs -/
abbrev cx (P : Program) (w : World) (K : Fg) (mg : Str → Option Value) (base : Heap) (N : List Str) (qual : Str) (sc : Scope) (f : Addr) (cdv : Value) (A : Around) (outer : List PySem.Env) (s : Shared) (H : Hp) (E : XK) : Cx :=
  cxOf (CX P w) P w K mg base N qual sc f cdv A outer s H E
theorem fnG_of {x qual : Str} {st : Stmt} {f : Addr} {fd : FuncData} {N ps : List Str} {k : Nat} {sp : Sp} (F : Fun K x qual st f fd) (S : FnScope N ps (defScope st)) (len : ∀ vs H Q E, sp vs H Q E → vs.length = ps.length)
    (hb : ∀ (cdv : Value) (A : Around) (outer : List PySem.Env) (s : Shared) (H : Hp) (vs : List V) (Q : VK) (E : XK), Rm k (A.deeper (envOfC qual (defScope st) s.heap.objs.size f cdv)) → sp vs H Q E →
      ∃ t, PSs (cx P w K mg base N qual (defScope st) f cdv A outer s H E) (defBody st) t ∧ t { nx := fun _ H' => Q .non H', rt := Q } (start N vs) H) : FnG P w K mg base (k + 1) f fd ps sp := by
  obtain ⟨oc, od, kV, doc, pm, an, cdv, ct, osl, rfl, lk, hcd⟩ := F.ex
  refine ⟨len, fun A outer s H args us vs Q E hr en hbd rv hs => ?_⟩
  have hlen := len _ _ _ _ hs
  have inK : K.In s.heap := en.mod.kin.keeps fun b o e => (en.bs b o e).1
  have lim : s.heap.NoLimit := en.mod.nolimit.keeps fun b o e => (en.bs b o e).1
  have kinds : ∀ y ∈ ps.zip us, (defScope st).names.lookup y.1 = some .local ∨ ((defScope st).names.lookup y.1 = some .cell ∧ ((cellsFrom (s.heap.objs.size + 1) (defScope st).names []).lookup y.1).isSome = true) := by
    intro ⟨nm, v⟩ hy
    rcases S.par nm (List.of_mem_zip hy).1 with q | q
    · exact .inl q
    · exact .inr ⟨q, PySem.W.cellsFrom_some _ _ _ (.inl q)⟩
  refine codeAny_call_function hr.rm.depth (inK _ _ lk) rfl S.co S.gen rfl (PySem.W.codeRec_of inK hcd) (hbd _ _ _ _ ?_)
  refine wpAny_newFunctionEnv_cells S.kind kinds fun env he s1 ic => ?_
  subst he
  refine ⟨lim.keeps ic.toInCall.keep, codeAny_func ?_⟩
  obtain ⟨t, ht, q⟩ := hb cdv A outer s H vs Q E ⟨hr.rm.deeper _, hr.gd⟩ hs
  have I := inv_start (CX := CX P w) (E := E) S hr.rm.hd en hlen rv ic
  have fin : ∀ {σ' : Sl} {H' : Hp} {v : V} {u : Value} {s' : Shared}, Inv (cx P w K mg base N qual (defScope st) f cdv A outer s H E) [] σ' H' s' → RelV v u → Q v H' → CE outer P w H s Q u s' :=
    fun J r2 q2 => ⟨_, _, J.os, J.bare, J.base, J.hok, r2, q2⟩
  refine wpAny_mono (ht.run [] s1 (start N vs) H _ I q) (fun fl s' hq => ?_) fun _ _ hq => hq
  cases fl with
  | ret u =>
    obtain ⟨v, σ', H', J, r2, q2⟩ := hq
    exact fin J r2 q2
  | next =>
    obtain ⟨σ', H', J, q2⟩ := hq
    exact fin (v := V.non) (u := Value.none) J rfl q2
  | brk =>
    obtain ⟨_, _, _, z⟩ := hq
    exact z.elim
  | cont =>
    obtain ⟨_, _, _, z⟩ := hq
    exact z.elim
/-- the law is called -/
theorem lawG_call {mb : Str → Option Value} {k : Nat} {fa a : Addr} {fd : FuncData} {x : Str} {sp : Sp} {s1 : Shared} {us : List Value} {ns : List Int}
    (KX : K.In s1.heap) (hns : s1.heap.Ns mainGlobals mg) (hb : s1.heap.Ns builtinsNs mb) (hbb : ∀ y : Str, y ≠ "__name__" → mb y = bootBuiltins y) (hlim : s1.heap.NoLimit) (hg : s1.gens = #[])
    (ha : s1.heap.get? a = some { cls := .type "list", data := .seq us.toArray }) (hi : IntsAre us ns) (hl : ns.length ≤ sizeLine) (hr : Rm k callerA)
    (F : ∀ base : Heap, K.In base → base.Ns mainGlobals mg → FnG P w K mg base k fa fd [x] sp) (hbind : ∀ (s : Shared) (u : Value), BindsTo s fd ⟨[u], []⟩ [(x, u)])
    (hsp : ∀ H : Hp, SqL K H a (ns.map V.int) → sp [.ref a] H (fun v _ => v = .bl true) fun _ _ _ => False) :
    codeAny (model P w) callerA (.call (.ref fa) ⟨[.ref a], []⟩) (fun r s' => r = .ok (.ret (.bool true)) ∧ OldK s1.heap s'.heap ∧ s'.os = s1.os ∧ AllBare s'.gens) s1 := by
  have rv := vals_ints hi
  have hlv := hi.length
  have main : ∀ H : Hp, Only H → SqL K H a (ns.map V.int) → HOk P w H s1.heap → (∀ b, H b ≠ none → b = a) → (H a ≠ none → K.lookup a = none) →
      codeAny (model P w) callerA (.call (.ref fa) ⟨[.ref a], []⟩) (fun r s' => r = .ok (.ret (.bool true)) ∧ OldK s1.heap s'.heap ∧ s'.os = s1.os ∧ AllBare s'.gens) s1 := by
    intro H hO hS hok hA hK
    have noA : ∀ {b : Addr} {o : Obj} {es : Array DictEntry} {ep : Nat}, s1.heap.get? b = some o → o.data = .dict es ep → H b = none := by
      intro b o es ep e d
      cases q : H b with
      | none => rfl
      | some u =>
        obtain rfl : b = a := hA b (by rw [q]; exact fun z => nomatch z)
        rw [ha] at e; cases e
        exact nomatch (show Data.seq us.toArray _ = Data.dict es ep from d)
    have nsK : ∀ {b : Addr} {m : Str → Option Value}, s1.heap.Ns b m → (hidT s1.heap H).Ns b m := fun ⟨o, es, ep, e, d, r⟩ => ⟨o, es, ep, hidT_get e (noA e d), d, r⟩
    have hKb : K.In (hidT s1.heap H) := fun b o e => hidT_get (KX b o e) (by
      cases q : H b with
      | none => rfl
      | some u =>
        obtain rfl : b = a := hA b (by rw [q]; exact fun z => nomatch z)
        rw [hK (by rw [q]; exact fun z => nomatch z)] at e; cases e)
    have hM : L2.Mod K mg (hidT s1.heap H) := ⟨hKb, nsK hns, ⟨mb, nsK hb, hbb⟩, let ⟨mc, z1, z2⟩ := hlim; ⟨mc, nsK z1, z2⟩⟩
    have en : Env0 P w K mg (hidT s1.heap H) callerA [] s1 H := ⟨rfl, hM, fun b o e => of_hidT e, Nat.le_of_eq (hidT_size _ _), trivial, (fun b hb => nomatch hb), hok, .of_eq hg⟩
    refine codeAny_mono ((F _ hKb (nsK hns)).run callerA [] s1 H ⟨[.ref a], []⟩ [.ref a] [.ref a] _ _ hr en (hbind s1 (.ref a)) (.cons rfl .nil) (hsp H hS)) fun r s' hq => ?_
    cases r with
    | error e =>
      obtain ⟨_, _, _, _, _, _, _, _, _, _, _, _, z⟩ := hq
      exact z.elim
    | ok fl =>
      cases fl with
      | next => exact hq.elim
      | brk => exact hq.elim
      | cont => exact hq.elim
      | ret u =>
        obtain ⟨v, H', os, bare, un, hok', r2, q2⟩ := hq
        cases (show v = .bl true from q2)
        cases (show u = Value.bool true from r2)
        refine ⟨rfl, OldK.of_keep fun b o e => ?_, os, bare⟩
        cases q : H b with
        | none => exact un.keep b o e q (fun z => nomatch z) (fun z => nomatch z)
        | some u =>
          rcases hO b with z | ⟨ob, xs, z⟩
          · rw [q] at z; cases z
          · obtain ⟨e1, _⟩ := hok b _ z
            obtain ⟨e2, _⟩ := hok' b _ (un.frzs b ob _ z)
            rw [e] at e1; cases e1
            exact e2
  cases hk : K.lookup a with
  | some o =>
    have e := KX a o hk
    rw [ha] at e
    cases e
    exact main (fun _ => none) (fun _ => .inl rfl) (.inr ⟨_, us.toArray, _, hk, rfl, rfl, rfl, by rw [List.size_toArray, hlv]; exact hl, by simpa using rv⟩) (fun b u z => nomatch (show (none : Option HO) = some u from z)) (fun b z => absurd rfl z) fun z => absurd rfl z
  | none =>
    refine main (fun b => if b = a then some (.frz { cls := .type "list", data := .seq us.toArray } (.lst (ns.map V.int))) else none) (fun b => ?_) (.inl (.inr ⟨_, if_pos rfl⟩)) (fun b u z => ?_) (fun b z => ?_) fun _ => hk
    · by_cases hb : b = a
      · exact .inr ⟨_, _, if_pos hb⟩
      · exact .inl (if_neg hb)
    · by_cases hb : b = a
      · subst hb
        dsimp only at z
        rw [if_pos rfl] at z; cases z
        exact ⟨ha, by rw [List.length_map]; exact hl, us, _, rv, ha⟩
      · dsimp only at z
        rw [if_neg hb] at z; cases z
    · by_cases hb : b = a
      · exact hb
      · exact absurd (show (if b = a then some (HO.frz { cls := .type "list", data := .seq us.toArray } (.lst (ns.map V.int))) else none) = none from if_neg hb) z
theorem walkG_of {l : PySem.W.OpenLaw} {n k : Nat} {q : Program} {loose : List Str} {XP : (Str → Option Value) → Heap → Prop} {YP : World → Heap → Prop} {d : DefRec} {x : Str}
    (hn : l.most = some n) (hn2 : n ≤ sizeLine) (hdf : d.params.defaults = []) (hr : Rm k callerA)
    (F : ∀ (w : World) (mg : Str → Option Value) (fa : Addr) (h : Heap), YP w h → h.Ns mainGlobals mg → mg d.name = some (.ref fa) →
      ∃ (K : Fg) (fd : FuncData) (sp : Sp), K.In h ∧ (∀ (s : Shared) (u : Value), BindsTo s fd ⟨[u], []⟩ [(x, u)]) ∧
        (∀ (H : Hp) (a : Addr) (ns : List Int), ns.length ≤ n → SqL K H a (ns.map V.int) → sp [.ref a] H (fun v _ => v = .bl true) fun _ _ _ => False) ∧
        ∀ base : Heap, K.In base → base.Ns mainGlobals mg → FnG l.prog w K mg base k fa fd [x] sp) :
    PySem.W.WalkO q loose XP YP l.row.toRowW d [] (fun f vs => PySem.call f vs) := by
  refine Att.attach_call hn hdf fun w s₀ s1 mg mb fa o pm cd doc a us ns G Y ho hd hcd hmg hobj hints hlen hg => ?_
  obtain ⟨K, fd, sp, KX, hb, hsp, hF⟩ := F w mg fa _ Y G.T.g hmg
  exact lawG_call KX G.T.g G.T.b G.T.builtins G.T.nolimit hg hobj hints (Nat.le_trans hlen hn2) hr hF hb fun H hS => hsp H a ns hlen hS
end

/-! ### statements -/
structure Po where
  nx : Gam → Prop
  rt : D → Gam → Prop
  bk : Gam → Prop := fun _ => False
  ct : Gam → Prop := fun _ => False
def tSS (K : Fg) (W : WX) (R : XP) (m : Nat) (Γ : Gam) (P : Po) : TS := fun D σ H => ∃ fp, Env K Γ σ H fp ∧
  (∀ σ' Γ' H' fp', P.nx Γ' → Env K Γ' σ' H' fp' → Fr fp fp' H H' → D.nx σ' H') ∧
  (∀ v d fv σ' Γ' H' fp', P.rt d Γ' → Own K H' m v d fv → EnvOk K H' Γ' σ' fp' → (fv ++ fp').Nodup → Fr fp (fv ++ fp') H H' → D.rt v H') ∧
  (∀ σ' Γ' H' fp', P.bk Γ' → Env K Γ' σ' H' fp' → Fr fp fp' H H' → D.bk σ' H') ∧
  (∀ σ' Γ' H' fp', P.ct Γ' → Env K Γ' σ' H' fp' → Fr fp fp' H H' → D.ct σ' H') ∧ XC K W R fp H
def SS (X : Cx) (R : XP) (m : Nat) (sts : List Stmt) (Γ : Gam) (P : Po) : Prop := ∀ W, Takes X W → PSs X sts (tSS X.K W R m Γ P)
def S1 (X : Cx) (R : XP) (m : Nat) (st : Stmt) (Γ : Gam) (P : Po) : Prop := ∀ W, Takes X W → PS X st (tSS X.K W R m Γ P)
def AnyS (X : Cx) (W : WX) (m : Nat) (sts : List Stmt) : TS := fun D σ H => ∃ R Γ P, SS X R m sts Γ P ∧ tSS X.K W R m Γ P D σ H
section
variable {X : Cx} {R : XP} {W : WX} {Γ : Gam} {m n : Nat} {e a b c : Expr} {pos : Pos} {rest : List Stmt} {st : Stmt} {P : Po}
theorem ps_weak {t t' : TS} (h : PS X st t) (i : ∀ D σ H, t' D σ H → t D σ H) : PS X st t' := ⟨fun pins s σ H D I q => h.run pins s σ H D I (i D σ H q)⟩
theorem pss_weak {sts : List Stmt} {t t' : TS} (h : PSs X sts t) (i : ∀ D σ H, t' D σ H → t D σ H) : PSs X sts t' := ⟨fun pins s σ H D I q => h.run pins s σ H D I (i D σ H q)⟩
theorem pss_any {sts : List Stmt} (tk : Takes X W) : PSs X sts (AnyS X W m sts) := ⟨fun pins s σ H D I ⟨_, _, _, h, q⟩ => (h W tk).run pins s σ H D I q⟩
/-- what is wanted of a step's ends, from what is wanted behind: the heap went from H to H1 by then -/
theorem tSS_go {sts : List Stmt} {D : Ends} {σ1 : Sl} {Γ1 : Gam} {H H1 : Hp} {fp fp1 : List Addr} (h : SS X R m sts Γ1 P) (E1 : Env X.K Γ1 σ1 H1 fp1) (f1 : Fr fp fp1 H H1)
    (k : (∀ σ' Γ' H' fp', P.nx Γ' → Env X.K Γ' σ' H' fp' → Fr fp fp' H H' → D.nx σ' H') ∧
      (∀ v d fv σ' Γ' H' fp', P.rt d Γ' → Own X.K H' m v d fv → EnvOk X.K H' Γ' σ' fp' → (fv ++ fp').Nodup → Fr fp (fv ++ fp') H H' → D.rt v H') ∧
      (∀ σ' Γ' H' fp', P.bk Γ' → Env X.K Γ' σ' H' fp' → Fr fp fp' H H' → D.bk σ' H') ∧
      (∀ σ' Γ' H' fp', P.ct Γ' → Env X.K Γ' σ' H' fp' → Fr fp fp' H H' → D.ct σ' H') ∧ XC X.K W R fp H) : AnyS X W m sts D σ1 H1 :=
  ⟨R, Γ1, P, h, fp1, E1, fun σ' Γ' H' fp' p hE f => k.1 σ' Γ' H' fp' p hE (f1.trans f), fun v d fv σ' Γ' H' fp' p o hE nd f => k.2.1 v d fv σ' Γ' H' fp' p o hE nd (f1.trans f),
    fun σ' Γ' H' fp' p hE f => k.2.2.1 σ' Γ' H' fp' p hE (f1.trans f), fun σ' Γ' H' fp' p hE f => k.2.2.2.1 σ' Γ' H' fp' p hE (f1.trans f), k.2.2.2.2.trans f1⟩
theorem ss_nil (h : P.nx Γ) : SS X R m [] Γ P := fun W tk => pss_weak pss_nil fun D σ H ⟨fp, hE, k, _⟩ => k σ Γ H fp h hE .refl
theorem ss_cons (h : S1 X R m st Γ { P with nx := fun Γ1 => SS X R m rest Γ1 P }) : SS X R m (st :: rest) Γ P := fun W tk =>
  pss_weak (pss_cons (h W tk) (pss_any (m := m) tk)) fun D σ H ⟨fp, hE, k⟩ => ⟨fp, hE, fun σ' Γ' H' fp' p E1 f1 => tSS_go p E1 f1 k, k.2⟩
theorem ss_one (h : S1 X R m st Γ P) : SS X R m [st] Γ P := fun W tk => pss_one (h W tk)
theorem SS.imp {sts : List Stmt} {P' : Po} (h : SS X R m sts Γ P) (h1 : ∀ Γ', P.nx Γ' → P'.nx Γ') (h2 : ∀ d Γ', P.rt d Γ' → P'.rt d Γ') (h3 : ∀ Γ', P.bk Γ' → P'.bk Γ') (h4 : ∀ Γ', P.ct Γ' → P'.ct Γ') : SS X R m sts Γ P' := fun W tk =>
  pss_weak (h W tk) fun D σ H ⟨fp, hE, k1, k2, k3, k4, x⟩ => ⟨fp, hE, fun σ' Γ' H' fp' p => k1 σ' Γ' H' fp' (h1 _ p), fun v d fv σ' Γ' H' fp' p => k2 v d fv σ' Γ' H' fp' (h2 _ _ p), fun σ' Γ' H' fp' p => k3 σ' Γ' H' fp' (h3 _ p), fun σ' Γ' H' fp' p => k4 σ' Γ' H' fp' (h4 _ p), x⟩
theorem s1_pass (h : P.nx Γ) : S1 X R m (.Pass pos) Γ P := fun W tk => ps_weak ps_pass fun D σ H ⟨fp, hE, k, _⟩ => k σ Γ H fp h hE .refl
theorem s1_continue (h : P.ct Γ) : S1 X R m (.Continue pos) Γ P := fun W tk => ps_weak ps_continue fun D σ H ⟨fp, hE, _, _, _, k, _⟩ => k σ Γ H fp h hE .refl
theorem s1_break (h : P.bk Γ) : S1 X R m (.Break pos) Γ P := fun W tk => ps_weak ps_break fun D σ H ⟨fp, hE, _, _, k, _⟩ => k σ Γ H fp h hE .refl
theorem s1_ret (h : EG X R m e Γ fun d Γ1 => P.rt d Γ1) : S1 X R m (.Return (some e) pos) Γ P := fun W tk =>
  ps_weak (ps_ret (pe_any (n := m) tk)) fun D σ H ⟨fp, hE, _, k, _, _, x⟩ => Any.go h hE x fun v d fv Γ' H' fp' p o hE' nd f => k v d fv σ Γ' H' fp' p o hE' nd f
theorem s1_expr (h : EV X R e Γ fun d Γ1 => P.nx Γ1) (hs : swapsWith e none pos.line X.env = pure false := by rfl) : S1 X R m (.Expr e pos) Γ P := fun W tk =>
  ps_weak (ps_expr (pe_any (n := 0) tk) hs) fun D σ H ⟨fp, hE, k, _, _, _, x⟩ => Any.go h hE x (Kt.of0 fun v d Γ' H' fp' p r hE' f => k σ Γ' H' fp' p hE' f)
theorem s1_if {xs ys : List Stmt} (h : ET X R c Γ fun k Γ1 => (k = true → SS X R m xs Γ1 P) ∧ (k = false → SS X R m ys Γ1 P)) : S1 X R m (.If c xs ys pos) Γ P := fun W tk =>
  ps_weak (ps_if (pt_any tk) (pss_any (m := m) tk) (pss_any (m := m) tk)) fun D σ H ⟨fp, hE, k⟩ => AnyT.go h hE k.2.2.2.2 fun d Γ1 H1 fp1 ⟨h1, h2⟩ E1 f1 => by
    cases d with
    | true => exact tSS_go (h1 rfl) E1 f1 k
    | false => exact tSS_go (h2 rfl) E1 f1 k
/-- name = e: the name holds data -/
theorem Env.putPv {K : Fg} {σ : Sl} {H : Hp} {fp : List Addr} {i : Nat} {v : V} {d : D} (hE : Env K Γ σ H fp) (hi : i < Γ.length) (r : Rep K H v d) : ∃ fp', Env K (Γ.set i (.pv d)) (σ.set i (some v)) H fp' ∧ ∀ a ∈ fp', a ∈ fp := by
  obtain ⟨g, h, q1, q2, _, _⟩ := hE.1.put hi
  exact ⟨g ++ h, ⟨q2 r, hE.2.sublist q1⟩, fun a m => q1.subset m⟩
theorem Env.putOw {K : Fg} {σ : Sl} {H : Hp} {fp fv : List Addr} {i : Nat} {v : V} {d : D} (hE : EnvOk K H Γ σ fp) (nd : (fv ++ fp).Nodup) (hi : i < Γ.length) (o : Own K H n v d fv) : ∃ fp', Env K (Γ.set i (.ow v n d)) (σ.set i (some v)) H fp' ∧ ∀ a ∈ fp', a ∈ fv ++ fp := by
  obtain ⟨g, h, q1, _, _, q4⟩ := hE.put hi
  refine ⟨g ++ (fv ++ h), ⟨q4 o, ?_⟩, fun a m => ?_⟩
  · have p1 : (fv ++ (g ++ h)).Nodup := nd.sublist (q1.append_left fv)
    have p2 : (fv ++ (g ++ h)).Perm (g ++ (fv ++ h)) := by
      rw [← List.append_assoc, ← List.append_assoc]
      exact List.perm_append_comm.append_right h
    exact p2.nodup_iff.mp p1
  · simp only [List.mem_append] at m ⊢
    rcases m with m | m | m
    · exact .inr (q1.subset (List.mem_append_left _ m))
    · exact .inl m
    · exact .inr (q1.subset (List.mem_append_right _ m))
theorem s1_set (i : Nat) {x : Str} {pos' : Pos} (h : EV X R e Γ fun d Γ1 => i < Γ1.length ∧ P.nx (Γ1.set i (.pv d))) (hN : X.N.Nodup) (hi : X.N[i]? = some x := by rfl) (hx : Loc X.env.scope x := by first | exact Or.inl rfl | exact Or.inr rfl)
    (hs : swapsWith e (some (.Name x pos')) pos.line X.env = pure false := by rfl) (hf : X.fn x = true ∨ X.env.scope.names.lookup x = some .local := by first | exact .inl rfl | exact .inr rfl) : S1 X R m (.Assign [.Name x pos'] e pos) Γ P := fun W tk =>
  ps_weak (ps_set hN hi hx (pe_any (n := 0) tk) hs hf) fun D σ H ⟨fp, hE, k, _, _, _, x⟩ => Any.go h hE x (Kt.of0 fun v d Γ1 H1 fp1 ⟨hl, p⟩ r E1 f1 => by
    obtain ⟨fp2, E2, sub⟩ := E1.putPv hl r
    exact k _ _ H1 fp2 p E2 (f1.sub sub))
theorem s1_setO (i n : Nat) {x : Str} {pos' : Pos} (h : EG X R n e Γ fun d Γ1 => i < Γ1.length ∧ ∀ v, P.nx (Γ1.set i (.ow v n d))) (hN : X.N.Nodup) (hi : X.N[i]? = some x := by rfl) (hx : Loc X.env.scope x := by first | exact Or.inl rfl | exact Or.inr rfl)
    (hs : swapsWith e (some (.Name x pos')) pos.line X.env = pure false := by rfl) (hf : X.fn x = true ∨ X.env.scope.names.lookup x = some .local := by first | exact .inl rfl | exact .inr rfl) : S1 X R m (.Assign [.Name x pos'] e pos) Γ P := fun W tk =>
  ps_weak (ps_set hN hi hx (pe_any (n := n) tk) hs hf) fun D σ H ⟨fp, hE, k, _, _, _, x⟩ => Any.go h hE x fun v d fv Γ1 H1 fp1 ⟨hl, p⟩ o E1 nd f1 => by
    obtain ⟨fp2, E2, sub⟩ := Env.putOw E1 nd hl o
    exact k _ _ H1 fp2 (p v) E2 (f1.sub sub)
end
end DL
set_option Elab.async false
set_option linter.all false
set_option maxRecDepth 100000
set_option maxHeartbeats 1000000
namespace DL
open PySem PySem.Spec PyProof.Rows L2

/-! ### what a def does, on data -/
/-- from the arguments' slots: what it may hand back (with the slots behind), what it may raise -/
abbrev FS := Gam → (D → Gam → Prop) → XP → Prop
def XE' (K : Fg) (R : XP) (σ : Sl) (fp : List Addr) (H : Hp) (E : XK) : Prop :=
  ∀ C dd fs Γ' H' fp', R C fs Γ' → FldAt K H' dd fs → Env K Γ' σ H' fp' → Fr fp fp' H H' → E (.ref C) (some dd) H'
def SpD (K : Fg) (n m : Nat) (f : FS) : Sp := fun vs H Q E => vs.length = m ∧ ∃ Γ fp P R, f Γ P R ∧ Env K Γ (vs.map some) H fp ∧ Kt K n P (vs.map some) fp H Q ∧ XE' K R (vs.map some) fp H E
/-- the parameters' slots behind: what is still owned at the same place -/
def sh : Gam → Gam → Gam
  | .ow v _ _ :: Γ, .ow v' n' d' :: Γ' => (if v = v' then .ow v' n' d' else .no) :: sh Γ Γ'
  | _ :: Γ, _ :: Γ' => .no :: sh Γ Γ'
  | _, _ => []
theorem sh_ok {K : Fg} {H H' : Hp} : ∀ {Γ : Gam} {vs : List V} {fp : List Addr} {Γ' : Gam} {σ' : Sl} {fp' : List Addr}, EnvOk K H Γ (vs.map some) fp → Γ.length ≤ Γ'.length → EnvOk K H' Γ' σ' fp' →
    ∃ fq, fq.Sublist fp' ∧ EnvOk K H' (sh Γ Γ') (vs.map some) fq := by
  intro Γ
  induction Γ with
  | nil =>
    intro vs fp Γ' σ' fp' h _ h'
    cases vs with
    | nil => exact ⟨[], List.nil_sublist _, by cases Γ' <;> exact .nil h'.tb⟩
    | cons v vs => cases h
  | cons s Γ ih =>
    intro vs fp Γ' σ' fp' h hl h'
    cases vs with
    | nil => cases h
    | cons v vs =>
      cases Γ' with
      | nil => simp at hl
      | cons s' Γ' =>
        have hl' : Γ.length ≤ Γ'.length := by simpa using hl
        have rest : ∀ {fp1 fp2 σ2}, EnvOk K H Γ (vs.map some) fp1 → EnvOk K H' Γ' σ2 fp2 → ∃ fq, fq.Sublist fp2 ∧ EnvOk K H' (sh Γ Γ') (vs.map some) fq := fun a b => ih a hl' b
        cases h with
        | no r =>
          cases h' with
          | no r' => obtain ⟨fq, q1, q2⟩ := rest r r'; exact ⟨fq, q1, .no q2⟩
          | pv _ r' => obtain ⟨fq, q1, q2⟩ := rest r r'; exact ⟨fq, q1, .no q2⟩
          | fx _ r' => obtain ⟨fq, q1, q2⟩ := rest r r'; exact ⟨fq, q1, .no q2⟩
          | ow _ r' => obtain ⟨fq, q1, q2⟩ := rest r r'; exact ⟨fq, q1.trans (List.sublist_append_right _ _), .no q2⟩
        | pv _ r =>
          cases h' with
          | no r' => obtain ⟨fq, q1, q2⟩ := rest r r'; exact ⟨fq, q1, .no q2⟩
          | pv _ r' => obtain ⟨fq, q1, q2⟩ := rest r r'; exact ⟨fq, q1, .no q2⟩
          | fx _ r' => obtain ⟨fq, q1, q2⟩ := rest r r'; exact ⟨fq, q1, .no q2⟩
          | ow _ r' => obtain ⟨fq, q1, q2⟩ := rest r r'; exact ⟨fq, q1.trans (List.sublist_append_right _ _), .no q2⟩
        | fx _ r =>
          cases h' with
          | no r' => obtain ⟨fq, q1, q2⟩ := rest r r'; exact ⟨fq, q1, .no q2⟩
          | pv _ r' => obtain ⟨fq, q1, q2⟩ := rest r r'; exact ⟨fq, q1, .no q2⟩
          | fx _ r' => obtain ⟨fq, q1, q2⟩ := rest r r'; exact ⟨fq, q1, .no q2⟩
          | ow _ r' => obtain ⟨fq, q1, q2⟩ := rest r r'; exact ⟨fq, q1.trans (List.sublist_append_right _ _), .no q2⟩
        | ow o r =>
          cases h' with
          | no r' => obtain ⟨fq, q1, q2⟩ := rest r r'; exact ⟨fq, q1, .no q2⟩
          | pv _ r' => obtain ⟨fq, q1, q2⟩ := rest r r'; exact ⟨fq, q1, .no q2⟩
          | fx _ r' => obtain ⟨fq, q1, q2⟩ := rest r r'; exact ⟨fq, q1, .no q2⟩
          | ow o' r' =>
            obtain ⟨fq, q1, q2⟩ := rest r r'
            rename_i f _ n d f' v' n' d'
            by_cases e : v = v'
            · subst e
              refine ⟨_, q1.append_left _, ?_⟩
              simp only [sh, if_true]
              exact .ow o' q2
            · refine ⟨fq, q1.trans (List.sublist_append_right _ _), ?_⟩
              simp only [sh, if_neg e]
              exact .no q2
theorem start_ok {K : Fg} {H : Hp} {N : List Str} : ∀ {Γ : Gam} {vs : List V} {fp : List Addr}, EnvOk K H Γ (vs.map some) fp → EnvOk K H (Γ ++ List.replicate (N.length - vs.length) .no) (L2.start N vs) fp := by
  intro Γ vs fp h
  have tail : ∀ k : Nat, EnvOk K H (List.replicate k .no) (List.replicate k none) [] := by
    intro k
    induction k with
    | zero => exact .nil h.tb
    | succ k ih => rw [List.replicate_succ, List.replicate_succ]; exact .no ih
  unfold L2.start
  generalize N.length - vs.length = k
  generalize hσ : vs.map some = σ at h
  clear hσ
  induction h with
  | nil => exact tail k
  | no _ ih => exact .no ih
  | pv r _ ih => exact .pv r ih
  | fx r _ ih => exact .fx r ih
  | ow o _ ih => exact .ow o ih
/-- what a def's body must do -/
def fin (Γ : Gam) (P : D → Gam → Prop) : Po := { nx := fun Γ' => Γ.length ≤ Γ'.length ∧ P .none (sh Γ Γ'), rt := fun d Γ' => Γ.length ≤ Γ'.length ∧ P d (sh Γ Γ') }
def finX (Γ : Gam) (R : XP) : XP := fun C fs Γ' => Γ.length ≤ Γ'.length ∧ R C fs (sh Γ Γ')
section
variable {P : Program} {w : World} {K : Fg} {mg : Str → Option Value} {base : Heap}
theorem fn_d {x qual : Str} {st : Stmt} {f : Addr} {fd : FuncData} {N ps : List Str} {k n : Nat} {fs : FS} (F : Fun K x qual st f fd) (S : FnScope N ps (defScope st)) (nn : ∀ Γ Q R, fs Γ Q R → Γ.length = ps.length)
    (hb : ∀ (cdv : Value) (A : Around) (outer : List PySem.Env) (s : Shared) (H : Hp) (E : XK) (Γ : Gam) (Q : D → Gam → Prop) (R : XP), Rm k (cx P w K mg base N qual (defScope st) f cdv A outer s H E).A → fs Γ Q R →
      SS (cx P w K mg base N qual (defScope st) f cdv A outer s H E) (finX Γ R) n (defBody st) (Γ ++ List.replicate (N.length - ps.length) .no) (fin Γ Q)) : FnG P w K mg base (k + 1) f fd ps (SpD K n ps.length fs) := by
  refine fnG_of F S (fun vs H Q E h => h.1) fun cdv A outer s H vs Q E hr h => ?_
  obtain ⟨hl, Γ, fp, Pd, R, hf, hE, hk, hx⟩ := h
  have lenΓ := nn Γ Pd R hf
  refine ⟨_, hb cdv A outer s H E Γ Pd R hr hf _ (takes_of rfl rfl rfl rfl), fp, ⟨by rw [← hl]; exact start_ok hE.1, hE.2⟩, ?_, ?_, ?_, ?_, ?_⟩
  · intro σ' Γ' H' fp' ⟨hl', p⟩ E1 f1
    obtain ⟨fq, q1, q2⟩ := sh_ok hE.1 hl' E1.1
    refine hk .non .none [] _ H' fq p ?_ q2 (E1.2.sublist q1) (f1.sub fun a m => q1.subset m)
    cases n with
    | zero => exact ⟨.non, rfl⟩
    | succ n => exact .inr (.inr ⟨trivial, .non, rfl⟩)
  · intro v d fv σ' Γ' H' fp' ⟨hl', p⟩ o E1 nd f1
    obtain ⟨fq, q1, q2⟩ := sh_ok hE.1 hl' E1
    refine hk v d fv _ H' fq p o q2 (nd.sublist (q1.append_left fv)) (f1.sub fun a m => ?_)
    rcases List.mem_append.mp m with m | m
    · exact List.mem_append_left _ m
    · exact List.mem_append_right _ (q1.subset m)
  · intro σ' Γ' H' fp' z; exact z.elim
  · intro σ' Γ' H' fp' z; exact z.elim
  · intro C dd gs Γ' σ' H' fp' ⟨hl', r⟩ hf' E1 f1
    obtain ⟨fq, q1, q2⟩ := sh_ok hE.1 hl' E1.1
    exact hx C dd gs _ H' fq r hf' ⟨q2, E1.2.sublist q1⟩ (f1.sub fun a m => q1.subset m)
end

/-! ### a call -/
/-- the arguments' slots, as they stand at the call -/
def resA (Γ : Gam) : List AV → Option Gam
  | [] => some []
  | .pv d :: as => (resA Γ as).map (.pv d :: ·)
  | .sl j :: as => match Γ[j]? with
    | some (.ow v n d) => (resA (Γ.set j .no) as).map (.ow v n d :: ·)
    | _ => none
/-- the slots behind a call -/
def updA (Γ : Gam) : List AV → Gam → Gam
  | .sl j :: as, s :: ss => (updA (Γ.set j .no) as ss).set j s
  | .pv _ :: as, _ :: ss => updA Γ as ss
  | _, _ => Γ
theorem set_same {α : Type} : ∀ {l : List α} {j : Nat} {x : α}, l[j]? = some x → l.set j x = l
  | [], _, _, h => by simp at h
  | a :: l, 0, x, h => by simp at h; subst h; rfl
  | a :: l, j + 1, x, h => by
    show a :: l.set j x = a :: l
    rw [set_same (by simpa using h)]
theorem updA_len : ∀ (as : List AV) (Γ ss : Gam), (updA Γ as ss).length = Γ.length
  | [], _, _ => by simp [updA]
  | .pv _ :: as, Γ, [] => by simp [updA]
  | .sl _ :: as, Γ, [] => by simp [updA]
  | .pv _ :: as, Γ, s :: ss => by simp only [updA]; exact updA_len as Γ ss
  | .sl j :: as, Γ, s :: ss => by simp only [updA, List.length_set]; rw [updA_len as _ ss, List.length_set]
theorem Nodup.swap {α : Type} {a b c : List α} (h : (a ++ (b ++ c)).Nodup) : (b ++ (a ++ c)).Nodup := by
  have p : (a ++ (b ++ c)).Perm (b ++ (a ++ c)) := by
    rw [← List.append_assoc, ← List.append_assoc]
    exact List.perm_append_comm.append_right c
  exact p.nodup_iff.mp h
/-- the objects that a call is handed are lent: what they own, what the others own, and how all stands behind -/
theorem lend {K : Fg} {H : Hp} {σ : Sl} : ∀ {as : List AV} {Γ Γa : Gam} {fp : List Addr} {vs : List V}, EnvOk K H Γ σ fp → fp.Nodup → AvAll K σ H as vs → resA Γ as = some Γa →
    ∃ fa g, (∀ a, a ∈ fa ∨ a ∈ g ↔ a ∈ fp) ∧ (fa ++ g).Nodup ∧ EnvOk K H Γa (vs.map some) fa ∧
      ∀ {Γ' fa' H'}, Ez H H' → (∀ a ∈ g, H' a = H a) → EnvOk K H' Γ' (vs.map some) fa' → (fa' ++ g).Nodup → ∃ fq, (∀ a ∈ fq, a ∈ fa' ∨ a ∈ g) ∧ fq.Nodup ∧ EnvOk K H' (updA Γ as Γ') σ fq
  | [], Γ, Γa, fp, vs, hE, nd, hv, hr => by
    cases hv
    simp only [resA, Option.some.injEq] at hr
    subst hr
    exact ⟨[], fp, by simp, by simpa using nd, .nil hE.tb, fun {Γ' fa' H'} z k hE' nd' => ⟨fp, fun a m => .inr m, nd, by
      cases hE'
      simp only [updA]
      exact hE.mono z k⟩⟩
  | .pv d :: as, Γ, Γa, fp, _, hE, nd, .cons hv hvs, hr => by
    simp only [resA, Option.map_eq_some_iff] at hr
    obtain ⟨Γb, hr, rfl⟩ := hr
    obtain ⟨fa, g, q1, q2, q3, q4⟩ := lend hE nd hvs hr
    refine ⟨fa, g, q1, q2, .pv hv q3, fun {Γ' fa' H'} z k hE' nd' => ?_⟩
    cases hE' with
    | no r => simp only [updA]; exact q4 z k r nd'
    | pv _ r => simp only [updA]; exact q4 z k r nd'
    | fx _ r => simp only [updA]; exact q4 z k r nd'
    | ow _ r =>
      simp only [updA]
      obtain ⟨fq, p1, p2, p3⟩ := q4 z k r (nd'.sublist ((List.sublist_append_right _ _).append_right g))
      exact ⟨fq, fun a m => (p1 a m).imp (List.mem_append_right _) id, p2, p3⟩
  | .sl j :: as, Γ, Γa, fp, _, hE, nd, .cons (v := v) (vs := vs) hv hvs, hr => by
    unfold resA at hr
    split at hr
    · rename_i v' n d hj
      simp only [Option.map_eq_some_iff] at hr
      obtain ⟨Γb, hr, rfl⟩ := hr
      obtain ⟨f, g1, h1, rfl, e, o, _, _, hno⟩ := hE.owAt hj
      have ev : v' = v := by
        have hv' : σ[j]? = some (some v) := hv
        rw [e] at hv'
        simpa using hv'
      subst ev
      have nd2 : (f ++ (g1 ++ h1)).Nodup := Nodup.swap nd
      obtain ⟨ndf, ndr, dis⟩ := List.nodup_append.mp nd2
      obtain ⟨fa, g, q1, q2, q3, q4⟩ := lend (hno (.refl H) fun _ _ => rfl) ndr hvs hr
      refine ⟨f ++ fa, g, fun a => ?_, ?_, .ow o q3, fun {Γ' fa' H'} z k hE' nd' => ?_⟩
      · have := q1 a
        simp only [List.mem_append] at this ⊢
        constructor
        · rintro ((m | m) | m)
          · exact .inr (.inl m)
          · exact (this.mp (.inl m)).elim .inl fun z => .inr (.inr z)
          · exact (this.mp (.inr m)).elim .inl fun z => .inr (.inr z)
        · rintro (m | m | m)
          · exact (this.mpr (.inl m)).elim (fun z => .inl (.inr z)) .inr
          · exact .inl (.inl m)
          · exact (this.mpr (.inr m)).elim (fun z => .inl (.inr z)) .inr
      · rw [List.append_assoc]
        refine List.nodup_append.mpr ⟨ndf, q2, fun a m b m' => dis a m b ?_⟩
        exact (q1 b).mp (List.mem_append.mp m')
      · have hlen : j < (Γ.set j .no).length := by
          rw [List.length_set]
          exact (List.getElem?_eq_some_iff.mp hj).1
        have back : ∀ {s : SV} {ss : Gam} {fs fr : List Addr}, (fs ++ (fr ++ g)).Nodup → EnvOk K H' [s] [some v'] fs → EnvOk K H' ss (vs.map some) fr → ∃ fq, (∀ a ∈ fq, a ∈ fs ++ fr ∨ a ∈ g) ∧ fq.Nodup ∧ EnvOk K H' ((updA (Γ.set j .no) as ss).set j s) σ fq := by
          intro s ss fs fr nds hs hrr
          obtain ⟨fq, p1, p2, p3⟩ := q4 z k hrr (List.nodup_append.mp nds).2.1
          obtain ⟨g2, h2, w1, w2, w3, w4⟩ := p3.put (i := j) (by rw [updA_len]; exact hlen)
          have disj : ∀ a ∈ fs, a ∉ fq := fun a m m' => by
            refine (List.nodup_append.mp nds).2.2 a m a ?_ rfl
            exact List.mem_append.mpr (p1 a m')
          cases hs with
          | no r =>
            cases r
            refine ⟨g2 ++ h2, fun a m => ?_, p2.sublist w1, ?_⟩
            · exact (p1 a (w1.subset m)).imp (List.mem_append_right _) id
            · have := w3 (x := some v'); rw [set_same e] at this; exact this
          | pv r0 r =>
            cases r
            refine ⟨g2 ++ h2, fun a m => ?_, p2.sublist w1, ?_⟩
            · exact (p1 a (w1.subset m)).imp (List.mem_append_right _) id
            · have := w2 r0; rw [set_same e] at this; exact this
          | fx r0 r =>
            cases r
            refine ⟨g2 ++ h2, fun a m => ?_, p2.sublist w1, ?_⟩
            · exact (p1 a (w1.subset m)).imp (List.mem_append_right _) id
            · have t := w3 (x := some v'); rw [set_same e] at t
              have t2 := t.toFx (i := j) (by rw [List.getElem?_set_self (by rw [updA_len]; exact hlen)]) e r0
              rw [List.set_set] at t2
              exact t2
          | ow o0 r =>
            cases r
            rw [List.append_nil] at disj
            refine ⟨_, fun a m => ?_, ?_, by have := w4 o0; rw [set_same e] at this; exact this⟩
            · simp only [List.mem_append] at m ⊢
              rcases m with m | m | m
              · exact (p1 a (w1.subset (List.mem_append_left _ m))).imp .inr id
              · exact .inl (.inl (by simpa using m))
              · exact (p1 a (w1.subset (List.mem_append_right _ m))).imp .inr id
            · refine Nodup.swap (List.nodup_append.mpr ⟨?_, p2.sublist w1, fun a m b m' q => ?_⟩)
              · have := (List.nodup_append.mp nds).1
                simpa using this
              · subst q
                exact disj a (by simpa using m) (w1.subset m')
        cases hE' with
        | no r => exact back (fs := []) (by simpa using nd') (.no (.nil r.tb)) r
        | pv r0 r => exact back (fs := []) (by simpa using nd') (.pv r0 (.nil r.tb)) r
        | fx r0 r => exact back (fs := []) (by simpa using nd') (.fx r0 (.nil r.tb)) r
        | ow o0 r =>
          rename_i Γ0 fp0 f0 n0 d0
          have q := back (fs := f0 ++ []) (by rw [List.append_nil, ← List.append_assoc]; exact nd') (.ow o0 (.nil r.tb)) r
          rw [List.append_nil] at q
          exact q
    · cases hr
end DL
set_option Elab.async false
set_option linter.all false
set_option maxRecDepth 100000
set_option maxHeartbeats 1000000
namespace DL
open PySem PySem.Spec PyProof.Rows L2

/-- a def of the text, what it does on data, by most k calls one in another -/
structure Df (P : Program) (w : World) (K : Fg) (mg : Str → Option Value) (base : Heap) (k : Nat) (x : Str) (st : Stmt) (ps : List Str) (n : Nat) (fs : FS) : Prop where
  ex : ∃ qual f fd, Fun K x qual st f fd ∧ FnG P w K mg base k f fd ps (SpD K n ps.length fs) ∧ mg x = some (.ref f)
  bd : ∀ (qual : Str) (kV doc pm : Value) (an : Option Addr) (cdv ct : Value) (us : List Value), us.length = ps.length → bindArgs (PySem.W.fnOf x qual (defArgs st) (defBody st) (defScope st) .none kV doc pm an cdv ct) ⟨us, []⟩ = pure (ps.zip us)
section
variable {P : Program} {w : World} {K : Fg} {mg : Str → Option Value} {base : Heap}
theorem Df.mono {j k : Nat} {x : Str} {st : Stmt} {ps : List Str} {n : Nat} {fs : FS} (F : Df P w K mg base j x st ps n fs) (h : j ≤ k) : Df P w K mg base k x st ps n fs := by
  obtain ⟨qual, f, fd, h1, h2, h3⟩ := F.ex
  exact ⟨⟨qual, f, fd, h1, h2.mono h, h3⟩, F.bd⟩
/-- a weaker promise -/
theorem Df.imp {k : Nat} {x : Str} {st : Stmt} {ps : List Str} {n : Nat} {fs fs' : FS} (F : Df P w K mg base k x st ps n fs) (h : ∀ Γ Q R, fs' Γ Q R → fs Γ Q R) : Df P w K mg base k x st ps n fs' := by
  obtain ⟨qual, f, fd, h1, h2, h3⟩ := F.ex
  refine ⟨⟨qual, f, fd, h1, ⟨fun vs H Q E z => z.1, fun A outer s H args us vs Q E hr e0 hb hv hs => h2.run A outer s H args us vs Q E hr e0 hb hv ?_⟩, h3⟩, F.bd⟩
  obtain ⟨hl, Γ, fp, Pd, R, q, r⟩ := hs
  exact ⟨hl, Γ, fp, Pd, R, h _ _ _ q, r⟩
end
section
variable {X : Cx} {R : XP} {W : WX} {Γ : Gam} {m n : Nat} {e a b c : Expr} {es : List Expr} {kws : List Keyword} {pos p : Pos}
theorem AvAll.length {K : Fg} {σ : Sl} {H : Hp} : ∀ {as : List AV} {vs : List V}, AvAll K σ H as vs → as.length = vs.length
  | _, _, .nil => rfl
  | _, _, .cons _ r => congrArg (· + 1) (AvAll.length r)
/-- the call itself, the arguments reckoned, in the parameters' sequence -/
theorem run_d {k : Nat} {ps : List Str} {fs : FS} {f : Addr} {fd : FuncData} {P : D → Gam → Prop} {Γ1 Γa : Gam} {as : List AV} {vs : List V} {us ws : List Value} {kw : List (Str × Value)} {pins : List (Addr × Obj)} {σ : Sl} {H H1 : Hp} {fp fp1 : List Addr} {s1 : Shared} {Q : VK}
    (F : FnG X.prog X.w X.K X.mg X.base k f fd ps (SpD X.K n ps.length fs)) (hr : Rm k X.A) (tk : Takes X W) (I1 : Inv X pins σ H1 s1) (rv : Vals vs us) (hb : BindsTo s1 fd ⟨ws, kw⟩ (ps.zip us))
    (hl : as.length = ps.length) (hres : resA Γ1 as = some Γa) (hf : fs Γa (fun d Γ' => P d (updA Γ1 as Γ')) fun C gs Γ' => R C gs (updA Γ1 as Γ'))
    (av : AvAll X.K σ H1 as vs) (E1 : Env X.K Γ1 σ H1 fp1) (f1 : Fr fp fp1 H H1) (kk : Kt X.K n P σ fp H Q) (x : XC X.K W R fp H) :
    wpAny (model X.prog X.w) X.A (call (.ref f) ws kw) (EP X pins σ Q) X.xe s1 := by
  obtain ⟨fa, g, q1, q2, q3, q4⟩ := lend E1.1 E1.2 av hres
  have inG : ∀ a ∈ g, a ∉ fa := fun a ma mb => (List.nodup_append.mp q2).2.2 a mb a ma rfl
  have back : ∀ {Γ' : Gam} {H' : Hp} {fp' fv : List Addr}, EnvOk X.K H' Γ' (vs.map some) fp' → (fv ++ fp').Nodup → Fr fa (fv ++ fp') H1 H' →
      ∃ fq, (fv ++ fq).Nodup ∧ EnvOk X.K H' (updA Γ1 as Γ') σ fq ∧ Fr fp (fv ++ fq) H H' := fun {Γ' H' fp' fv} hE' nd fr => by
    have apart : ∀ a ∈ fv ++ fp', a ∉ g := fun a ma mg => by
      rcases fr.new a ma with z | z
      · exact inG a mg z
      · exact (E1.1.wr a ((q1 a).mp (.inr mg))).ne z
    obtain ⟨fq, p1, p2, p3⟩ := q4 fr.ez (fun a ma => by
      obtain ⟨u, eu, _⟩ := (E1.1.wr a ((q1 a).mp (.inr ma))).mut
      exact fr.sameW (E1.1.wr a ((q1 a).mp (.inr ma))) (inG a ma)) hE' (List.nodup_append.mpr ⟨(List.nodup_append.mp nd).2.1, (List.nodup_append.mp q2).2.1, fun a ma b mb z => apart a (List.mem_append_right _ ma) (z ▸ mb)⟩)
    refine ⟨fq, List.nodup_append.mpr ⟨(List.nodup_append.mp nd).1, p2, fun a ma b mb z => ?_⟩, p3, f1.trans ⟨fun a o e t ma => fr.keep a o e t fun mb => ma ((q1 a).mp (.inl mb)), fun a ma => ?_, fr.dom, fr.ez⟩⟩
    · subst z
      rcases p1 a mb with z | z
      · exact (List.nodup_append.mp nd).2.2 a ma a z rfl
      · exact apart a (List.mem_append_left _ ma) z
    · rcases List.mem_append.mp ma with ma | ma
      · exact (fr.new a (List.mem_append_left _ ma)).imp (fun z => (q1 a).mp (.inl z)) id
      · rcases p1 a ma with z | z
        · exact (fr.new a (List.mem_append_right _ z)).imp (fun z => (q1 a).mp (.inl z)) id
        · exact .inl ((q1 a).mp (.inr z))
  have hsp : SpD X.K n ps.length fs vs H1 Q (WE W σ) := by
    refine ⟨by rw [← av.length, hl], Γa, fa, _, _, hf, ⟨q3, (List.nodup_append.mp q2).1⟩, fun v d fv Γ' H' fp' p o hE' nd fr => ?_, fun C dd gs Γ' H' fp' r hfd hE' fr => ?_⟩
    · obtain ⟨fq, z1, z2, z3⟩ := back hE' nd fr
      exact kk v d fv _ H' fq p o z2 z1 z3
    · obtain ⟨fq, z1, z2, z3⟩ := back (fv := []) hE'.1 hE'.2 fr
      exact x C dd gs _ σ H' fq r hfd ⟨z2, z1⟩ z3
  refine wpAny_call (codeAny_mono (F.run X.A X.stack s1 H1 ⟨ws, kw⟩ us vs Q (WE W σ) hr I1.env0 hb rv hsp) fun r s' hq => ?_)
  cases r with
  | error e => exact passAt tk σ pins H1 s1 e s' I1 hq
  | ok fl =>
    cases fl with
    | ret u => exact I1.after hq
    | next => exact hq.elim
    | brk => exact hq.elim
    | cont => exact hq.elim
theorem Df.binds {k : Nat} {x : Str} {st : Stmt} {ps : List Str} {fs : FS} {qual : Str} {f : Addr} {fd : FuncData} (F : Df X.prog X.w X.K X.mg X.base k x st ps n fs) (h : Fun X.K x qual st f fd) (s : Shared) {us : List Value} (hl : us.length = ps.length) : BindsTo s fd ⟨us, []⟩ (ps.zip us) := by
  obtain ⟨oc, od, kV, doc, pm, an, cdv, ct, osl, rfl, _, _⟩ := h.ex
  exact .of_eq (F.bd qual kV doc pm an cdv ct us hl)
/-- f(e, ..) -/
theorem eg_call {k j : Nat} {x : Str} {st : Stmt} {ps : List Str} {fs : FS} {P : D → Gam → Prop} (F : Df X.prog X.w X.K X.mg X.base k x st ps n fs) (hr : Rm j X.A) (hk : k ≤ j)
    (h : EA X R (e :: es) Γ fun as Γ1 => as.length = ps.length ∧ ∃ Γa, resA Γ1 as = some Γa ∧ fs Γa (fun d Γ' => P d (updA Γ1 as Γ')) fun C gs Γ' => R C gs (updA Γ1 as Γ'))
    (hg : Gl X x := by rfl) (hdb : (x == ("__debug__" : Str)) = false := by decide) (he : starEach (e :: es) X.env = (false, eval e X.env) :: starEach es X.env := by rfl) (hpl : (backTo pos (starEach es X.env)).any (·.1) = false := by rfl) :
    EG X R n (.Call (.Name x p) (e :: es) [] pos) Γ P := fun W tk => by
  refine ⟨fun pins s σ H Q I ⟨fp, hE, kk, xx⟩ => ?_⟩
  obtain ⟨qual, f, fd, h1, h2, h3⟩ := F.ex
  refine wpAny_Call_Name_kw (ld_glob I hg h3 ?_ hdb)
  refine PySem.W.callWith_K (h₀ := X.base) I.ok.mod.kin h1.kp (thn ((pa_any (W := W) tk).run pos pins s σ H (fun vs H1 => ∃ as Γ1 Γa fp1, as.length = ps.length ∧ resA Γ1 as = some Γa ∧ fs Γa (fun d Γ' => P d (updA Γ1 as Γ')) (fun C gs Γ' => R C gs (updA Γ1 as Γ')) ∧
    AvAll X.K σ H1 as vs ∧ Env X.K Γ1 σ H1 fp1 ∧ Fr fp fp1 H H1) I (AnyA.go h hE xx fun vs as Γ1 H1 fp1 ⟨hl, Γa, q1, q2⟩ av E1 f1 => ⟨as, Γ1, Γa, fp1, hl, q1, q2, av, E1, f1⟩)) fun us s1 ⟨vs, H1, I1, rv, as, Γ1, Γa, fp1, hl, q1, q2, av, E1, f1⟩ => ⟨I1.kIn, ?_⟩) he hpl
  exact run_d h2 (hr.mono hk) tk I1 rv (F.binds h1 s1 (by show us.length = _; rw [← rv.length, ← av.length, hl])) hl q1 q2 av E1 f1 kk xx
/-- f() -/
theorem eg_call0 {k j : Nat} {x : Str} {st : Stmt} {fs : FS} {P : D → Gam → Prop} (F : Df X.prog X.w X.K X.mg X.base k x st [] n fs) (hr : Rm j X.A) (hk : k ≤ j)
    (h : fs [] (fun d _ => P d Γ) fun C gs _ => R C gs Γ) (hg : Gl X x := by rfl) (hdb : (x == ("__debug__" : Str)) = false := by decide) :
    EG X R n (.Call (.Name x p) [] [] pos) Γ P := fun W tk => by
  refine ⟨fun pins s σ H Q I ⟨fp, hE, kk, xx⟩ => ?_⟩
  obtain ⟨qual, f, fd, h1, h2, h3⟩ := F.ex
  refine wpAny_Call_Name_kw (ld_glob I hg h3 ?_ hdb)
  exact PySem.W.callWith_K0 I.kIn h1.kp (run_d (as := []) (us := []) (vs := []) h2 (hr.mono hk) tk I .nil (F.binds h1 s rfl) rfl rfl (by simpa [updA] using h) .nil hE .refl kk xx)

/-! ### a call by names -/
def tEK (K : Fg) (W : WX) (R : XP) (Γ : Gam) (P : List AV → Gam → Prop) : TA := tEA K W R Γ P
def EK (X : Cx) (R : XP) (kws : List Keyword) (Γ : Gam) (P : List AV → Gam → Prop) : Prop := ∀ W, Takes X W → PK X kws (tEA X.K W R Γ P)
def AnyK (X : Cx) (W : WX) (kws : List Keyword) : TA := fun σ H Q => ∃ R Γ P, EK X R kws Γ P ∧ tEA X.K W R Γ P σ H Q
theorem pk_any (tk : Takes X W) : PK X kws (AnyK X W kws) := ⟨fun pos pins s σ H Q I ⟨_, _, _, h, q⟩ => (h W tk).run pos pins s σ H Q I q⟩
theorem pk_weak {t t' : TA} (h : PK X kws t) (i : ∀ σ H Q, t' σ H Q → t σ H Q) : PK X kws t' := ⟨fun pos pins s σ H Q I q => h.run pos pins s σ H Q I (i σ H Q q)⟩
theorem ek_nil {P : List AV → Gam → Prop} (h : P [] Γ) : EK X R [] Γ P := fun W tk => pk_weak pk_nil fun σ H Q ⟨fp, hE, k, _⟩ => k [] [] Γ H fp h .nil hE .refl
theorem ek_cons {nm : Option Str} {kpos : Pos} {P : List AV → Gam → Prop} (h : EV X R e Γ fun d Γ1 => EK X R kws Γ1 fun as Γ2 => P (.pv d :: as) Γ2) : EK X R (⟨nm, e, kpos⟩ :: kws) Γ P := fun W tk =>
  pk_weak (pk_cons (pe_any (n := 0) tk) (pk_any tk)) fun σ H Q ⟨fp, hE, k, x⟩ => Any.go h hE x (Kt.of0 fun v d Γ1 H1 fp1 h1 r E1 f1 =>
    ⟨R, Γ1, _, h1, fp1, E1, fun vs as Γ2 H2 fp2 p av E2 f2 => k (v :: vs) (.pv d :: as) Γ2 H2 fp2 p (.cons (a := .pv d) (r.mono f2.ez) av) E2 (f1.trans f2), x.trans f1⟩)
def pick {α : Type} (ix : List Nat) (l : List α) : List α := ix.filterMap (l[·]?)
theorem AvAll.get {K : Fg} {σ : Sl} {H : Hp} : ∀ {as : List AV} {vs : List V} (i : Nat), AvAll K σ H as vs → (∃ a v, as[i]? = some a ∧ vs[i]? = some v ∧ AvOk K σ H a v) ∨ (as[i]? = none ∧ vs[i]? = none)
  | _, _, _, .nil => .inr ⟨by simp, by simp⟩
  | _, _, 0, .cons h _ => .inl ⟨_, _, rfl, rfl, h⟩
  | _, _, i + 1, .cons _ r => by simpa using AvAll.get i r
theorem AvAll.pick {K : Fg} {σ : Sl} {H : Hp} {as : List AV} {vs : List V} (h : AvAll K σ H as vs) : ∀ ix : List Nat, AvAll K σ H (pick ix as) (pick ix vs)
  | [] => .nil
  | i :: ix => by
    have ih := AvAll.pick h ix
    unfold DL.pick at ih ⊢
    rcases h.get i with ⟨a, v, e1, e2, q⟩ | ⟨e1, e2⟩
    · rw [List.filterMap_cons, List.filterMap_cons, e1, e2]
      exact .cons q ih
    · rw [List.filterMap_cons, List.filterMap_cons, e1, e2]
      exact ih
theorem vals_pick {vs : List V} {us : List Value} (h : Vals vs us) : ∀ ix : List Nat, Vals (pick ix vs) (pick ix us)
  | [] => .nil
  | i :: ix => by
    have ih := vals_pick h ix
    unfold DL.pick at ih ⊢
    cases e1 : vs[i]? with
    | none =>
      rw [List.filterMap_cons, List.filterMap_cons, e1, h.none_of e1]
      exact ih
    | some v =>
      obtain ⟨u, e2, r⟩ := h.get e1
      rw [List.filterMap_cons, List.filterMap_cons, e1, e2]
      exact .cons r ih
/-- f(k = e, ..): ix tells, for each parameter, which of the keywords is its -/
theorem eg_callK {k j : Nat} {x : Str} {st : Stmt} {ps ks : List Str} {fs : FS} {P : D → Gam → Prop} (F : Df X.prog X.w X.K X.mg X.base k x st ps n fs) (hr : Rm j X.A) (hk : k ≤ j) (ix : List Nat)
    (hbd : ∀ (qual : Str) (kV doc pm : Value) (an : Option Addr) (cdv ct : Value) (us : List Value), us.length = ks.length → bindArgs (PySem.W.fnOf x qual (defArgs st) (defBody st) (defScope st) .none kV doc pm an cdv ct) ⟨[], ks.zip us⟩ = pure (ps.zip (pick ix us)))
    (hlk : kws.length = ks.length)
    (h : EK X R kws Γ fun as Γ1 => as.length = ks.length ∧ (pick ix as).length = ps.length ∧ ∃ Γa, resA Γ1 (pick ix as) = some Γa ∧ fs Γa (fun d Γ' => P d (updA Γ1 (pick ix as) Γ')) fun C gs Γ' => R C gs (updA Γ1 (pick ix as) Γ'))
    (hg : Gl X x := by rfl) (hdb : (x == ("__debug__" : Str)) = false := by decide) (hall : (backToKw pos (keywordEach kws X.env)).all (·.1.isSome) = true := by rfl) (hks : (backToKw pos (keywordEach kws X.env)).filterMap (·.1) = ks := by rfl)
    (hpl : ((backTo pos (starEach [] X.env)).any (·.1) || (backToKw pos (keywordEach kws X.env)).any (·.1.isNone)) = false := by rfl) :
    EG X R n (.Call (.Name x p) [] kws pos) Γ P := fun W tk => by
  refine ⟨fun pins s σ H Q I ⟨fp, hE, kk, xx⟩ => ?_⟩
  obtain ⟨qual, f, fd, h1, h2, h3⟩ := F.ex
  refine wpAny_Call_Name_kw (ld_glob I hg h3 ?_ hdb)
  refine PySem.W.callWith_KW0 (h₀ := X.base) I.ok.mod.kin h1.kp hall (thn ((pk_any (W := W) tk).run pos pins s σ H (fun vs H1 => ∃ as Γ1 Γa fp1, as.length = ks.length ∧ (pick ix as).length = ps.length ∧ resA Γ1 (pick ix as) = some Γa ∧ fs Γa (fun d Γ' => P d (updA Γ1 (pick ix as) Γ')) (fun C gs Γ' => R C gs (updA Γ1 (pick ix as) Γ')) ∧
    AvAll X.K σ H1 as vs ∧ Env X.K Γ1 σ H1 fp1 ∧ Fr fp fp1 H H1) I ⟨R, Γ, _, h, fp, hE, fun vs as Γ1 H1 fp1 ⟨hl, hl2, Γa, q1, q2⟩ av E1 f1 => ⟨as, Γ1, Γa, fp1, hl, hl2, q1, q2, av, E1, f1⟩, xx⟩) fun us s1 ⟨vs, H1, I1, rv, as, Γ1, Γa, fp1, hl, hl2, q1, q2, av, E1, f1⟩ => ⟨I1.kIn, ?_⟩) hpl
  rw [hks]
  obtain ⟨oc, od, kV, doc, pm, an, cdv, ct, osl, rfl, _, _⟩ := h1.ex
  exact run_d h2 (hr.mono hk) tk I1 (vals_pick rv ix) (.of_eq (hbd qual kV doc pm an cdv ct us (by rw [← rv.length, ← av.length, hl]))) hl2 q1 q2 (av.pick ix) E1 f1 kk xx
end
end DL
set_option Elab.async false
set_option linter.all false
set_option maxRecDepth 100000
set_option maxHeartbeats 1000000
namespace DL
open PySem PySem.Spec PyProof.Rows L2

section
variable {X : Cx} {f : Value → Value → Sem Value} {C : Int → Int → Prop} {i j : Int}
/-! ### arithmetic -/
theorem Own.int {K : Fg} {H : Hp} (k : Int) : Own K H 0 (.int k) (.int k) [] := ⟨.int k, rfl⟩
theorem bin_I {g : Int → Int → Int} (h : OpR X f (rI C fun i j => .int (g i j))) (c : C i j) : BinG X f 0 (.int i) (.int j) (.int (g i j)) :=
  fun pins s σ H x y v u Q I rx ry ⟨r1, r2, q⟩ => by
    cases r1
    cases r2
    exact h pins s σ H _ _ v u Q I rx ry ⟨i, j, rfl, rfl, c, q _ H [] (Own.int _) List.nodup_nil .refl⟩
theorem bin_I0 {g : Int → Int → Int} (h : OpR X f (rI0 fun i j => .int (g i j))) : BinG X f 0 (.int i) (.int j) (.int (g i j)) :=
  fun pins s σ H x y v u Q I rx ry ⟨r1, r2, q⟩ => by
    cases r1
    cases r2
    exact h pins s σ H _ _ v u Q I rx ry ⟨i, j, rfl, rfl, q _ H [] (Own.int _) List.nodup_nil .refl⟩
theorem b_add : BinG X (binaryOp .Add) 0 (.int i) (.int j) (.int (i + j)) := bin_I0 op_add
theorem b_sub : BinG X (binaryOp .Sub) 0 (.int i) (.int j) (.int (i - j)) := bin_I0 op_sub
theorem b_mul (c : CMul i j) : BinG X (binaryOp .Mult) 0 (.int i) (.int j) (.int (i * j)) := bin_I op_mul c
theorem b_mulW (c : CMulW i j) : BinG X (binaryOp .Mult) 0 (.int i) (.int j) (.int (i * j)) := bin_I op_mulW c
theorem b_fdiv (c : CDiv i j) : BinG X (binaryOp .FloorDiv) 0 (.int i) (.int j) (.int (i / j)) := bin_I op_fdiv c
theorem b_fdivW (c : CDivW i j) : BinG X (binaryOp .FloorDiv) 0 (.int i) (.int j) (.int (i / j)) := bin_I op_fdivW c
theorem b_mod (c : 0 < j) : BinG X (binaryOp .Mod) 0 (.int i) (.int j) (.int (i % j)) := bin_I (C := fun _ j => 0 < j) op_mod c
theorem b_pow (c : CPow i j) : BinG X (binaryOp .Pow) 0 (.int i) (.int j) (.int (i ^ j.toNat)) := bin_I op_pow c
theorem b_str {x y : Str} (h : x.length + y.length ≤ sizeLine) : BinG X (binaryOp .Add) 0 (.str x) (.str y) (.str (x ++ y)) :=
  fun pins s σ H a b v u Q I rx ry ⟨r1, r2, q⟩ => by
    cases r1
    cases r2
    exact op_add_str pins s σ H _ _ v u Q I rx ry ⟨x, y, rfl, rfl, h, q _ H [] ⟨.str _, rfl⟩ List.nodup_nil .refl⟩

/-! ### tuple + tuple, list + list, list * int: read only ones -/
theorem Fr.alloc1 {H : Hp} {p : Addr} {o : HO} (h : H p = none) : Fr [] [] H (upd H p o) := Fr.alloc0 h
theorem ret_lst {K : Fg} {H : Hp} {Q : VK} {vs : List V} {ds : List D} {p : Addr} (hp : H p = none) (r : RepAll K H vs ds) (q : ∀ v H' fv, Own K H' 1 v (.list ds) fv → fv.Nodup → Fr [] fv H H' → Q v H') : Q (.ref p) (upd H p (.lst vs)) :=
  q _ _ [p] (.inl ⟨p, vs, ds, [], rfl, rfl, upd_same, All3.of_rep (r.mono (ez_upd hp)), rfl⟩) (by simp) (Fr.alloc hp)
theorem ret_tup {K : Fg} {H : Hp} {Q : VK} {vs : List V} {ds : List D} {p : Addr} (hp : H p = none) (r : RepAll K H vs ds) (q : ∀ v H' fv, Own K H' 0 v (.tuple ds) fv → fv.Nodup → Fr [] fv H H' → Q v H') : Q (.ref p) (upd H p (.tup vs)) :=
  q _ _ [] ⟨own_tup hp r, rfl⟩ List.nodup_nil (Fr.alloc0 hp)
theorem b_tup {ds es : List D} (h : ds.length + es.length ≤ 1000) : BinG X (binaryOp .Add) 0 (.tuple ds) (.tuple es) (.tuple (ds ++ es)) :=
  fun pins s σ H a b v u Q I rx ry ⟨r1, r2, q⟩ => by
    cases r1 with
    | tup h1 a1 =>
      cases r2 with
      | tup h2 a2 =>
        have sz : sizeLine = 16777216 := sizeLine_eq
        refine op_catA pins s σ H _ _ v u Q I rx ry ⟨_, _, _, _, rfl, rfl, h1.sq, h2.sq, by rw [a1.length, a2.length]; omega, fun e => ?_, fun e e2 => ?_, fun e e2 p hp => ret_tup hp (a1.append a2) q⟩
        · subst e
          cases a1
          exact q _ H [] ⟨.tup h2 a2, rfl⟩ List.nodup_nil .refl
        · subst e2
          cases a2
          rw [List.append_nil] at q
          exact q _ H [] ⟨.tup h1 a1, rfl⟩ List.nodup_nil .refl
theorem b_lst {ds es : List D} (h : ds.length + es.length ≤ 1000) : BinG X (binaryOp .Add) 1 (.list ds) (.list es) (.list (ds ++ es)) :=
  fun pins s σ H a b v u Q I rx ry ⟨r1, r2, q⟩ => by
    have sz : sizeLine = 16777216 := sizeLine_eq
    cases r1 with
    | lst h1 a1 =>
      cases r2 with
      | lst h2 a2 =>
        obtain ⟨o1, h1⟩ := h1
        obtain ⟨o2, h2⟩ := h2
        cases rx
        cases ry
        obtain ⟨_, _, its, n, q1, e⟩ := (show ObjOk X.prog X.w H s.heap _ (.frz o1 (.lst _)) from I.hok _ _ h1)
        obtain ⟨_, _, its2, n2, q2, e2⟩ := (show ObjOk X.prog X.w H s.heap _ (.frz o2 (.lst _)) from I.hok _ _ h2)
        have l1 := q1.length
        have l2 := q2.length
        have m1 := a1.length
        have m2 := a2.length
        refine PySem.P.add_list e e2 ?_ (by rw [List.size_toArray, List.size_toArray]; omega)
        have ea : its.toArray ++ its2.toArray = (its ++ its2).toArray := by simp
        rw [ea]
        exact ⟨.ref _, _, I.lnew (t' := s.toks) (q1.append q2) (by rw [List.length_append]; omega), rfl, ret_lst I.fresh (a1.append a2) q⟩

theorem b_rep {ds : List D} {k : Int} (hk : -(2 ^ 63) ≤ k) (h0 : k ≤ 1000) (hl : ds.length ≤ 1000) : BinG X (binaryOp .Mult) 1 (.list ds) (.int k) (.list (List.replicate k.toNat ds).flatten) :=
  fun pins s σ H a b v u Q I rx ry ⟨r1, r2, q⟩ => by
    have sz : sizeLine = 16777216 := sizeLine_eq
    cases r2
    cases r1 with
    | lst h1 a1 =>
      obtain ⟨o1, h1⟩ := h1
      -- read through a view in which the list stands as a tracked one
      obtain ⟨_, _, its, n, q1, e⟩ := (show ObjOk X.prog X.w H s.heap _ (.frz o1 (.lst _)) from I.hok _ _ h1)
      cases rx
      obtain ⟨t, rfl⟩ := ry
      have l1 := q1.length
      have m1 := a1.length
      have kb : its.length * k.toNat ≤ 1000 * 1000 := Nat.mul_le_mul (by omega) (by omega)
      have hA : its.toArray.size * k.toNat ≤ sizeLine := by rw [List.size_toArray]; omega
      have hB : ¬ its.toArray.size * k.toNat > (2 ^ 63 - 1) / 8 := by
        have : (sizeLine : Nat) ≤ (2 ^ 63 - 1) / 8 := by decide
        omega
      have hF : ¬ (!Builtin.List.listFitsIndex k) = true := by
        rw [fitsIndex_both hk (by omega)]
        exact Bool.false_ne_true
      have hG : ¬ Builtin.List.listTooLong (its.toArray.size * k.toNat) = true := by
        rw [notLongL hA]
        exact Bool.false_ne_true
      have same : List.foldl (fun y1 y2 => y1 ++ y2) #[] (List.replicate (if its.toArray.isEmpty = true then 0 else k.toNat) its.toArray) = (List.replicate k.toNat its).flatten.toArray := by
        have each : ∀ m : Nat, List.foldl (fun y1 y2 => y1 ++ y2) #[] (List.replicate m its.toArray) = (List.replicate m its).flatten.toArray := fun m => by
          have z := foldl_rep its m []
          rw [List.nil_append] at z
          exact z
        rw [each]
        cases its with
        | nil => simp
        | cons _ _ => rw [if_neg (by simp)]
      refine wpAny_binaryOp_repeat_ref (T := "list") (U := "int") (by decide) ⟨_, e, rfl⟩ (fun s' => typeIs_int s' k t) noFill_list_mul F.fills_int_mul F.slot_int_rmul repeat_list F.slot_int_index.lookup
        (call_meets F.slot_int_rmul (typeIs_int s k t) F.entry_int_rmul (F.args_int_rmul_2 _ _) (int___rmul___int_list k t _ its.toArray n)
          ⟨e, rfl, ⟨_, e, rfl⟩, call_meets F.slot_list_mul ⟨_, e, rfl⟩ F.entry_list_mul (F.args_list_mul_2 _ _) (AutoListH.list___mul___list_int_3 _ its.toArray n k t hF hB hG) ⟨e, ?_⟩⟩)
      rw [same]
      exact ⟨.ref _, _, I.lnew (t' := s.toks) (q1.rep k.toNat) (by rw [PyProof.Rows.lm_len_rep_flat, l1, Nat.mul_comm]; omega), rfl, ret_lst I.fresh (a1.rep k.toNat) q⟩
end
end DL
set_option Elab.async false
set_option linter.all false
set_option maxRecDepth 100000
set_option maxHeartbeats 1000000
namespace DL
open PySem PySem.Spec PyProof.Rows L2
section
variable {X : Cx} {i j : Int} {op : CmpOp}
/-! ### comparisons -/
theorem cmp_I0 {g : Int → Int → Bool} (h : OpR X (compareOp op) (rI0 fun i j => .bl (g i j))) : CmpG X op (.int i) (.int j) (g i j) :=
  fun pins s σ H x y v u Q I rx ry ⟨r1, r2, q⟩ => by
    cases r1
    cases r2
    exact h pins s σ H _ _ v u Q I rx ry ⟨i, j, rfl, rfl, q⟩
theorem c_lt : CmpG X .Lt (.int i) (.int j) (decide (i < j)) := cmp_I0 op_lt
theorem c_le : CmpG X .LtE (.int i) (.int j) (decide (i ≤ j)) := cmp_I0 op_le
theorem c_gt : CmpG X .Gt (.int i) (.int j) (decide (j < i)) := cmp_I0 op_gt
theorem c_ge : CmpG X .GtE (.int i) (.int j) (decide (j ≤ i)) := cmp_I0 op_ge
theorem c_eqI : CmpG X .Eq (.int i) (.int j) (decide (i = j)) :=
  fun pins s σ H x y v u Q I rx ry ⟨r1, r2, q⟩ => by
    cases r1
    cases r2
    exact op_eq pins s σ H _ _ v u Q I rx ry ⟨rfl, by simpa using q⟩
theorem c_neI : CmpG X .NotEq (.int i) (.int j) (!decide (i = j)) :=
  fun pins s σ H x y v u Q I rx ry ⟨r1, r2, q⟩ => by
    cases r1
    cases r2
    exact op_ne pins s σ H _ _ v u Q I rx ry ⟨rfl, by simpa using q⟩
theorem c_eqS {x y : Str} : CmpG X .Eq (.str x) (.str y) (decide (x = y)) :=
  fun pins s σ H _ _ v u Q I rx ry ⟨r1, r2, q⟩ => by
    cases r1
    cases r2
    exact op_eq pins s σ H _ _ v u Q I rx ry ⟨rfl, by simpa using q⟩
theorem c_neS {x y : Str} : CmpG X .NotEq (.str x) (.str y) (!decide (x = y)) :=
  fun pins s σ H _ _ v u Q I rx ry ⟨r1, r2, q⟩ => by
    cases r1
    cases r2
    exact op_ne pins s σ H _ _ v u Q I rx ry ⟨rfl, by simpa using q⟩
theorem rep_non {K : Fg} {H : Hp} {v : V} {d : D} (h : Rep K H v d) : decide (v = .non) = (match d with | .none => true | _ => false) := by
  cases h <;> simp
def isN : D → Bool
  | .none => true
  | _ => false
theorem c_isN {d : D} : CmpG X .Is d .none (isN d) :=
  fun pins s σ H _ _ v u Q I rx ry ⟨r1, r2, q⟩ => by
    cases r2
    refine op_isN pins s σ H _ _ v u Q I rx ry ⟨rfl, ?_⟩
    cases r1 <;> simpa [isN] using q
theorem c_notN {d : D} : CmpG X .IsNot d .none (!isN d) :=
  fun pins s σ H _ _ v u Q I rx ry ⟨r1, r2, q⟩ => by
    cases r2
    refine op_notN pins s σ H _ _ v u Q I rx ry ⟨rfl, ?_⟩
    cases r1 <;> simpa [isN] using q
mutual
theorem Rep.dp {K : Fg} {H : Hp} : ∀ {v : V} {d : D}, Rep K H v d → d.canLay0 = true → Dp K H v d
  | _, _, .non, _ => .non
  | _, _, .bl b, _ => .bl b
  | _, _, .int b, _ => .int b
  | _, _, .str b, _ => .str b
  | _, _, .lst h r, c => .lst h.sq (RepAll.dp r (by simpa [PyData.canLay0] using c))
  | _, _, .tup h r, c => .tup h.sq (RepAll.dp r (by simpa [PyData.canLay0] using c))
  | _, _, .dct h r, c => by simp [PyData.canLay0] at c
  | _, _, .rng h, c => by simp [PyData.canLay0] at c
  | _, _, .xv h r, c => by simp [PyData.canLay0] at c
  | _, _, .hs h r, c => by simp [PyData.canLay0] at c
theorem RepAll.dp {K : Fg} {H : Hp} : ∀ {v : List V} {d : List D}, RepAll K H v d → PyData.canLayAll0 d = true → DpAll K H v d
  | _, _, .nil, _ => .nil
  | _, _, .cons h r, c => by
    have c := (Bool.and_eq_true_iff.mp (by simpa [PyData.canLayAll0] using c))
    exact .cons (Rep.dp h c.1) (RepAll.dp r c.2)
end
theorem c_eqD (hu : X.A.units + 64 < cLine) {d e : D} (h1 : SeqAt.shaped d = true) (h2 : SeqAt.shaped e = true) : CmpG X .Eq d e (PyData.eqv d e) :=
  fun pins s σ H _ _ v u Q I rx ry ⟨r1, r2, q⟩ => op_eqD hu pins s σ H _ _ v u Q I rx ry ⟨d, e, r1.dp (SeqAt.canLay_of_shaped h1), r2.dp (SeqAt.canLay_of_shaped h2), h1, h2, q⟩
theorem c_neD (hu : X.A.units + 64 < cLine) {d e : D} (h1 : SeqAt.shaped d = true) (h2 : SeqAt.shaped e = true) : CmpG X .NotEq d e (!PyData.eqv d e) :=
  fun pins s σ H _ _ v u Q I rx ry ⟨r1, r2, q⟩ => op_neD hu pins s σ H _ _ v u Q I rx ry ⟨d, e, r1.dp (SeqAt.canLay_of_shaped h1), r2.dp (SeqAt.canLay_of_shaped h2), h1, h2, q⟩
/-- flat data: what `in` looks through -/
def flatD : D → Bool
  | .none | .bool _ | .int _ | .str _ => true
  | _ => false
def eqF : D → D → Bool
  | .none, .none => true
  | .bool a, .bool b => a == b
  | .bool a, .int b => (if a then 1 else 0) == b
  | .int a, .bool b => a == (if b then 1 else 0)
  | .int a, .int b => a == b
  | .str a, .str b => a == b
  | _, _ => false
theorem rep_flat {K : Fg} {H : Hp} {v : V} {d : D} (h : Rep K H v d) (f : flatD d = true) : flatV v = true := by
  cases h <;> first | rfl | (simp [flatD] at f)
theorem rep_eqF {K : Fg} {H : Hp} {v u : V} {d e : D} (h : Rep K H v d) (f : flatD d = true) (h' : Rep K H u e) (f' : flatD e = true) : eqV v u = eqF d e := by
  cases h <;> first | (simp [flatD] at f; done) | (cases h' <;> first | (simp [flatD] at f'; done) | rfl)
theorem repAll_flat {K : Fg} {H : Hp} : ∀ {v : List V} {d : List D}, RepAll K H v d → d.all flatD = true → v.all flatV = true
  | _, _, .nil, _ => rfl
  | _, _, .cons h r, f => by
    rw [List.all_cons, Bool.and_eq_true] at f
    rw [List.all_cons, rep_flat h f.1, repAll_flat r f.2]; rfl
theorem repAll_in {K : Fg} {H : Hp} {v : V} {d : D} (h : Rep K H v d) (f : flatD d = true) : ∀ {vs : List V} {ds : List D}, RepAll K H vs ds → ds.all flatD = true → inV v vs = ds.any fun e => eqF e d
  | _, _, .nil, _ => rfl
  | _, _, .cons h1 r, g => by
    rw [List.all_cons, Bool.and_eq_true] at g
    have := repAll_in h f r g.2
    unfold inV at this ⊢
    rw [List.any_cons, List.any_cons, this, rep_eqF h1 g.1 h f]
def seqD : D → Option (List D)
  | .list ds => some ds
  | .tuple ds => some ds
  | _ => none
theorem c_in {d e : D} {ds : List D} (hs : seqD e = some ds) (f : flatD d = true) (g : ds.all flatD = true) : CmpG X .In d e (ds.any fun z => eqF z d) :=
  fun pins s σ H _ _ v u Q I rx ry ⟨r1, r2, q⟩ => by
    cases r2 with
    | lst h r => cases hs; exact op_in_seq pins s σ H _ _ v u Q I rx ry ⟨_, _, rfl, .inl h.sq, rep_flat r1 f, repAll_flat r g, by rw [← repAll_in r1 f r g] at q; exact q⟩
    | tup h r => cases hs; exact op_in_seq pins s σ H _ _ v u Q I rx ry ⟨_, _, rfl, .inr h.sq, rep_flat r1 f, repAll_flat r g, by rw [← repAll_in r1 f r g] at q; exact q⟩
    | _ => cases hs
theorem c_notIn {d e : D} {ds : List D} (hs : seqD e = some ds) (f : flatD d = true) (g : ds.all flatD = true) : CmpG X .NotIn d e (!ds.any fun z => eqF z d) :=
  fun pins s σ H _ _ v u Q I rx ry ⟨r1, r2, q⟩ => by
    cases r2 with
    | lst h r => cases hs; exact op_notIn_seq pins s σ H _ _ v u Q I rx ry ⟨_, _, rfl, .inl h.sq, rep_flat r1 f, repAll_flat r g, by rw [← repAll_in r1 f r g] at q; exact q⟩
    | tup h r => cases hs; exact op_notIn_seq pins s σ H _ _ v u Q I rx ry ⟨_, _, rfl, .inr h.sq, rep_flat r1 f, repAll_flat r g, by rw [← repAll_in r1 f r g] at q; exact q⟩
    | _ => cases hs
end
section
variable {X : Cx} {R : XP} {W : WX} {Γ : Gam} {n : Nat} {e a b c : Expr} {pos p : Pos} {rest es : List Expr}
/-! ### chains, minus -/
theorem chainT {op op' : CmpOp} {P : Bool → Gam → Prop} {σ : Sl} {H : Hp} {fp : List Addr} {Q : VK}
    (h : EV X R a Γ fun d1 Γ1 => EV X R b Γ1 fun d2 Γ2 => ∃ k, CmpG X op d1 d2 k ∧ (k = true → EV X R c Γ2 fun d3 Γ3 => ∃ k', CmpG X op' d2 d3 k' ∧ P k' Γ3) ∧ (k = false → P false Γ2)) (hE : Env X.K Γ σ H fp) (x : XC X.K W R fp H)
    (q : ∀ k Γ2 H2 fp2, P k Γ2 → Env X.K Γ2 σ H2 fp2 → Fr fp fp2 H H2 → Q (.bl k) H2) :
    tChain (fun v w H2 Q' => ∃ d1 d2 k, CmpG X op d1 d2 k ∧ Rep X.K H2 v d1 ∧ Rep X.K H2 w d2 ∧ Q' (.bl k) H2) (fun v w H2 Q' => ∃ d1 d2 k, CmpG X op' d1 d2 k ∧ Rep X.K H2 v d1 ∧ Rep X.K H2 w d2 ∧ Q' (.bl k) H2) (Any X W 0 a) (Any X W 0 b) (Any X W 0 c) σ H Q := by
  refine Any.go h hE x (Kt.of0 fun v d Γ1 H1 fp1 h1 r1 E1 f1 => ?_)
  refine Any.go h1 E1 (x.trans f1) (Kt.of0 fun w d2 Γ2 H2 fp2 ⟨k, hb, p1, p2⟩ r2 E2 f2 => ?_)
  refine ⟨d, d2, k, hb, r1.mono f2.ez, r2, k, rfl, ?_⟩
  cases k with
  | true =>
    rw [if_pos rfl]
    refine Any.go (p1 rfl) E2 ((x.trans f1).trans f2) (Kt.of0 fun z d3 Γ3 H3 fp3 ⟨k', hb', p⟩ r3 E3 f3 => ?_)
    exact ⟨d2, d3, k', hb', r2.mono f3.ez, r3, q k' Γ3 H3 fp3 p E3 ((f1.trans f2).trans f3)⟩
  | false =>
    rw [if_neg Bool.false_ne_true]
    exact q false Γ2 H2 fp2 (p2 rfl) E2 (f1.trans f2)
theorem ev_chain {op op' : CmpOp} {P : D → Gam → Prop}
    (h : EV X R a Γ fun d1 Γ1 => EV X R b Γ1 fun d2 Γ2 => ∃ k, CmpG X op d1 d2 k ∧ (k = true → EV X R c Γ2 fun d3 Γ3 => ∃ k', CmpG X op' d2 d3 k' ∧ P (.bool k') Γ3) ∧ (k = false → P (.bool false) Γ2))
    (hm : lastMarks [op, op'] [b, c] = false := by with_unfolding_all rfl) : EV X R (.Compare a [op, op'] [b, c] pos) Γ P := fun W tk =>
  pe_weak (pe_chain cmpR cmpR (pe_any tk) (pe_any tk) (pe_any tk) hm) fun σ H Q ⟨fp, hE, k, x⟩ => chainT (P := fun k Γ2 => P (.bool k) Γ2) h hE x fun b Γ2 H2 fp2 p E2 f2 => k.to0 p (.bl b) E2 f2
theorem et_chain {op op' : CmpOp} {P : Bool → Gam → Prop}
    (h : EV X R a Γ fun d1 Γ1 => EV X R b Γ1 fun d2 Γ2 => ∃ k, CmpG X op d1 d2 k ∧ (k = true → EV X R c Γ2 fun d3 Γ3 => ∃ k', CmpG X op' d2 d3 k' ∧ P k' Γ3) ∧ (k = false → P false Γ2))
    (hm : lastMarks [op, op'] [b, c] = false := by with_unfolding_all rfl) : ET X R (.Compare a [op, op'] [b, c] pos) Γ P := fun W tk =>
  pt_weak (pt_chain cmpR cmpR (pe_any tk) (pe_any tk) (pe_any tk) hm) fun σ H Q ⟨fp, hE, k, x⟩ => chainT h hE x fun b Γ2 H2 fp2 p E2 f2 => ⟨b, rfl, k b Γ2 H2 fp2 p E2 f2⟩
theorem ev_neg {P : D → Gam → Prop} (h : EV X R a Γ fun d Γ1 => ∃ i, d = .int i ∧ P (.int (-i)) Γ1) : EV X R (.UnaryOp .USub a pos) Γ P := fun W tk =>
  pe_weak (pe_un un_neg (pe_any (n := 0) tk)) fun σ H Q ⟨fp, hE, k, x⟩ => Any.go h hE x (Kt.of0 fun v d Γ1 H1 fp1 ⟨i, e1, p⟩ r E1 f1 => by
    subst e1
    cases r
    exact ⟨i, rfl, k.to0 p (.int _) E1 f1⟩)
/-- a name of the module that is data -/
theorem ev_glob {x : Str} {d : D} {u : Value} {v : V} {P : D → Gam → Prop} (hm : X.mg x = some u) (rv : RelV v u) (r : ∀ H, Rep X.K H v d) (h : P d Γ) (hg : Gl X x := by rfl) (hdb : (x == ("__debug__" : Str)) = false := by decide) : EV X R (.Name x pos) Γ P :=
  eg_of (pe_glob hg hm rv hdb) fun σ H Q fp hE k => k.to0 h (r H) hE .refl

/-! ### calls of builtins, by values -/
def CallG (X : Cx) (f : Value) (n : Nat) (ds : List D) (d : D) : Prop := CallR X f fun xs H Q => RepAll X.K H xs ds ∧ ∀ v H' fv, Own X.K H' n v d fv → fv.Nodup → Fr [] fv H H' → Q v H'
theorem callR_G {f : Value} {n : Nat} : CallR X f fun xs H Q => ∃ ds d, CallG X f n ds d ∧ RepAll X.K H xs ds ∧ ∀ v H' fv, Own X.K H' n v d fv → fv.Nodup → Fr [] fv H H' → Q v H' :=
  fun pins s σ H xs us Q I rv ⟨ds, d, hc, r, q⟩ => hc pins s σ H xs us Q I rv ⟨r, q⟩
theorem eg_callB {id : String} {x : Str} {P : D → Gam → Prop} (hm : X.mg x = none) (hv : bootBuiltins x = some (.builtin id)) (h : EA X R (e :: es) Γ fun as Γ1 => ∃ ds d, as = ds.map AV.pv ∧ CallG X (.builtin id) n ds d ∧ P d Γ1)
    (hg : Gl X x := by rfl) (hn : x ≠ "__name__" := by decide) (hdb : (x == ("__debug__" : Str)) = false := by decide) (he : starEach (e :: es) X.env = (false, eval e X.env) :: starEach es X.env := by rfl)
    (hpl : (backTo pos (starEach es X.env)).any (·.1) = false := by rfl) : EG X R n (.Call (.Name x p) (e :: es) [] pos) Γ P := fun W tk =>
  pe_weak (pe_callB (callR_G (n := n)) hg hm hv (pa_any tk) hn hdb he hpl) fun σ H Q ⟨fp, hE, k, xx⟩ => AnyA.go h hE xx fun vs as Γ1 H1 fp1 ⟨ds, d, e1, hc, p⟩ av E1 f1 => by
    subst e1
    exact ⟨ds, d, hc, av.pure, fun v H' fv o nd g => k.ans p E1 f1 o nd g⟩
theorem eg_callTy {T : String} {x : Str} {P : D → Gam → Prop} (hm : X.mg x = none) (hv : bootBuiltins x = some (.type T)) (h : EA X R (e :: es) Γ fun as Γ1 => ∃ ds d, as = ds.map AV.pv ∧ CallG X (.type T) n ds d ∧ P d Γ1)
    (hg : Gl X x := by rfl) (hn : x ≠ "__name__" := by decide) (hdb : (x == ("__debug__" : Str)) = false := by decide) (he : starEach (e :: es) X.env = (false, eval e X.env) :: starEach es X.env := by rfl)
    (hpl : (backTo pos (starEach es X.env)).any (·.1) = false := by rfl) : EG X R n (.Call (.Name x p) (e :: es) [] pos) Γ P := fun W tk =>
  pe_weak (pe_callTy (callR_G (n := n)) hg hm hv (pa_any tk) hn hdb he hpl) fun σ H Q ⟨fp, hE, k, xx⟩ => AnyA.go h hE xx fun vs as Γ1 H1 fp1 ⟨ds, d, e1, hc, p⟩ av E1 f1 => by
    subst e1
    exact ⟨ds, d, hc, av.pure, fun v H' fv o nd g => k.ans p E1 f1 o nd g⟩
end
/-! ### the builtins' answers -/
section
variable {X : Cx}
theorem rep1 {K : Fg} {H : Hp} {xs : List V} {d : D} (h : RepAll K H xs [d]) : ∃ v, xs = [v] ∧ Rep K H v d := by
  cases h with | cons h r => cases r; exact ⟨_, rfl, h⟩
theorem rep2 {K : Fg} {H : Hp} {xs : List V} {d e : D} (h : RepAll K H xs [d, e]) : ∃ v u, xs = [v, u] ∧ Rep K H v d ∧ Rep K H u e := by
  cases h with | cons h r => cases r with | cons h' r => cases r; exact ⟨_, _, rfl, h, h'⟩
theorem q_len {d : D} {ds : List D} (hs : seqD d = some ds) : CallG X (.builtin "len") 0 [d] (.int ds.length) := fun pins s σ H xs us Q I rv ⟨r, q⟩ => by
  obtain ⟨v, rfl, h⟩ := rep1 r
  cases h with
  | lst h1 r1 => cases hs; exact call_len pins s σ H _ us Q I rv ⟨_, _, rfl, .inl ⟨_, h1.sq, rfl⟩, by rw [r1.length]; exact q _ H [] (Own.int _) List.nodup_nil .refl⟩
  | tup h1 r1 => cases hs; exact call_len pins s σ H _ us Q I rv ⟨_, _, rfl, .inr ⟨_, h1.sq, rfl⟩, by rw [r1.length]; exact q _ H [] (Own.int _) List.nodup_nil .refl⟩
  | _ => cases hs
theorem q_int {i : Int} : CallG X (.type "int") 0 [.int i] (.int i) := fun pins s σ H xs us Q I rv ⟨r, q⟩ => by
  obtain ⟨v, rfl, h⟩ := rep1 r
  cases h
  exact call_int1 pins s σ H _ us Q I rv (.inl ⟨i, rfl, q _ H [] (Own.int _) List.nodup_nil .refl⟩)
theorem q_abs {i : Int} : CallG X (.builtin "abs") 0 [.int i] (.int (if i < 0 then -i else i)) := fun pins s σ H xs us Q I rv ⟨r, q⟩ => by
  obtain ⟨v, rfl, h⟩ := rep1 r
  cases h
  exact call_abs pins s σ H _ us Q I rv ⟨i, rfl, q _ H [] (Own.int _) List.nodup_nil .refl⟩
theorem q_max2 (hc : X.calm = true) {i j : Int} : CallG X (.builtin "max") 0 [.int i, .int j] (.int (if j > i then j else i)) := fun pins s σ H xs us Q I rv ⟨r, q⟩ => by
  obtain ⟨v, u, rfl, h, h'⟩ := rep2 r
  cases h
  cases h'
  exact call_max2 hc pins s σ H _ us Q I rv ⟨i, j, rfl, q _ H [] (Own.int _) List.nodup_nil .refl⟩
theorem q_min2 (hc : X.calm = true) {i j : Int} : CallG X (.builtin "min") 0 [.int i, .int j] (.int (if j < i then j else i)) := fun pins s σ H xs us Q I rv ⟨r, q⟩ => by
  obtain ⟨v, u, rfl, h, h'⟩ := rep2 r
  cases h
  cases h'
  exact call_min2 hc pins s σ H _ us Q I rv ⟨i, j, rfl, q _ H [] (Own.int _) List.nodup_nil .refl⟩
theorem q_all (hc : X.calm = true) {bs : List Bool} : CallG X (.builtin "all") 0 [.list (bs.map .bool)] (.bool (bs.all id)) := fun pins s σ H xs us Q I rv ⟨r, q⟩ => by
  obtain ⟨v, rfl, h⟩ := rep1 r
  cases h with
  | lst h1 r1 =>
    have e := r1.to_bls
    subst e
    exact cr_all hc pins s σ H _ us Q I rv ⟨_, bs, rfl, h1.sq, q _ H [] ⟨.bl _, rfl⟩ List.nodup_nil .refl⟩
theorem q_any (hc : X.calm = true) {bs : List Bool} : CallG X (.builtin "any") 0 [.list (bs.map .bool)] (.bool (bs.any id)) := fun pins s σ H xs us Q I rv ⟨r, q⟩ => by
  obtain ⟨v, rfl, h⟩ := rep1 r
  cases h with
  | lst h1 r1 =>
    have e := r1.to_bls
    subst e
    exact cr_any hc pins s σ H _ us Q I rv ⟨_, bs, rfl, h1.sq, q _ H [] ⟨.bl _, rfl⟩ List.nodup_nil .refl⟩
theorem q_sumL (hc : X.calm = true) {ns : List Int} : CallG X (.builtin "sum") 0 [.list (ns.map .int)] (.int ns.sum) := fun pins s σ H xs us Q I rv ⟨r, q⟩ => by
  obtain ⟨v, rfl, h⟩ := rep1 r
  cases h with
  | lst h1 r1 =>
    have e := r1.to_ints
    subst e
    exact cr_sum hc pins s σ H _ us Q I rv ⟨_, ns, rfl, h1.sq, q _ H [] (Own.int _) List.nodup_nil .refl⟩
theorem q_sumT (hc : X.calm = true) {ns : List Int} : CallG X (.builtin "sum") 0 [.tuple (ns.map .int)] (.int ns.sum) := fun pins s σ H xs us Q I rv ⟨r, q⟩ => by
  obtain ⟨v, rfl, h⟩ := rep1 r
  cases h with
  | tup h1 r1 =>
    have e := r1.to_ints
    subst e
    obtain ⟨its, rr, hl, _⟩ := I.tuple h1.sq
    rw [Vals.ref1 rv]
    obtain ⟨ys, e⟩ := rr.ints.allInts.items
    have hn : numsOf (intItems ys).toList = ns := by rw [← e]; exact rr.ints.numsOf
    rw [nums_intItems] at hn
    rw [e] at hl
    refine call_sum_walkG (PyProof.Rows.iter_tuple hl ?_)
    obtain ⟨o, eo, hlo⟩ := hl
    have hlt := Heap.lt_size eo
    refine ⟨_, _, _, _, _, _, numAt ys, rfl, Walks.tuple (A := X.A.in1) (I.ok.hd hc) _ _ (Nat.ne_of_lt hlt) (intItems ys), ⟨⟨_, Heap.get?_push_size _ rfl, rfl, rfl⟩, ⟨o, Heap.get?_push_of_some _ eo, hlo⟩⟩, fun b hb => ?_, fun _ _ => intItems_at, fun h' tk t' hk => ?_⟩
    · rcases List.mem_cons.mp hb with z | hb
      · subst z; show _ < (s.heap.push _).objs.size; rw [Heap.size_push]; omega
      · have z := List.mem_singleton.mp hb
        subst z
        show _ < (s.heap.push _).objs.size
        rw [Heap.size_push]
        exact Nat.lt_succ_of_lt (Heap.lt_size eo)
    · have hk' : ∀ b o, s.heap.get? b = some o → h'.get? b = some o := fun b o eb => hk b o (fun hm => by
        obtain rfl := List.mem_singleton.mp hm
        exact Nat.lt_irrefl _ (Heap.lt_size eb)) (Heap.get?_push_of_some _ eb)
      have z := q _ H [] (Own.int ns.sum) List.nodup_nil .refl
      refine ⟨.int ns.sum, H, I.kept hk', ⟨t', ?_⟩, z⟩
      rw [preSum_eq, List.take_of_length_le (by simp [intItems]), hn]
theorem q_maxL (hc : X.calm = true) {ns : List Int} {m : Int} (hm : m ∈ ns) (hx : ∀ y ∈ ns, y ≤ m) : CallG X (.builtin "max") 0 [.list (ns.map .int)] (.int m) := fun pins s σ H xs us Q I rv ⟨r, q⟩ => by
  obtain ⟨v, rfl, h⟩ := rep1 r
  cases h with
  | lst h1 r1 =>
    have e := r1.to_ints
    subst e
    refine cr_max hc pins s σ H _ us Q I rv ⟨_, ns, rfl, h1.sq, List.length_pos_of_mem hm, fun m' h1 h2 => ?_⟩
    have : m' = m := Int.le_antisymm (hx m' h1) (h2 m hm)
    subst this
    exact q _ H [] (Own.int _) List.nodup_nil .refl
theorem q_minL (hc : X.calm = true) {ns : List Int} {m : Int} (hm : m ∈ ns) (hx : ∀ y ∈ ns, m ≤ y) : CallG X (.builtin "min") 0 [.list (ns.map .int)] (.int m) := fun pins s σ H xs us Q I rv ⟨r, q⟩ => by
  obtain ⟨v, rfl, h⟩ := rep1 r
  cases h with
  | lst h1 r1 =>
    have e := r1.to_ints
    subst e
    refine cr_min hc pins s σ H _ us Q I rv ⟨_, ns, rfl, h1.sq, List.length_pos_of_mem hm, fun m' h1 h2 => ?_⟩
    have : m' = m := Int.le_antisymm (h2 m hm) (hx m' h1)
    subst this
    exact q _ H [] (Own.int _) List.nodup_nil .refl
/-- list(xs) -/
theorem q_list {d : D} {ds : List D} (hs : seqD d = some ds) : CallG X (.type "list") 1 [d] (.list ds) := fun pins s σ H xs us Q I rv ⟨r, q⟩ => by
  obtain ⟨v, rfl, h⟩ := rep1 r
  cases h with
  | lst h1 r1 => cases hs; exact call_list_of pins s σ H _ us Q I rv ⟨_, _, rfl, .inl h1.sq, fun l hl => ret_lst hl r1 q⟩
  | tup h1 r1 => cases hs; exact call_list_of pins s σ H _ us Q I rv ⟨_, _, rfl, .inr h1.sq, fun l hl => ret_lst hl r1 q⟩
  | _ => cases hs
/-- tuple(xs) -/
theorem q_tuple {d : D} {ds : List D} (hs : seqD d = some ds) : CallG X (.type "tuple") 0 [d] (.tuple ds) := fun pins s σ H xs us Q I rv ⟨r, q⟩ => by
  obtain ⟨v, rfl, h⟩ := rep1 r
  cases h with
  | lst h1 r1 => cases hs; exact call_tuple_of pins s σ H _ us Q I rv ⟨_, _, rfl, .inl ⟨h1.sq, fun l hl => ret_tup hl r1 q⟩⟩
  | tup h1 r1 => cases hs; exact call_tuple_of pins s σ H _ us Q I rv ⟨_, _, rfl, .inr ⟨h1.sq, q _ H [] ⟨.tup h1 r1, rfl⟩ List.nodup_nil .refl⟩⟩
  | _ => cases hs
end
end DL
set_option Elab.async false
set_option linter.all false
set_option maxRecDepth 100000
set_option maxHeartbeats 1000000
namespace DL
open PySem PySem.Spec PyProof.Rows L2 SrtO
section
variable {prog : Program} {w : World} {A : Around} {E : Value → Shared → Prop} {s : Shared}
theorem gather_tup {t : Addr} {ws : List Value} {Q : List Value → Shared → Prop} (ht : IsTup s.heap t ws.toArray)
    (h : Q ws { s with heap := (s.heap.push (seqObj "list" #[] 0)).update s.heap.objs.size (Obj.mapSeq (· ++ ws.toArray)) }) (small : ws.length ≤ sizeLine) : wpAny (model prog w) A (collect (.ref t)) Q E s := by
  obtain ⟨ot, et, ct, nt, dt⟩ := id ht
  unfold collect
  refine wpAny_bind (wpAny_runValue (codeAny_builtin entry_proto_collect' ?_))
  show wpAny _ _ (do again (.builtin "list.__iadd__" ⟨[← newList [], .ref t], []⟩)) _ _ s
  refine wpAny_bind (wpAny_newList (wpAny_pure ⟨Code.quiet_builtin _ (by decide +kernel), codeAny_builtin entry_list_iadd' ?_⟩))
  show wpAny _ _ (Builtin.List.listExtendWith (.ref s.heap.objs.size) (.ref t) (.ref s.heap.objs.size)) _ _ { s with heap := s.heap.push (seqObj "list" #[] 0) }
  unfold Builtin.List.listExtendWith
  have et' : (s.heap.push (seqObj "list" #[] 0)).get? t = some ot := Heap.get?_push_of_some _ et
  have e0 : (s.heap.push (seqObj "list" #[] 0)).get? s.heap.objs.size = some (seqObj "list" #[] 0) := Heap.get?_push_size _ rfl
  refine wpAny_bind (wpAny_typeOf (T := "tuple") ⟨ot, et', ct⟩ ?_)
  have isT : (Value.type "tuple" == Value.type "tuple") = true := by rfl
  rw [if_pos (by rw [isT]; simp)]
  refine wpAny_bind (listItems_at et' dt ?_)
  refine wpAny_bind (listItems_at (xs := #[]) (n := 0) e0 rfl ?_)
  rw [if_neg (by simp)]
  refine wpAny_bind (listUpdate_at (xs := #[]) (n := 0) e0 rfl ?_ (Nat.zero_le _) (by show (#[] ++ ws.toArray).size ≤ sizeLine + 1; simp only [Array.size_append, List.size_toArray, List.length_nil]; omega))
  refine wpAny_pure ?_
  show wpAny (model prog w) A (do
      let got ← load s.heap.objs.size
      match got.data with
      | .seq ys _ => pure ys.toList
      | _ => unsupported "internal:collect") Q E { s with heap := (s.heap.push (seqObj "list" #[] 0)).update s.heap.objs.size (Obj.mapSeq (· ++ ws.toArray)) }
  refine wpAny_bind (wpAny_load (get?_update_seq e0 _) ?_)
  show wpAny _ _ (pure ((#[] : Array Value) ++ ws.toArray).toList) Q E _
  rw [show ((#[] : Array Value) ++ ws.toArray).toList = ws by simp]
  exact wpAny_pure h
theorem sorted_tup {t : Addr} {ws : List Value} {ltv : Value → Value → Bool} {Q : Value → Shared → Prop} (O : Swo ltv) (ht : IsTup s.heap t ws.toArray) (small : ws.length ≤ sizeLine)
    (hS : 2 ≤ ws.length → ∀ (g : Heap) (a : Addr), g.get? a = some (seqObj "list" ws.toArray 0) → (∀ b o, s.heap.get? b = some o → b ≠ a ∧ g.get? b = some o) → SortableO prog w A.in1.in1 { s with heap := g } a ws ltv)
    (h : ∀ out : List Value, Srtd ltv out → Stb ltv out ws → Q (.ref (s.heap.objs.size + 1)) { s with heap := sortedAll s.heap ws out.toArray }) :
    wpAny (model prog w) A (call (.builtin "sorted") [.ref t]) Q E s := by
  refine Calls.call_function_entry kind_sorted plain_sorted entry_sorted (args_sorted1 _) ?_
  unfold Builtin.«sorted»
  refine wpAny_bind (m := checkCount "sorted" 1 1 _) (wpAny_pure ?_)
  refine wpAny_bind (gather_tup ht ?_ small)
  refine wpAny_bind (wpAny_newList ?_ small)
  generalize hG : (s.heap.push (seqObj "list" #[] 0)).update s.heap.objs.size (Obj.mapSeq (· ++ ws.toArray)) = G
  have gs : G.objs.size = s.heap.objs.size + 1 := by rw [← hG, Heap.size_update, size_push']
  have gL : (G.push (seqObj "list" ws.toArray 0)).get? (s.heap.objs.size + 1) = some (seqObj "list" ws.toArray 0) := by
    rw [← gs]; exact Heap.get?_push_size _ rfl
  have stays : ∀ b o, s.heap.get? b = some o → b ≠ s.heap.objs.size + 1 ∧ (G.push (seqObj "list" ws.toArray 0)).get? b = some o := fun b o q => by
    have below : b < s.heap.objs.size := Heap.lt_size q
    refine ⟨Nat.ne_of_lt (Nat.lt_succ_of_lt below), Heap.get?_push_of_some _ ?_⟩
    rw [← hG, Heap.get?_update_ne _ _ _ _ (Nat.ne_of_lt below)]
    exact Heap.get?_push_of_some _ q
  show wpAny _ _ _ _ _ { s with heap := G.push (seqObj "list" ws.toArray 0) }
  rw [show ({ s with heap := G } : Shared).heap = G from rfl, gs]
  refine wpAny_bind (wpAny_holding (wpAny_call_entry slot_list_sort ⟨_, gL, rfl⟩ entry_list_sort (list_sort_ord O gL small (fun h2 => hS h2 _ _ gL stays) fun out z1 z2 => ⟨_, rfl, ?_⟩) (args_list_sort _)))
  have z := h out z1 z2
  unfold sortedAll at z
  rw [hG] at z
  exact wpAny_pure ⟨_, rfl, z⟩
end
section
variable {X : Cx}
theorem q_sortedT {ns ms : List Int} (hp : ms.Perm ns) (hs : ms.Pairwise (· ≤ ·)) : CallG X (.builtin "sorted") 1 [.tuple (ns.map .int)] (.list (ms.map .int)) := fun pins s σ H xs us Q I rv ⟨r, q⟩ => by
  obtain ⟨v, rfl, h⟩ := rep1 r
  cases h with
  | tup h1 r1 =>
    have e := r1.to_ints
    subst e
    obtain ⟨its, rr, hl, hz⟩ := I.tuple h1.sq
    rw [Vals.ref1 rv]
    have hi := rr.ints
    refine sorted_tup SrtO.swo_int hl (by rw [← rr.length]; exact hz) (fun h2 g a' _ _ => SrtO.ints_sortable hi h2) fun out z1 z2 => ?_
    obtain ⟨k1, k2, k3⟩ := SrtO.ints_out hi z1 z2
    have same : out.map SrtO.iv = ms := (k2.trans hp.symm).eq_of_pairwise (fun a b _ _ x y => Int.le_antisymm x y) k3 hs
    rw [same] at k1
    obtain ⟨ep, at'⟩ := PyProof.Rows.sortedAll_at s.heap its out.toArray
    have short : (ms.map V.int).length ≤ sizeLine := by
      rw [List.length_map, hp.length_eq]
      rw [List.length_map] at hz
      exact hz
    have fresh := I.hok.fresh (a := s.heap.objs.size + 1) (Nat.le_succ _)
    exact ⟨.ref _, upd H (s.heap.objs.size + 1) (.lst (ms.map V.int)), I.laid (t' := s.toks) (fun _ _ => PyProof.Rows.sortedAll_old) (Nat.le_succ _) ⟨short, out, ep, vals_of_ints k1, at'⟩, rfl, ret_lst fresh (RepAll.ints ms) q⟩
theorem q_sortedL {ns ms : List Int} (hp : ms.Perm ns) (hs : ms.Pairwise (· ≤ ·)) : CallG X (.builtin "sorted") 1 [.list (ns.map .int)] (.list (ms.map .int)) := fun pins s σ H xs us Q I rv ⟨r, q⟩ => by
  obtain ⟨v, rfl, h⟩ := rep1 r
  cases h with
  | lst h1 r1 =>
    have e := r1.to_ints
    subst e
    refine cr_sortedI pins s σ H _ us Q I rv ⟨_, ns, rfl, h1.sq, fun ns' p k2 k3 hn => ?_⟩
    have same : ns' = ms := (k2.trans hp.symm).eq_of_pairwise (fun a b _ _ x y => Int.le_antisymm x y) k3 hs
    subst same
    exact ret_lst hn (RepAll.ints _) q
end
end DL
set_option Elab.async false
set_option linter.all false
set_option maxRecDepth 100000
set_option maxHeartbeats 1000000
namespace PySem
set_option maxHeartbeats 1000000 in
theorem enumNew_of {v : Value} {o : Obj} {H : Heap → Prop} (B : Begins v o H) :
    Meets (Builtin.«enumerate.__new__» ⟨[.type "enumerate", v], []⟩) (fun _ R s => H s.heap ∧
      R (.ok (.ret (.ref (s.heap.push o).objs.size))) { s with heap := (s.heap.push o).push { cls := .type "enumerate", data := .fields #[.none, .bool false, .ref s.heap.objs.size, rawInt 0, .none, .none] } }) :=
  .of_wp fun prog w A R s h => by
    obtain ⟨hp, g, d, tk, os⟩ := s; obtain ⟨h1, h⟩ := h
    have hsub := sub_enumerate
    have q1 : ∀ {B' : Around} {E' : Value → Shared → Prop} {Q' : Value → Shared → Prop}, Q' (.ref hp.objs.size) ⟨hp.push o, g, d, tk, os⟩ → wpAny (model prog w) B' (pyIter v) Q' E' ⟨hp, g, d, tk, os⟩ :=
      fun q => B.iter prog w _ _ ⟨hp, g, d, tk, os⟩ _ h1 q
    wp_walk using q1
    refine wpAny_stack_any fun st => wpAny_pure ?_
    split
    · rename_i c _ _ _ _ _
      cases (c == Value.type "enumerate")
      · wp_walk using q1
        exact ⟨_, rfl, h⟩
      · wp_walk using q1
        exact ⟨_, rfl, h⟩
    · wp_walk using q1
      exact ⟨_, rfl, h⟩
theorem enumCall_of {prog : Program} {w : World} {A : Around} {E : Value → Shared → Prop} {s : Shared} {v : Value} {o : Obj} {H : Heap → Prop} {Q : Value → Shared → Prop} (B : Begins v o H) (h1 : H s.heap)
    (h : ∀ g, IsEnum g (s.heap.objs.size + 1) s.heap.objs.size 0 .none → g.get? s.heap.objs.size = some o → (∀ b u, s.heap.get? b = some u → g.get? b = some u) → Q (.ref (s.heap.objs.size + 1)) { s with heap := g }) :
    wpAny (model prog w) A (call (.type "enumerate") [v]) Q E s := by
  refine callType_new F.called_enumerate (by decide) (F.typeCall_enumerate_1 _) (F.newCall_enumerate_1 _) (fun obj => F.args_object_init_2 obj _) F.entry_enumerate_new (enumNew_of B) ⟨h1, ?_⟩
  have size1 : (s.heap.push o).objs.size = s.heap.objs.size + 1 := Heap.size_push ..
  show _ ∧ _
  rw [size1]
  have he : IsEnum ((s.heap.push o).push { cls := .type "enumerate", data := .fields #[.none, .bool false, .ref s.heap.objs.size, rawInt 0, .none, .none] }) (s.heap.objs.size + 1) s.heap.objs.size 0 .none := by
    have z := Heap.get?_push_size (s.heap.push o) (o := { cls := .type "enumerate", data := .fields #[.none, .bool false, .ref s.heap.objs.size, rawInt 0, .none, .none] }) rfl
    rw [size1] at z; exact z
  exact ⟨⟨_, he, rfl⟩, h _ he (Heap.get?_push_of_some _ (Heap.get?_push_size _ B.free)) fun b u x => Heap.get?_push_of_some _ (Heap.get?_push_of_some _ x)⟩
end PySem
namespace DL
open PySem PySem.Spec PyProof.Rows L2

/-- the tuple at a, each item in a new pair -/
def ItEt (K : Fg) (a : Addr) : It :=
  ⟨fun i H => ∃ (ys : List V) (y : V), SqT K H a ys ∧ ys[i]? = some y, fun i H v H' => ∃ T y, v = .ref T ∧ H T = none ∧ H' = upd H T (.tup [.int (i : Nat), y]) ∧ ∀ ys, SqT K H a ys → ys[i]? = some y, fun i H => ∃ ys : List V, SqT K H a ys ∧ ys.length ≤ i⟩
theorem turn_enumTup {P : Program} {w : World} {K : Fg} {elts : List Expr} {k0 : Nat} {tpos : Pos} (a e it : Addr) :
    Turn P w K (.Tuple elts k0 tpos) (ItEt K a) [e, it] e (fun i h => (∃ old, IsEnum h e it ((i : Nat) : Int) old) ∧ h.IsTupleIter it a i ∧ e ≠ it) where
  mem := by simp
  obj := fun i h st b hb => by
    obtain ⟨⟨old, he⟩, ⟨o, ho, hc, hd⟩, _⟩ := st
    rcases (show b = e ∨ b = it by simpa using hb) with z | z
    · rw [z]; exact ⟨_, he, fun v q => nomatch q⟩
    · rw [z]; exact ⟨o, ho, fun v q => by rw [hd] at q; cases q⟩
  keep := fun i h h' st k => let ⟨⟨old, he⟩, hi, ne⟩ := st; ⟨⟨old, k e (by simp) _ he⟩, hi.at fun o q => k it (by simp) o q, ne⟩
  item := by
    intro X hP hw hK hc i pins s σ H E I hf st hg
    subst hP hw hK
    obtain ⟨⟨old, he⟩, hit, ne⟩ := st
    obtain ⟨ys, y, hq, hy⟩ := hg
    obtain ⟨its, rv, p, hz⟩ := I.tuple hq
    obtain ⟨u, hu, ru⟩ := rv.get hy
    have lt1 : e < s.heap.objs.size := Heap.lt_size he
    have lt2 : it < s.heap.objs.size := by obtain ⟨_, q, _⟩ := hit; exact Heap.lt_size q
    by_cases same : a = it
    · obtain ⟨o1, q1, c1, _⟩ := hit
      obtain ⟨o2, q2, c2, _⟩ := p
      rw [same, q1] at q2; cases q2
      rw [c1] at c2
      exact absurd (Value.type.inj c2) (by decide)
    by_cases same2 : a = e
    · obtain ⟨o2, q2, c2, _⟩ := p
      have q1 : s.heap.get? e = some _ := he
      rw [same2, q1] at q2; cases q2
      exact absurd (Value.type.inj c2) (by decide)
    have Dw := Draws.tuple (prog := X.prog) (w := X.w) (A := X.A.in1) (I.ok.hd hc) it a same its.toArray
    refine wpAny_pyNext_enum_itemD Dw he ⟨hit, p⟩ (i := i) (by have := (List.getElem?_eq_some_iff.mp hu).1; simpa using this) ne (by simp [ne]; exact fun z => same2 z.symm) fun x h' tk hx ho hit' hT hsz hk => ?_
    obtain rfl : x = u := by
      have : its.toArray[i]? = some u := by simpa using hu
      rw [this] at hx; exact (Option.some.inj hx).symm
    refine ⟨_, rfl, wpAny_letOwnedTupleGo_enum (s := { s with heap := h', toks := tk + 1 }) ho fun h'' he' sb => ?_⟩
    have at2 : h''.get? s.heap.objs.size = some { cls := .type "tuple", data := .seq #[.int i tk, x] } := (sb.2 _ (Nat.ne_of_gt lt1)).trans hT
    have new : ObjOk X.prog X.w (upd H s.heap.objs.size (.tup [.int (i : Nat), y])) h'' s.heap.objs.size (.tup [.int (i : Nat), y]) :=
      ⟨by show 2 ≤ sizeLine; decide, [.int i tk, x], .cons ⟨_, rfl⟩ (.cons ru .nil), ⟨_, at2, rfl, _, rfl⟩⟩
    have I1 : Inv X pins σ (upd H s.heap.objs.size (.tup [.int (i : Nat), y])) { s with heap := h'', toks := tk + 1 } :=
      I.turnedNew (ch := [e, it]) (fun b ob hb q => (sb.2 b (fun z => hb (by simp [z]))).trans (hk b ob (fun z => hb (by simp [z])) (fun z => hb (by simp [z])) q)) hf (Nat.le_refl _) new
    refine ⟨.ref s.heap.objs.size, _, I1, rfl, ⟨_, y, rfl, I.hok.fresh (Nat.le_refl _), rfl, fun zs hz => by rw [I.tuple_inj hz hq]; exact hy⟩, ⟨⟨x, ?_⟩, hit'.1.at fun o q => (sb.2 it (Ne.symm ne)).trans q, ne⟩, fun b hb => ?_⟩
    · rw [show ((i + 1 : Nat) : Int) = (i : Int) + 1 by omega]; exact he'
    · have low : b < s.heap.objs.size := by
        rcases (show b = e ∨ b = it by simpa using hb) with z | z
        · rw [z]; exact lt1
        · rw [z]; exact lt2
      rw [upd_ne (Nat.ne_of_lt low)]
      exact (hf b hb).1
  done := by
    intro X hP hw hK hc i pins s σ H E I hf st hg
    subst hP hw hK
    obtain ⟨⟨old, he⟩, hit, ne⟩ := st
    obtain ⟨ys, hq, hy⟩ := hg
    obtain ⟨its, rv, p, hz⟩ := I.tuple hq
    obtain ⟨f0, f1, f2, f3, f4, f5⟩ := hf it (by simp)
    have hl := rv.length
    by_cases same : a = it
    · obtain ⟨o1, q1, c1, _⟩ := hit
      obtain ⟨o2, q2, c2, _⟩ := p
      rw [same, q1] at q2; cases q2
      rw [c1] at c2
      exact absurd (Value.type.inj c2) (by decide)
    have Dw := Draws.tuple (prog := X.prog) (w := X.w) (A := X.A.in1) (I.ok.hd hc) it a same its.toArray
    have step : ∀ h', Heap.ExtBut it s.heap h' → (fun r s1 => r = none ∧ Inv X pins σ H s1) (none : Option Value) { s with heap := h' } := fun h' eb => ⟨rfl, I.turned (t' := s.toks) (fun b o hb q => eb b o hb q) f0 f1 f3 f4 f5⟩
    have hT : s.TypeIs (.ref e) "enumerate" := ⟨_, he, rfl⟩
    unfold pyNext
    refine wpAny_bind (wpAny_attempt (wpAny_callSpecial?_slot (name := Str.ofString "__next__") hT F.slot_enumerate_next
      (wpAny_call_entry F.slot_enumerate_next hT F.entry_enumerate_next ?_ (F.args_enumerate_next_1 _))))
    show wpAny _ _ (field (.ref e) 2 >>= _) _ _ _
    refine wpAny_bind (wpAny_field he rfl (x := .ref it) rfl ?_)
    refine wpAny_bind (wpAny_nextOf_tuple_end (I.ok.hd hc) hit p (by simp; omega) fun h' x he' hx' => ?_)
    obtain ⟨o, ho, hc'⟩ := hx'
    refine wpAny_bind (wpAny_isInstance (T := "StopIteration") (b := true) ⟨o, ho, hc'⟩ isSubtype_stop ?_)
    exact wpAny_pure (step _ he')
  self := fun A i s Q E st h => let ⟨⟨_, he⟩, _⟩ := st; wpAny_pyIter_enum he h
def iEnumA (K : Fg) (ta : TA) : TI := fun σ H R => ta σ H fun vs H1 => ∃ a ys, vs = [.ref a] ∧ ((SqL K H1 a ys ∧ R (Ite K a) H1) ∨ (SqT K H1 a ys ∧ R (ItEt K a) H1))
theorem pi_enumA {X : Cx} {e : Expr} {ta : TA} {p pos tpos : Pos} {elts : List Expr} {k0 : Nat} (hg : Gl X "enumerate") (hm : X.mg "enumerate" = none) (ha : PA X [e] ta) (hs : starEach [e] X.env = [(false, eval e X.env)] := by rfl) :
    PI X (.Tuple elts k0 tpos) (.Call (.Name "enumerate" p) [e] [] pos) (iEnumA X.K ta) := by
  refine ⟨fun pins s σ H R I h => ?_⟩
  refine Call_ (ld_blt I hg hm boot_enumerate (PyProof.Rows.callWith_type1 (thn (ha.run pos pins s σ H _ I h) fun us s1 ⟨vs, H1, I1, r1, q1⟩ => ?_) hs rfl))
  obtain ⟨a, ys, ex, q1⟩ := q1
  subst ex
  cases r1 with
  | cons r rr =>
    cases rr
    cases r
    have low : ∀ b, b ∈ [s1.heap.objs.size + 1, s1.heap.objs.size] → FpOk X pins H1 b := fun b hb => by
      have le : s1.heap.objs.size ≤ b := by
        rcases (show b = s1.heap.objs.size + 1 ∨ b = s1.heap.objs.size by simpa using hb) with z | z
        · rw [z]; exact Nat.le_add_right _ _
        · rw [z]; exact Nat.le_refl _
      exact I1.fpOk le (I1.hok.fresh le)
    rcases q1 with ⟨hq, q⟩ | ⟨hq, q⟩
    · obtain ⟨its, rv, p', _⟩ := I1.list hq
      refine enumCall_of (begins_list a its.toArray) p'.isList fun g he hit hk => wpAny_pyIter_enum he ?_
      exact ⟨s1.heap.objs.size + 1, [s1.heap.objs.size + 1, s1.heap.objs.size], _, _, H1, rfl, I1.kept (t' := s1.toks) hk, turn_enum a (s1.heap.objs.size + 1) s1.heap.objs.size, ⟨⟨.none, he⟩, ⟨_, hit, rfl, rfl⟩, Nat.succ_ne_self _⟩, low, q⟩
    · obtain ⟨its, rv, p', _⟩ := I1.tuple hq
      refine enumCall_of (begins_tuple a its.toArray) p' fun g he hit hk => wpAny_pyIter_enum he ?_
      exact ⟨s1.heap.objs.size + 1, [s1.heap.objs.size + 1, s1.heap.objs.size], _, _, H1, rfl, I1.kept (t' := s1.toks) hk, turn_enumTup a (s1.heap.objs.size + 1) s1.heap.objs.size, ⟨⟨.none, he⟩, ⟨_, hit, rfl, rfl⟩, Nat.succ_ne_self _⟩, low, q⟩
/-- a list, a tuple or a range object, as it comes -/
def iSeq (K : Fg) (tl : TE) : TI := fun σ H R => tl σ H fun x H1 => ∃ a, x = .ref a ∧ ((∃ ys, SqL K H1 a ys ∧ R (Itl K a) H1) ∨ (∃ ys, SqT K H1 a ys ∧ R (Itt K a) H1) ∨ ∃ lo hi, H1 a = some (.rng lo hi) ∧ (-(2 ^ 62) ≤ lo ∧ lo < 2 ^ 62 ∧ -(2 ^ 62) ≤ hi ∧ hi < 2 ^ 62) ∧ R (Itr lo (hi - lo).toNat) H1)
theorem pi_seq {X : Cx} {tg l : Expr} {tl : TE} (hl : PE X l tl) : PI X tg l (iSeq X.K tl) := by
  refine ⟨fun pins s σ H R I h => ?_⟩
  refine thn (hl.run pins s σ H _ I h) fun v s1 ⟨x, H1, I1, r1, q1⟩ => ?_
  obtain ⟨a, e, q1⟩ := q1
  subst e
  cases r1
  have one : ∀ b, b ∈ [s1.heap.objs.size] → FpOk X pins H1 b := fun b hb => by
    obtain rfl := List.mem_singleton.mp hb
    exact I1.fpOk (Nat.le_refl _) (I1.hok.fresh (Nat.le_refl _))
  rcases q1 with ⟨ys, hq, q⟩ | ⟨ys, hq, q⟩ | ⟨lo, hi, hq, ⟨b1, b2, b3, b4⟩, q⟩
  · obtain ⟨its, rv, p, hz⟩ := I1.list hq
    refine wpAny_pyIter_list p.isList ?_
    exact ⟨s1.heap.objs.size, [s1.heap.objs.size], _, _, H1, rfl, I1.kept (t' := s1.toks) fun b o e => Heap.get?_push_of_some _ e, turn_list a _, ⟨_, Heap.get?_push_size _ rfl, rfl, rfl⟩, one, q⟩
  · obtain ⟨its, rv, p, hz⟩ := I1.tuple hq
    refine wpAny_pyIter_tuple (show s1.heap.IsTuple a its.toArray from p) ?_
    exact ⟨s1.heap.objs.size, [s1.heap.objs.size], _, _, H1, rfl, I1.kept (t' := s1.toks) fun b o e => Heap.get?_push_of_some _ e, turn_tuple a _, ⟨_, Heap.get?_push_size _ rfl, rfl, rfl⟩, one, q⟩
  · obtain ⟨t, u, v, hx⟩ := (show ObjOk X.prog X.w H1 s1.heap a (.rng lo hi) from I1.hok a _ hq)
    refine wpAny_pyIter_range hx (small_one b1 b2 b3 b4) ?_
    refine ⟨s1.heap.objs.size, [s1.heap.objs.size], _, _, H1, rfl, I1.kept (t' := s1.toks) fun b o e => Heap.get?_push_of_some _ e, turn_range _ lo (hi - lo).toNat, ?_, one, q⟩
    have e1 : lo + ((0 : Nat) : Int) * 1 = lo := by simp
    have e2 : (((hi - lo).toNat : Nat) : Int) - ((0 : Nat) : Int) = Builtin.Range.rangeSize lo hi 1 := by rw [rangeSize_one]; split <;> omega
    show IsRangeIter _ _ (lo + ((0 : Nat) : Int) * 1) ((((hi - lo).toNat : Nat) : Int) - ((0 : Nat) : Int)) 1
    rw [e1, e2]
    exact Heap.get?_push_size _ rfl
end DL
set_option Elab.async false
set_option linter.all false
set_option maxRecDepth 100000
set_option maxHeartbeats 1000000
namespace DL
open PySem PySem.Spec PyProof.Rows L2

/-! ### sources -/
structure Src (K : Fg) (J : It) (ds : List D) (H0 : Hp) : Prop where
  goes : ∀ i H, Ez H0 H → i < ds.length → J.go i H
  stops : ∀ H, Ez H0 H → J.stop ds.length H
  yields : ∀ i H x H', Ez H0 H → i < ds.length → J.yld i H x H' → ∃ d, ds[i]? = some d ∧ Rep K H' x d ∧ Fr [] [] H H'
def rngD (lo hi : Int) : List D := (List.range (hi - lo).toNat).map fun i => .int (lo + (i : Nat))
def enumD (ds : List D) : List D := ds.mapIdx fun i d => .tuple [.int (i : Nat), d]
def zipD (ds es : List D) : List D := List.zipWith (fun d e => .tuple [d, e]) ds es
theorem rngD_len {lo hi : Int} : (rngD lo hi).length = (hi - lo).toNat := by simp [rngD]
section
variable {K : Fg} {H0 : Hp} {a b : Addr} {xs ys : List V} {ds es : List D}
theorem lt_get {α : Type} {l : List α} {i : Nat} (h : i < l.length) : ∃ x, l[i]? = some x := ⟨l[i], by simp [h]⟩
theorem src_list (h : LstZ K H0 a xs) (r : RepAll K H0 xs ds) : Src K (Itl K a) ds H0 where
  goes := fun i H z hi => let ⟨x, e⟩ := lt_get (l := xs) (i := i) (by rw [r.length]; exact hi); ⟨xs, x, (h.mono z).sq, e⟩
  stops := fun H z => ⟨xs, (h.mono z).sq, Nat.le_of_eq r.length⟩
  yields := fun i H x H' z hi y => by
    obtain ⟨e, y⟩ := y
    subst e
    obtain ⟨d, h1, h2⟩ := r.get (y xs (h.mono z).sq)
    exact ⟨d, h1, h2.mono z, .refl⟩
theorem src_tup (h : TupZ K H0 a xs) (r : RepAll K H0 xs ds) : Src K (Itt K a) ds H0 where
  goes := fun i H z hi => let ⟨x, e⟩ := lt_get (l := xs) (i := i) (by rw [r.length]; exact hi); ⟨xs, x, (h.mono z).sq, e⟩
  stops := fun H z => ⟨xs, (h.mono z).sq, Nat.le_of_eq r.length⟩
  yields := fun i H x H' z hi y => by
    obtain ⟨e, y⟩ := y
    subst e
    obtain ⟨d, h1, h2⟩ := r.get (y xs (h.mono z).sq)
    exact ⟨d, h1, h2.mono z, .refl⟩
theorem src_rng {lo hi : Int} : Src K (Itr lo (hi - lo).toNat) (rngD lo hi) H0 where
  goes := fun i H z h => by rw [rngD_len] at h; exact h
  stops := fun H z => Nat.le_of_eq rngD_len.symm
  yields := fun i H x H' z h y => by
    rw [rngD_len] at h
    obtain ⟨e, y⟩ := y
    subst e
    subst y
    exact ⟨.int (lo + i), by simp [rngD, h], .int _, .refl⟩
theorem new_pair {H H' : Hp} {T : Addr} {x y : V} {d e : D} (hn : H T = none) (e1 : H' = upd H T (.tup [x, y])) (r1 : Rep K H x d) (r2 : Rep K H y e) : Rep K H' (.ref T) (.tuple [d, e]) ∧ Fr [] [] H H' := by
  subst e1
  exact ⟨own_tup hn (.cons r1 (.cons r2 .nil)), Fr.alloc0 hn⟩
theorem enumD_len : (enumD ds).length = ds.length := by simp [enumD]
theorem enumD_get {i : Nat} {d : D} (h : ds[i]? = some d) : (enumD ds)[i]? = some (.tuple [.int (i : Nat), d]) := by simp [enumD, List.getElem?_mapIdx, h]
theorem src_enumL (h : LstZ K H0 a xs) (r : RepAll K H0 xs ds) : Src K (Ite K a) (enumD ds) H0 where
  goes := fun i H z hi => let ⟨x, e⟩ := lt_get (l := xs) (i := i) (by rw [r.length, ← enumD_len]; exact hi); ⟨xs, x, (h.mono z).sq, e⟩
  stops := fun H z => ⟨xs, (h.mono z).sq, by rw [enumD_len]; exact Nat.le_of_eq r.length⟩
  yields := fun i H v H' z hi y => by
    obtain ⟨T, x, rfl, e1, e2, y⟩ := y
    obtain ⟨d, h1, h2⟩ := r.get (y xs (h.mono z).sq)
    obtain ⟨q1, q2⟩ := new_pair (d := .int (i : Nat)) e1 e2 (.int _) (h2.mono z)
    exact ⟨_, enumD_get h1, q1, q2⟩
theorem src_enumT (h : TupZ K H0 a xs) (r : RepAll K H0 xs ds) : Src K (ItEt K a) (enumD ds) H0 where
  goes := fun i H z hi => let ⟨x, e⟩ := lt_get (l := xs) (i := i) (by rw [r.length, ← enumD_len]; exact hi); ⟨xs, x, (h.mono z).sq, e⟩
  stops := fun H z => ⟨xs, (h.mono z).sq, by rw [enumD_len]; exact Nat.le_of_eq r.length⟩
  yields := fun i H v H' z hi y => by
    obtain ⟨T, x, rfl, e1, e2, y⟩ := y
    obtain ⟨d, h1, h2⟩ := r.get (y xs (h.mono z).sq)
    obtain ⟨q1, q2⟩ := new_pair (d := .int (i : Nat)) e1 e2 (.int _) (h2.mono z)
    exact ⟨_, enumD_get h1, q1, q2⟩
theorem zipD_len : (zipD ds es).length = min ds.length es.length := by simp [zipD]
theorem zipD_get {i : Nat} {d e : D} (h : ds[i]? = some d) (h' : es[i]? = some e) : (zipD ds es)[i]? = some (.tuple [d, e]) := by simp [zipD, List.getElem?_zipWith, h, h']
theorem src_zipL (h : LstZ K H0 a xs) (r : RepAll K H0 xs ds) (h' : LstZ K H0 b ys) (r' : RepAll K H0 ys es) : Src K (Itz K a b) (zipD ds es) H0 where
  goes := fun i H z hi => by
    rw [zipD_len] at hi
    obtain ⟨x, e⟩ := lt_get (l := xs) (i := i) (by rw [r.length]; omega)
    obtain ⟨y, e'⟩ := lt_get (l := ys) (i := i) (by rw [r'.length]; omega)
    exact ⟨xs, ys, x, y, (h.mono z).sq, (h'.mono z).sq, e, e'⟩
  stops := fun H z => ⟨xs, ys, (h.mono z).sq, (h'.mono z).sq, by rw [zipD_len, r.length, r'.length]; omega⟩
  yields := fun i H v H' z hi y => by
    obtain ⟨T, x, w, rfl, e1, e2, y1, y2⟩ := y
    obtain ⟨d, h1, h2⟩ := r.get (y1 xs (h.mono z).sq)
    obtain ⟨e, h3, h4⟩ := r'.get (y2 ys (h'.mono z).sq)
    obtain ⟨q1, q2⟩ := new_pair e1 e2 (h2.mono z) (h4.mono z)
    exact ⟨_, zipD_get h1 h3, q1, q2⟩
theorem src_zipT (h : TupZ K H0 a xs) (r : RepAll K H0 xs ds) (h' : TupZ K H0 b ys) (r' : RepAll K H0 ys es) : Src K (RZ.ItzT K a b) (zipD ds es) H0 where
  goes := fun i H z hi => by
    rw [zipD_len] at hi
    obtain ⟨x, e⟩ := lt_get (l := xs) (i := i) (by rw [r.length]; omega)
    obtain ⟨y, e'⟩ := lt_get (l := ys) (i := i) (by rw [r'.length]; omega)
    exact ⟨xs, ys, x, y, (h.mono z).sq, (h'.mono z).sq, e, e'⟩
  stops := fun H z => ⟨xs, ys, (h.mono z).sq, (h'.mono z).sq, by rw [zipD_len, r.length, r'.length]; omega⟩
  yields := fun i H v H' z hi y => by
    obtain ⟨T, x, w, rfl, e1, e2, y1, y2⟩ := y
    obtain ⟨d, h1, h2⟩ := r.get (y1 xs (h.mono z).sq)
    obtain ⟨e, h3, h4⟩ := r'.get (y2 ys (h'.mono z).sq)
    obtain ⟨q1, q2⟩ := new_pair e1 e2 (h2.mono z) (h4.mono z)
    exact ⟨_, zipD_get h1 h3, q1, q2⟩
end
def tEI (K : Fg) (W : WX) (R : XP) (Γ : Gam) (P : List D → Gam → Prop) : TI := fun σ H R' => ∃ fp, Env K Γ σ H fp ∧ (∀ ds J Γ' H' fp', P ds Γ' → Src K J ds H' → Env K Γ' σ H' fp' → Fr fp fp' H H' → R' J H') ∧ XC K W R fp H
def EI (X : Cx) (R : XP) (tg e : Expr) (Γ : Gam) (P : List D → Gam → Prop) : Prop := ∀ W, Takes X W → PI X tg e (tEI X.K W R Γ P)
def AnyI (X : Cx) (W : WX) (tg e : Expr) : TI := fun σ H R' => ∃ R Γ P, EI X R tg e Γ P ∧ tEI X.K W R Γ P σ H R'
section
variable {X : Cx} {R : XP} {W : WX} {Γ : Gam} {n : Nat} {tg e a b c : Expr} {pos p : Pos}
theorem pi_any (tk : Takes X W) : PI X tg e (AnyI X W tg e) := ⟨fun pins s σ H Q I ⟨_, _, _, h, q⟩ => (h W tk).run pins s σ H Q I q⟩
theorem pi_weak {t t' : TI} (h : PI X tg e t) (i : ∀ σ H Q, t' σ H Q → t σ H Q) : PI X tg e t' := ⟨fun pins s σ H Q I q => h.run pins s σ H Q I (i σ H Q q)⟩
theorem EI.imp {P P' : List D → Gam → Prop} (h : EI X R tg e Γ P) (i : ∀ d Γ', P d Γ' → P' d Γ') : EI X R tg e Γ P' := fun W tk =>
  pi_weak (h W tk) fun σ H Q ⟨fp, hE, k, x⟩ => ⟨fp, hE, fun ds J Γ' H' fp' p => k ds J Γ' H' fp' (i ds Γ' p), x⟩
/-- what is walked, as data -/
def walkD : D → Option (List D)
  | .list ds => some ds
  | .tuple ds => some ds
  | .dict [(.none, .tuple [.int lo, .int hi])] => if -(2 ^ 62) ≤ lo ∧ lo < 2 ^ 62 ∧ -(2 ^ 62) ≤ hi ∧ hi < 2 ^ 62 then some (rngD lo hi) else none
  | _ => none
theorem ei_seq {P : List D → Gam → Prop} (h : EV X R e Γ fun d Γ1 => ∃ ds, walkD d = some ds ∧ P ds Γ1) : EI X R tg e Γ P := fun W tk =>
  pi_weak (pi_seq (pe_any (n := 0) tk)) fun σ H Q ⟨fp, hE, k, x⟩ => Any.go h hE x (Kt.of0 fun v d Γ1 H1 fp1 ⟨ds, hw, p⟩ r E1 f1 => by
    cases r with
    | lst h1 r1 => cases hw; exact ⟨_, rfl, .inl ⟨_, h1.sq, k _ _ Γ1 H1 fp1 p (src_list h1 r1) E1 f1⟩⟩
    | tup h1 r1 => cases hw; exact ⟨_, rfl, .inr (.inl ⟨_, h1.sq, k _ _ Γ1 H1 fp1 p (src_tup h1 r1) E1 f1⟩)⟩
    | @rng a lo hi h1 =>
      simp only [walkD] at hw
      by_cases cnd : -(2 ^ 62) ≤ lo ∧ lo < 2 ^ 62 ∧ -(2 ^ 62) ≤ hi ∧ hi < 2 ^ 62
      · rw [if_pos cnd] at hw
        cases hw; exact ⟨_, rfl, .inr (.inr ⟨_, _, h1, cnd, k _ _ Γ1 H1 fp1 p src_rng E1 f1⟩)⟩
      · rw [if_neg cnd] at hw; cases hw
    | @dct a o ks kvs h1 r1 =>
      unfold walkD at hw
      split at hw
      · rename_i e1; cases e1
      · rename_i e1; cases e1
      · rename_i e1
        cases e1
        generalize hk : (PyData.none : D) = kk at r1
        cases r1 with
        | @cons k1 _ _ _ _ _ _ => cases k1 <;> cases hk
      · cases hw
    | _ => cases hw)
theorem ei_range1 {P : List D → Gam → Prop} (hm : X.mg "range" = none) (h : EV X R a Γ fun d Γ1 => ∃ j : Int, d = .int j ∧ -(2 ^ 62) ≤ j ∧ j < 2 ^ 62 ∧ P (rngD 0 j) Γ1) (hg : Gl X "range" := by rfl) (hs : starEach [a] X.env = [(false, eval a X.env)] := by rfl) : EI X R tg (.Call (.Name "range" p) [a] [] pos) Γ P := fun W tk =>
  pi_weak (pi_range1 hg hm (pa_cons (pe_any (n := 0) tk) pa_nil hs) hs) fun σ H Q ⟨fp, hE, k, x⟩ => Any.go h hE x (Kt.of0 fun v d Γ1 H1 fp1 ⟨j, e1, b1, b2, q⟩ r E1 f1 => by
    subst e1
    cases r
    refine ⟨j, rfl, b1, b2, ?_⟩
    have := k _ _ Γ1 H1 fp1 q (src_rng (lo := 0) (hi := j)) E1 f1
    simpa using this)
theorem ei_range2 {P : List D → Gam → Prop} (hm : X.mg "range" = none) (h : EV X R a Γ fun d Γ1 => EV X R b Γ1 fun d2 Γ2 => ∃ i j : Int, d = .int i ∧ d2 = .int j ∧ (-(2 ^ 62) ≤ i ∧ i < 2 ^ 62 ∧ -(2 ^ 62) ≤ j ∧ j < 2 ^ 62) ∧ P (rngD i j) Γ2) (hg : Gl X "range" := by rfl)
    (hs : starEach [a, b] X.env = (false, eval a X.env) :: starEach [b] X.env := by rfl) (hs2 : starEach [b] X.env = [(false, eval b X.env)] := by rfl) : EI X R tg (.Call (.Name "range" p) [a, b] [] pos) Γ P := fun W tk =>
  pi_weak (pi_range2 hg hm (pa_cons (pe_any (n := 0) tk) (pa_cons (pe_any (n := 0) tk) pa_nil hs2) hs) (by rw [hs, hs2]) hs2) fun σ H Q ⟨fp, hE, k, x⟩ => Any.go h hE x (Kt.of0 fun v d Γ1 H1 fp1 h1 r E1 f1 =>
    Any.go h1 E1 (x.trans f1) (Kt.of0 fun v2 d2 Γ2 H2 fp2 ⟨i, j, e1, e2, b1, q⟩ r2 E2 f2 => by
      subst e1
      subst e2
      cases r
      cases r2
      exact ⟨i, j, rfl, b1, k _ _ Γ2 H2 fp2 q src_rng E2 (f1.trans f2)⟩))
theorem ei_enum {es : List Expr} {k0 : Nat} {tpos : Pos} {P : List D → Gam → Prop} (hm : X.mg "enumerate" = none) (h : EV X R e Γ fun d Γ1 => ∃ ds, seqD d = some ds ∧ P (enumD ds) Γ1) (hg : Gl X "enumerate" := by rfl) (hs : starEach [e] X.env = [(false, eval e X.env)] := by rfl) :
    EI X R (.Tuple es k0 tpos) (.Call (.Name "enumerate" p) [e] [] pos) Γ P := fun W tk =>
  pi_weak (pi_enumA hg hm (pa_cons (pe_any (n := 0) tk) pa_nil hs) hs) fun σ H Q ⟨fp, hE, k, x⟩ => Any.go h hE x (Kt.of0 fun v d Γ1 H1 fp1 ⟨ds, hw, p⟩ r E1 f1 => by
    cases r with
    | lst h1 r1 => cases hw; exact ⟨_, _, rfl, .inl ⟨h1.sq, k _ _ Γ1 H1 fp1 p (src_enumL h1 r1) E1 f1⟩⟩
    | tup h1 r1 => cases hw; exact ⟨_, _, rfl, .inr ⟨h1.sq, k _ _ Γ1 H1 fp1 p (src_enumT h1 r1) E1 f1⟩⟩
    | _ => cases hw)
theorem ei_zip {es : List Expr} {k0 : Nat} {tpos : Pos} {P : List D → Gam → Prop} (hm : X.mg "zip" = none) (h : EV X R a Γ fun d Γ1 => EV X R b Γ1 fun d2 Γ2 => ∃ ds es, ((d = .list ds ∧ d2 = .list es) ∨ (d = .tuple ds ∧ d2 = .tuple es)) ∧ P (zipD ds es) Γ2) (hg : Gl X "zip" := by rfl)
    (hs : starEach [a, b] X.env = (false, eval a X.env) :: starEach [b] X.env := by rfl) (hs2 : starEach [b] X.env = [(false, eval b X.env)] := by rfl) (hpl : (backTo pos (starEach [b] X.env)).any (·.1) = false := by rfl) :
    EI X R (.Tuple es k0 tpos) (.Call (.Name "zip" p) [a, b] [] pos) Γ P := fun W tk =>
  pi_weak (RZ.pi_zipA hg hm (pa_cons (pe_any (n := 0) tk) (pa_cons (pe_any (n := 0) tk) pa_nil hs2) hs) hs hpl) fun σ H Q ⟨fp, hE, k, x⟩ => Any.go h hE x (Kt.of0 fun v d Γ1 H1 fp1 h1 r E1 f1 =>
    Any.go h1 E1 (x.trans f1) (Kt.of0 fun v2 d2 Γ2 H2 fp2 ⟨ds, es, hw, q⟩ r2 E2 f2 => by
      have r := r.mono f2.ez
      rcases hw with ⟨e1, e2⟩ | ⟨e1, e2⟩
      · subst e1
        subst e2
        cases r with
        | lst z1 z2 =>
          cases r2 with
          | lst y1 y2 => exact ⟨_, _, _, _, rfl, .inl ⟨z1.sq, y1.sq, k _ _ Γ2 H2 fp2 q (src_zipL z1 z2 y1 y2) E2 (f1.trans f2)⟩⟩
      · subst e1
        subst e2
        cases r with
        | tup z1 z2 =>
          cases r2 with
          | tup y1 y2 => exact ⟨_, _, _, _, rfl, .inr ⟨z1.sq, y1.sq, k _ _ Γ2 H2 fp2 q (src_zipT z1 z2 y1 y2) E2 (f1.trans f2)⟩⟩))

/-! ### targets -/
def Off (ix : List Nat) (σ σ' : Sl) : Prop := σ'.length = σ.length ∧ ∀ j, j ∉ ix → σ'[j]? = σ[j]?
theorem Off.refl {ix : List Nat} {σ : Sl} : Off ix σ σ := ⟨rfl, fun _ _ => rfl⟩
theorem Off.trans {ix : List Nat} {σ σ1 σ2 : Sl} (h : Off ix σ σ1) (h' : Off ix σ1 σ2) : Off ix σ σ2 := ⟨h'.1.trans h.1, fun j m => (h'.2 j m).trans (h.2 j m)⟩
theorem Off.set {ix : List Nat} {σ : Sl} {i : Nat} {v : Option V} (m : i ∈ ix) : Off ix σ (σ.set i v) := ⟨by simp, fun j n => by rw [List.getElem?_set_ne]; exact fun z => n (z ▸ m)⟩
def tGT (K : Fg) (ix : List Nat) (d : D) (Γ : Gam) (P : Gam → Prop) : TG := fun v σ H Q => Rep K H v d ∧ ∃ fp, Env K Γ σ H fp ∧ ∀ σ' Γ' H' fp', P Γ' → Env K Γ' σ' H' fp' → Fr fp fp' H H' → Off ix σ σ' → Q σ' H'
def GT (X : Cx) (ix : List Nat) (tg : Expr) (d : D) (Γ : Gam) (P : Gam → Prop) : Prop := PG X tg (tGT X.K ix d Γ P)
def tGTs (K : Fg) (ix : List Nat) (ds : List D) (Γ : Gam) (P : Gam → Prop) : TGs := fun vs σ H Q => RepAll K H vs ds ∧ ∃ fp, Env K Γ σ H fp ∧ ∀ σ' Γ' H' fp', P Γ' → Env K Γ' σ' H' fp' → Fr fp fp' H H' → Off ix σ σ' → Q σ' H'
def GTs (X : Cx) (ix : List Nat) (tgs : List Expr) (ds : List D) (Γ : Gam) (P : Gam → Prop) : Prop := PGs X tgs (tGTs X.K ix ds Γ P)
def AnyG (X : Cx) (tg : Expr) : TG := fun v σ H Q => ∃ ix d Γ P, GT X ix tg d Γ P ∧ tGT X.K ix d Γ P v σ H Q
def AnyGs (X : Cx) (tgs : List Expr) : TGs := fun v σ H Q => ∃ ix d Γ P, GTs X ix tgs d Γ P ∧ tGTs X.K ix d Γ P v σ H Q
theorem pg_any : PG X tg (AnyG X tg) := ⟨fun pins s σ H v u Q I r ⟨_, _, _, _, h, q⟩ => h.run pins s σ H v u Q I r q⟩
theorem pgs_any {tgs : List Expr} : PGs X tgs (AnyGs X tgs) := ⟨fun pins s σ H v u Q I r ⟨_, _, _, _, h, q⟩ => h.run pins s σ H v u Q I r q⟩
theorem pg_weak {t t' : TG} (h : PG X tg t) (i : ∀ v σ H Q, t' v σ H Q → t v σ H Q) : PG X tg t' := ⟨fun pins s σ H v u Q I r q => h.run pins s σ H v u Q I r (i v σ H Q q)⟩
theorem pgs_weak {tgs : List Expr} {t t' : TGs} (h : PGs X tgs t) (i : ∀ v σ H Q, t' v σ H Q → t v σ H Q) : PGs X tgs t' := ⟨fun pins s σ H v u Q I r q => h.run pins s σ H v u Q I r (i v σ H Q q)⟩
theorem gt_name {ix : List Nat} {d : D} {P : Gam → Prop} (i : Nat) {x : Str} (hN : X.N.Nodup) (hl : i < Γ.length) (h : P (Γ.set i (.pv d))) (hi : X.N[i]? = some x := by rfl) (hm : i ∈ ix := by decide) (hx : Loc X.env.scope x := by first | exact Or.inl rfl | exact Or.inr rfl)
    (hf : X.fn x = true ∨ X.env.scope.names.lookup x = some .local := by first | exact .inl rfl | exact .inr rfl) : GT X ix (.Name x pos) d Γ P :=
  pg_weak (pg_name hN hi hx hf) fun v σ H Q ⟨r, fp, hE, k⟩ => by
    obtain ⟨fp', E', sub⟩ := hE.putPv hl r
    exact k _ _ H fp' h E' (Fr.refl.sub sub) (Off.set hm)
theorem gts_nil {ix : List Nat} {P : Gam → Prop} (h : P Γ) : GTs X ix [] [] Γ P := pgs_weak pgs_nil fun v σ H Q ⟨r, fp, hE, k⟩ => by
  cases r
  exact ⟨rfl, k σ Γ H fp h hE .refl .refl⟩
theorem gts_cons {ix : List Nat} {tgs : List Expr} {d : D} {ds : List D} {P : Gam → Prop} (h : GT X ix tg d Γ fun Γ1 => GTs X ix tgs ds Γ1 P) (hs : (assignEach (tg :: tgs) X.env).map (·.2) = assign tg X.env :: (assignEach tgs X.env).map (·.2) := by rfl) : GTs X ix (tg :: tgs) (d :: ds) Γ P :=
  pgs_weak (pgs_cons pg_any pgs_any hs) fun vs σ H Q ⟨r, fp, hE, k⟩ => by
    cases r with
    | cons r1 r2 => exact ⟨_, _, rfl, ix, d, Γ, _, h, r1, fp, hE, fun σ' Γ' H' fp' p E' f off => ⟨ix, ds, Γ', P, p, r2.mono f.ez, fp', E', fun σ2 Γ2 H2 fp2 p2 E2 f2 off2 => k σ2 Γ2 H2 fp2 p2 E2 (f.trans f2) (off.trans off2)⟩⟩
theorem gt_tup {ix : List Nat} {es : List Expr} {ds : List D} {k0 : Nat} {P : Gam → Prop} (hc : X.calm = true) (h : GTs X ix es ds Γ P) (hl : es.length = ds.length := by rfl) (hn : (assignEach es X.env).length = es.length := by rfl) (hst : (assignEach es X.env).findIdx? (·.1) = none := by rfl) : GT X ix (.Tuple es k0 pos) (.tuple ds) Γ P :=
  pg_weak (pg_tup hc h hn hst) fun v σ H Q ⟨r, fp, hE, k⟩ => by
    cases r with
    | tup h1 r1 => exact ⟨_, _, rfl, h1.sq, by rw [r1.length, hl], r1, fp, hE, k⟩
end
end DL
set_option Elab.async false
set_option linter.all false
set_option maxRecDepth 100000
set_option maxHeartbeats 1000000
namespace DL
open PySem PySem.Spec PyProof.Rows L2

theorem Env.grow {K : Fg} {Γ : Gam} {σ : Sl} {H H' : Hp} {fp : List Addr} (h : Env K Γ σ H fp) (g : Fr [] [] H H') : Env K Γ σ H' fp :=
  ⟨h.1.mono g.ez fun a m => by
    obtain ⟨u, e, _⟩ := (h.1.wr a m).mut
    exact g.sameW (h.1.wr a m) (List.not_mem_nil), h.2⟩
theorem Fr.nil_any {fp : List Addr} {H H' : Hp} (g : Fr [] [] H H') : Fr fp fp H H' := ⟨fun a o e t _ => g.keep a o e t (List.not_mem_nil), fun _ m => .inl m, g.dom, g.ez⟩
section
variable {X : Cx} {R : XP} {W : WX} {Γ : Gam} {m n : Nat} {tg iter e a b c : Expr} {pos p : Pos} {body : List Stmt} {P : Po} {ix : List Nat}
/-! ### for, while -/
theorem s1_for (hp : PassesOwn (model X.prog X.w) X.A X.env X.xe) (hc : X.calm = true)
    (h : EI X R tg iter Γ fun ds Γ1 => ∃ I : Nat → Gam → Prop, I 0 Γ1 ∧ (∀ i d Γ2, ds[i]? = some d → I i Γ2 → GT X ix tg d Γ2 fun Γ3 => SS X R m body Γ3 { P with nx := I (i + 1), ct := I (i + 1), bk := P.nx }) ∧ ∀ Γ2, I ds.length Γ2 → P.nx Γ2)
    (hs : ∀ x, foldedSetIterable iter X.env x = pure x := by intro _; rfl) : S1 X R m (.For tg iter body [] pos) Γ P := fun W tk =>
  ps_weak (ps_for hp hc (pi_any tk) pg_any (pss_any (m := m) tk) hs) fun D σ H ⟨fp, hE, k1, k2, k3, k4, xx⟩ => by
    refine ⟨R, Γ, _, h, fp, hE, fun ds J Γ1 H1 fp1 ⟨I, i0, step, fin⟩ src E1 f1 => ?_, xx⟩
    refine ⟨fun i k σ' H' => k = ds.length - i ∧ i ≤ ds.length ∧ ∃ Γ2 fp2, I i Γ2 ∧ Env X.K Γ2 σ' H' fp2 ∧ Fr fp1 fp2 H1 H', ⟨ds.length, by simp, Nat.zero_le _, Γ1, fp1, i0, E1, .refl⟩, ?_⟩
    rintro i k σ2 H2 ⟨rfl, hi, Γ2, fp2, q, E2, f2⟩
    by_cases lt : i < ds.length
    · refine .inr ⟨src.goes i H2 f2.ez lt, fun σ' H' => ∃ Γ2 fp2, I (i + 1) Γ2 ∧ Env X.K Γ2 σ' H' fp2 ∧ Fr fp1 fp2 H1 H', fun σ' H' z => ⟨ds.length - (i + 1), by omega, rfl, lt, z⟩, fun x H3 y => ?_⟩
      obtain ⟨d, hd, r, g⟩ := src.yields i H2 x H3 f2.ez lt y
      refine ⟨ix, d, Γ2, _, step i d Γ2 hd q, r, fp2, E2.grow g, fun σ4 Γ4 H4 fp4 ss E4 g4 off => ?_⟩
      have f4 : Fr fp1 fp4 H1 H4 := (f2.trans g.nil_any).trans g4
      refine ⟨R, Γ4, _, ss, fp4, E4, fun σ' Γ' H' fp' p E' f => ⟨Γ', fp', p, E', f4.trans f⟩, fun v d' fv σ' Γ' H' fp' p o E' nd f => k2 v d' fv σ' Γ' H' fp' p o E' nd ((f1.trans f4).trans f),
        fun σ' Γ' H' fp' p E' f => k1 σ' Γ' H' fp' p E' ((f1.trans f4).trans f), fun σ' Γ' H' fp' p E' f => ⟨Γ', fp', p, E', f4.trans f⟩, (xx.trans f1).trans f4⟩
    · have e : i = ds.length := by omega
      subst e
      exact .inl ⟨src.stops H2 f2.ez, k1 σ2 Γ2 H2 fp2 (fin Γ2 q) E2 (f1.trans f2)⟩
theorem s1_while (hp : PassesOwn (model X.prog X.w) X.A X.env X.xe) (I : Nat → Gam → Prop) (h0 : ∃ k, I k Γ)
    (h : ∀ k Γ1, I k Γ1 → ET X R c Γ1 fun b Γ2 => (b = true → SS X R m body Γ2 { P with nx := fun Γ3 => ∃ j, j < k ∧ I j Γ3, ct := fun Γ3 => ∃ j, j < k ∧ I j Γ3, bk := P.nx }) ∧ (b = false → P.nx Γ2)) :
    S1 X R m (.While c body [] pos) Γ P := fun W tk =>
  ps_weak (ps_while hp (pt_any tk) (pss_any (m := m) tk)) fun D σ H ⟨fp, hE, k1, k2, k3, k4, xx⟩ => by
    obtain ⟨k0, i0⟩ := h0
    refine ⟨fun k σ' H' => ∃ Γ2 fp2, I k Γ2 ∧ Env X.K Γ2 σ' H' fp2 ∧ Fr fp fp2 H H', ⟨k0, Γ, fp, i0, hE, .refl⟩, ?_⟩
    rintro k σ1 H1 ⟨Γ1, fp1, q, E1, f1⟩
    refine AnyT.go (h k Γ1 q) E1 (xx.trans f1) fun b Γ2 H2 fp2 ⟨q1, q2⟩ E2 f2 => ?_
    have f3 := f1.trans f2
    cases b with
    | true =>
      rw [if_pos rfl]
      refine ⟨fun σ' H' => ∃ j, j < k ∧ ∃ Γ2 fp2, I j Γ2 ∧ Env X.K Γ2 σ' H' fp2 ∧ Fr fp fp2 H H', fun σ' H' z => z, ?_⟩
      exact ⟨R, Γ2, _, q1 rfl, fp2, E2, fun σ' Γ' H' fp' ⟨j, hj, p⟩ E' f => ⟨j, hj, Γ', fp', p, E', f3.trans f⟩, fun v d' fv σ' Γ' H' fp' p o E' nd f => k2 v d' fv σ' Γ' H' fp' p o E' nd (f3.trans f),
        fun σ' Γ' H' fp' p E' f => k1 σ' Γ' H' fp' p E' (f3.trans f), fun σ' Γ' H' fp' ⟨j, hj, p⟩ E' f => ⟨j, hj, Γ', fp', p, E', f3.trans f⟩, xx.trans f3⟩
    | false =>
      rw [if_neg Bool.false_ne_true]
      exact k1 σ1 Γ2 H2 fp2 (q2 rfl) E2 f3
end

/-! ### the slots of a comprehension's own names -/
def wipeG (Γ : Gam) : List Nat → Gam
  | [] => Γ
  | v :: vs => (wipeG Γ vs).set v .no
def keepAt (Γ1 : Gam) (v : Nat) : SV := match Γ1[v]? with
  | some (.pv d) => .pv d
  | _ => .no
def restore (Γ1 : Gam) : Gam → List Nat → Gam
  | Γ, [] => Γ
  | Γ, v :: vs => restore Γ1 (Γ.set v (keepAt Γ1 v)) vs
section
variable {K : Fg} {H H1 : Hp}
theorem EnvOk.wipe1 {Γ : Gam} {σ : Sl} {fp : List Addr} (h : EnvOk K H Γ σ fp) (v : Nat) (x : Option V) : ∃ fp', fp'.Sublist fp ∧ EnvOk K H (Γ.set v .no) (σ.set v x) fp' := by
  by_cases lt : v < Γ.length
  · obtain ⟨g, h', q1, _, q3, _⟩ := h.put lt
    exact ⟨_, q1, q3⟩
  · rw [List.set_eq_of_length_le (by omega), List.set_eq_of_length_le (by rw [← h.len]; omega)]
    exact ⟨fp, List.Sublist.refl _, h⟩
theorem EnvOk.wipe {Γ : Gam} {σ : Sl} {fp : List Addr} (h : EnvOk K H Γ σ fp) : ∀ vs : List Nat, ∃ fp', fp'.Sublist fp ∧ EnvOk K H (wipeG Γ vs) (wipe σ vs) fp'
  | [] => ⟨fp, List.Sublist.refl _, h⟩
  | v :: vs => by
    obtain ⟨fp1, s1, h1⟩ := EnvOk.wipe h vs
    obtain ⟨fp2, s2, h2⟩ := h1.wipe1 v none
    exact ⟨fp2, s2.trans s1, h2⟩
theorem EnvOk.unset : ∀ {Γ : Gam} {τ σ : Sl} {fp : List Addr} {v : Nat} {e : SV}, EnvOk K H Γ τ fp → τ = σ.set v none → (e = .no ∨ ∃ d u, e = .pv d ∧ σ[v]? = some (some u) ∧ Rep K H u d) → EnvOk K H (Γ.set v e) σ fp := by
  intro Γ τ σ fp v e h
  induction h generalizing σ v with
  | nil tt =>
    intro e1 _
    have : σ = [] := by
      have := congrArg List.length e1
      simp at this
      exact List.length_eq_zero_iff.mp this.symm
    subst this
    exact .nil tt
  | @no Γ τ fp x r ih =>
    intro e1 q
    cases σ with
    | nil => cases v <;> simp at e1
    | cons y σ =>
      cases v with
      | zero =>
        simp at e1
        obtain ⟨_, rfl⟩ := e1
        rcases q with rfl | ⟨d, u, rfl, z, ru⟩
        · exact .no r
        · simp at z; subst z; exact .pv ru r
      | succ v =>
        simp at e1
        obtain ⟨rfl, e1⟩ := e1
        exact .no (ih e1 (by simpa using q))
  | @pv Γ τ fp w d ru r ih =>
    intro e1 q
    cases σ with
    | nil => cases v <;> simp at e1
    | cons y σ =>
      cases v with
      | zero => simp at e1
      | succ v =>
        simp at e1
        obtain ⟨rfl, e1⟩ := e1
        exact .pv ru (ih e1 (by simpa using q))
  | @fx Γ τ fp w F ru r ih =>
    intro e1 q
    cases σ with
    | nil => cases v <;> simp at e1
    | cons y σ =>
      cases v with
      | zero => simp at e1
      | succ v =>
        simp at e1
        obtain ⟨rfl, e1⟩ := e1
        exact .fx ru (ih e1 (by simpa using q))
  | @ow Γ τ fp f w n d o r ih =>
    intro e1 q
    cases σ with
    | nil => cases v <;> simp at e1
    | cons y σ =>
      cases v with
      | zero => simp at e1
      | succ v =>
        simp at e1
        obtain ⟨rfl, e1⟩ := e1
        exact .ow o (ih e1 (by simpa using q))
theorem wipe_off {σ : Sl} {v : Nat} : ∀ {vs : List Nat}, v ∉ vs → (wipe σ vs)[v]? = σ[v]?
  | [], _ => rfl
  | u :: vs, h => by
    unfold L2.wipe
    rw [List.getElem?_set_ne (fun z => h (by rw [z]; exact List.mem_cons_self))]
    exact wipe_off fun m => h (List.mem_cons_of_mem _ m)
theorem EnvOk.restore {Γ1 : Gam} {σ : Sl} {fp1 : List Addr} (h1 : EnvOk K H1 Γ1 σ fp1) (z : Ez H1 H) : ∀ {vs : List Nat} {Γ : Gam} {fp : List Addr}, vs.Nodup → EnvOk K H Γ (L2.wipe σ vs) fp → EnvOk K H (DL.restore Γ1 Γ vs) σ fp
  | [], _, _, _, h => h
  | v :: vs, Γ, fp, nd, h => by
    obtain ⟨n1, n2⟩ := List.nodup_cons.mp nd
    show EnvOk K H (DL.restore Γ1 (Γ.set v (keepAt Γ1 v)) vs) σ fp
    refine EnvOk.restore h1 z n2 (EnvOk.unset h rfl ?_)
    unfold keepAt
    split
    · rename_i d e
      obtain ⟨u, e1, r⟩ := h1.pvAt e
      exact .inr ⟨d, u, rfl, by rw [wipe_off n1]; exact e1, r.mono z⟩
    · exact .inl rfl
theorem wipe_eq {σ σ' : Sl} {vs : List Nat} (h : Off vs σ σ') : wipe σ' vs = wipe σ vs := by
  apply List.ext_getElem?
  intro j
  by_cases m : j ∈ vs
  · have key : ∀ (τ : Sl) (us : List Nat), j ∈ us → (wipe τ us)[j]? = if j < τ.length then some none else none := by
      intro τ us
      induction us with
      | nil => intro z; cases z
      | cons u us ih =>
        intro z
        unfold L2.wipe
        by_cases e : u = j
        · subst e
          rw [List.getElem?_set, if_pos rfl, wipe_length]
        · rw [List.getElem?_set_ne e]
          exact ih ((List.mem_cons.mp z).resolve_left fun q => e q.symm)
    rw [key _ _ m, key _ _ m, h.1]
  · rw [wipe_off m, wipe_off m, h.2 j m]
end
end DL
set_option Elab.async false
set_option linter.all false
set_option maxRecDepth 100000
set_option maxHeartbeats 1000000
namespace DL
open PySem PySem.Spec PyProof.Rows L2

/-- the block's context -/
abbrev bx (X : Cx) (scope : Scope) (s : Shared) (H : Hp) (C : Addr) (cl : List (Str × Addr)) (fp : List Addr) : Cx := X.blk s H scope (compEnvC scope cl C X.env) fp
def noW : WX := fun _ _ _ _ => False
theorem takes_noW {X : Cx} : Takes X noW := fun u s' h => by
  obtain ⟨a, B, sI, pins, σ, H, cls, d, e, I, nb, up, sky, na, os, ag, w⟩ := h
  exact (show False from w).elim
theorem xc_noW {K : Fg} {fp : List Addr} {H : Hp} : XC K noW noX fp H := fun _ _ _ _ _ _ _ h => h.elim
/-- the tests of a clause -/
def TsG (X : Cx) (ifs : List Expr) (Γ : Gam) (P : Bool → Gam → Prop) : Prop := match ifs with
  | [] => P true Γ
  | [c] => ET X noX c Γ P
  | _ => False
def tTs (X : Cx) (scope : Scope) (ifs : List Expr) : TT := fun σ H Q => ∃ Γ P fp, (∀ s H0 C cl f, TsG (bx X scope s H0 C cl f) ifs Γ P) ∧ Env X.K Γ σ H fp ∧ Kb X.K P σ fp H Q
def tEl (X : Cx) (scope : Scope) (n : Nat) (e : Expr) : TE := fun σ H Q => ∃ Γ P fp, (∀ s H0 C cl f, EG (bx X scope s H0 C cl f) noX n e Γ P) ∧ Env X.K Γ σ H fp ∧ Kt X.K n P σ fp H Q
def tTg (X : Cx) (scope : Scope) (ix : List Nat) (tg : Expr) : TG := fun v σ H Q => ∃ d Γ P, (∀ s H0 C cl f, GT (bx X scope s H0 C cl f) ix tg d Γ P) ∧ tGT X.K ix d Γ P v σ H Q
section
variable {X : Cx} {R : XP} {W : WX} {Γ : Gam} {m n : Nat} {tg iter elt e a b c : Expr} {ifs : List Expr} {pos p : Pos} {scope : Scope} {ix : List Nat}
theorem pts_blk : ∀ {ifs : List Expr} (s : Shared) (H : Hp) (C : Addr) (cl : List (Str × Addr)) (fp : List Addr), PTs (bx X scope s H C cl fp) ifs (tTs X scope ifs)
  | [], s, H, C, cl, fp => ⟨fun pins s' σ H' Q I ⟨Γ, P, fp', h, hE, k⟩ => pts_nil.run pins s' σ H' Q I (k true Γ H' fp' (h s H C cl fp) hE .refl)⟩
  | [c], s, H, C, cl, fp => ⟨fun pins s' σ H' Q I ⟨Γ, P, fp', h, hE, k⟩ => (pts_one ((show ET _ noX c Γ P from h s H C cl fp) noW takes_noW)).run pins s' σ H' Q I ⟨fp', hE, k, xc_noW⟩⟩
  | c :: c' :: r, s, H, C, cl, fp => ⟨fun pins s' σ H' Q I ⟨Γ, P, fp', h, hE, k⟩ => (show False from h s H C cl fp).elim⟩
theorem pe_blk (s : Shared) (H : Hp) (C : Addr) (cl : List (Str × Addr)) (fp : List Addr) : PE (bx X scope s H C cl fp) elt (tEl X scope n elt) :=
  ⟨fun pins s' σ H' Q I ⟨Γ, P, fp', h, hE, k⟩ => (h s H C cl fp noW takes_noW).run pins s' σ H' Q I ⟨fp', hE, k, xc_noW⟩⟩
theorem pg_blk (s : Shared) (H : Hp) (C : Addr) (cl : List (Str × Addr)) (fp : List Addr) : PG (bx X scope s H C cl fp) tg (tTg X scope ix tg) :=
  ⟨fun pins s' σ H' v u Q I r ⟨d, Γ, P, h, k⟩ => (h s H C cl fp).run pins s' σ H' v u Q I r k⟩
/-- what a comprehension's turns must do -/
def LcI (X : Cx) (scope : Scope) (vs : List Nat) (n : Nat) (tg elt : Expr) (ifs : List Expr) (P : D → Gam → Prop) (ds : List D) (Γ1 : Gam) : Prop :=
  ∃ I : Nat → List D → Gam → Prop, ds.length ≤ 16777216 ∧ I 0 [] (wipeG Γ1 vs) ∧
    (∀ i d acc Γ2, ds[i]? = some d → acc.length ≤ i → I i acc Γ2 → ∀ s H C cl fp, GT (bx X scope s H C cl fp) vs tg d Γ2 fun Γ3 => ∀ s H C cl fp, TsG (bx X scope s H C cl fp) ifs Γ3 fun b Γ4 =>
      (b = true → ∀ s H C cl fp, EG (bx X scope s H C cl fp) noX n elt Γ4 fun e Γ5 => I (i + 1) (acc ++ [e]) (wipeG Γ5 vs)) ∧ (b = false → I (i + 1) acc (wipeG Γ4 vs))) ∧
    ∀ acc Γ2, I ds.length acc Γ2 → P (.list acc) (restore Γ1 Γ2 vs)
theorem nodup_perm2 {D0 : Addr} {fs fv f : List Addr} (h : (fv ++ (D0 :: fs ++ f)).Nodup) : (D0 :: (fs ++ (fv ++ [])) ++ f).Nodup := by
  have p : (fv ++ (D0 :: fs ++ f)).Perm (D0 :: (fs ++ (fv ++ [])) ++ f) := by
    rw [List.append_nil, ← List.append_assoc]
    refine List.Perm.append_right f ?_
    refine (List.perm_append_comm).trans ?_
    simp
  exact p.nodup_iff.mp h
theorem off_wipe {σ : Sl} {vs : List Nat} : Off vs σ (wipe σ vs) := ⟨wipe_length σ vs, fun j h => wipe_off h⟩
theorem lc_T {vs : List Nat} {P : D → Gam → Prop} {σ : Sl} {H : Hp} {fp : List Addr} {Q : VK} (hvs : vs.Nodup) (h : EI X R tg iter Γ fun ds Γ1 => LcI X scope vs n tg elt ifs P ds Γ1) (hE : Env X.K Γ σ H fp) (k : Kt X.K (n + 1) P σ fp H Q) (xx : XC X.K W R fp H) :
    tLc (AnyI X W tg iter) (tTg X scope vs tg) (tTs X scope ifs) (tEl X scope n elt) vs σ H Q := by
  refine ⟨R, Γ, _, h, fp, hE, fun ds J Γ1 H1 fp1 ⟨I, small, i0, step, fin⟩ src E1 f1 => ?_, xx⟩
  intro D0 hD
  refine ⟨fun i m H' => m = ds.length - i ∧ i ≤ ds.length ∧ ∃ accV accD fs Γ2 fp2, I i accD Γ2 ∧ accD.length ≤ i ∧ H' D0 = some (.lst accV) ∧ All3 (Own X.K H' n) accV accD fs ∧ EnvOk X.K H' Γ2 (wipe σ vs) fp2 ∧ (D0 :: fs ++ fp2).Nodup ∧ Fr fp1 (D0 :: fs ++ fp2) H1 H', ?_, ?_⟩
  · have E2 : Env X.K Γ1 σ (upd H1 D0 (.lst [])) fp1 := E1.alloc hD
    obtain ⟨fp2, s2, h2⟩ := E2.1.wipe vs
    have nD : D0 ∉ fp2 := fun z => by
      obtain ⟨u, e, _⟩ := (E1.1.wr D0 (s2.subset z)).mut
      rw [hD] at e; cases e
    refine ⟨_, rfl, Nat.zero_le _, [], [], [], _, fp2, i0, Nat.le_refl _, upd_same, .nil, h2, ?_, (Fr.alloc hD).sub fun x z => ?_⟩
    · exact List.nodup_cons.mpr ⟨nD, E1.2.sublist s2⟩
    · rcases List.mem_cons.mp z with z | z
      · rw [z]; exact List.mem_cons_self
      · exact List.mem_cons_of_mem _ (s2.subset z)
  · rintro i m H2 ⟨rfl, hi, accV, accD, fs, Γ2, fp2, q, len, hDl, own, E2, nd, f2⟩
    by_cases lt : i < ds.length
    · refine .inr ⟨src.goes i H2 f2.ez lt, fun H' => ∃ accV accD fs Γ2 fp2, I (i + 1) accD Γ2 ∧ accD.length ≤ i + 1 ∧ H' D0 = some (.lst accV) ∧ All3 (Own X.K H' n) accV accD fs ∧ EnvOk X.K H' Γ2 (wipe σ vs) fp2 ∧ (D0 :: fs ++ fp2).Nodup ∧ Fr fp1 (D0 :: fs ++ fp2) H1 H', fun H' z => ⟨ds.length - (i + 1), by omega, rfl, lt, z⟩, fun x H3 y => ?_⟩
      obtain ⟨d, hd, r, g⟩ := src.yields i H2 x H3 f2.ez lt y
      have nd2 : fp2.Nodup := (List.nodup_append.mp nd).2.1
      have apart : ∀ b ∈ D0 :: fs, b ∉ fp2 := fun b m1 m2 => (List.nodup_append.mp nd).2.2 b m1 b m2 rfl
      have E3 : Env X.K Γ2 (wipe σ vs) H3 fp2 := Env.grow ⟨E2, nd2⟩ g
      have wrW : ∀ b ∈ D0 :: fs, Wr H2 b := fun b mb => by
        rcases List.mem_cons.mp mb with z | z
        · rw [z]; exact .inl ⟨_, hDl⟩
        · exact All3.wr Own.wr own b z
      have wrD : ∀ b ∈ D0 :: fs, ∃ u, H2 b = some u := fun b mb => by
        rcases List.mem_cons.mp mb with z | z
        · rw [z]; exact ⟨_, hDl⟩
        · obtain ⟨u, e, _⟩ := (All3.wr Own.wr own b z).mut
          exact ⟨u, e⟩
      refine ⟨d, Γ2, _, fun s H C cl f => step i d accD Γ2 hd len q s H C cl f, r, fp2, E3, fun σ4 Γ4 H4 fp4 h4 E4 g4 off0 => ?_⟩
      have off : Off vs σ σ4 := off_wipe.trans off0
      refine ⟨wipe_eq off, ?_⟩
      refine ⟨Γ4, _, fp4, fun s H C cl f => h4 s H C cl f, E4, fun b Γ5 H5 fp5 ⟨q1, q2⟩ E5 f5 => ?_⟩
      have f5' : Fr fp2 fp5 H2 H5 := (g.nil_any.trans g4).trans f5
      cases b with
      | false =>
        dsimp only
        rw [if_neg Bool.false_ne_true]
        obtain ⟨fp6, s6, E6⟩ := E5.1.wipe vs
        rw [wipe_eq off] at E6
        have keep : ∀ b ∈ D0 :: fs, H5 b = H2 b := fun b mb => by
          exact f5'.sameW (wrW b mb) (apart b mb)
        have sep : ∀ b ∈ D0 :: fs, b ∉ fp6 := fun b m1 m2 => by
          rcases f5'.new b (s6.subset m2) with z | z
          · exact apart b m1 z
          · obtain ⟨u, e⟩ := wrD b m1
            rw [e] at z; cases z
        refine ⟨accV, accD, fs, _, fp6, q2 rfl, by omega, (keep D0 List.mem_cons_self).trans hDl, own.mono fun v d f hf o => o.mono f5'.ez fun a ma => keep a (List.mem_cons_of_mem _ (hf a ma)), E6, ?_, ?_⟩
        · exact List.nodup_append.mpr ⟨(List.nodup_append.mp nd).1, E5.2.sublist s6, fun b m1 b' m2 z => sep b m1 (z ▸ m2)⟩
        · have := f2.trans (f5'.more (g := D0 :: fs))
          refine this.sub fun b mb => ?_
          rcases List.mem_append.mp mb with z | z
          · exact List.mem_append_left _ z
          · exact List.mem_append_right _ (s6.subset z)
      | true =>
        dsimp only
        rw [if_pos rfl]
        refine ⟨Γ5, _, fp5, fun s H C cl f => q1 rfl s H C cl f, E5, fun v e fv Γ6 H6 fp6 p6 o6 E6 nd6 f6 => ?_⟩
        have f6' : Fr fp2 (fv ++ fp6) H2 H6 := f5'.trans f6
        obtain ⟨fp7, s7, E7⟩ := E6.wipe vs
        rw [wipe_eq off] at E7
        have keep : ∀ b ∈ D0 :: fs, H6 b = H2 b := fun b mb => by
          exact f6'.sameW (wrW b mb) (apart b mb)
        have sep : ∀ b ∈ D0 :: fs, b ∉ fv ++ fp6 := fun b m1 m2 => by
          rcases f6'.new b m2 with z | z
          · exact apart b m1 z
          · obtain ⟨u, e⟩ := wrD b m1
            rw [e] at z; cases z
        have hD6 := (keep D0 List.mem_cons_self).trans hDl
        have nDv : ∀ b ∈ fs ++ (fv ++ fp6), b ≠ D0 := fun b mb z => by
          subst z
          rcases List.mem_append.mp mb with mb | mb
          · exact (List.nodup_cons.mp (List.nodup_append.mp nd).1).1 mb
          · exact sep b List.mem_cons_self mb
        have z : Ez H6 (upd H6 D0 (.lst (accV ++ [v]))) := (Fr.write (fp := [D0]) List.mem_cons_self (.inl ⟨_, hD6⟩)).ez
        refine ⟨accV, hD6, by
          have := All3.length own
          rw [sizeLine_eq, this]; omega, accV ++ [v], accD ++ [e], fs ++ (fv ++ []), _, fp7, p6, by rw [List.length_append]; exact Nat.succ_le_succ len, upd_same, All3.append (own.mono fun v d f hf o => ?_) (.cons (o6.mono z fun a ma => upd_ne ?_) .nil), E7.mono z fun a ma => upd_ne ?_, ?_, ?_⟩
        · exact o.mono (f6'.ez.trans z) fun a ma => by
            rw [upd_ne (nDv a (List.mem_append_left _ (hf a ma)))]
            exact keep a (List.mem_cons_of_mem _ (hf a ma))
        · exact nDv a (List.mem_append_right _ (List.mem_append_left _ ma))
        · exact nDv a (List.mem_append_right _ (List.mem_append_right _ (s7.subset ma)))
        · have nd' : (fv ++ fp7).Nodup := nd6.sublist (s7.append_left fv)
          apply nodup_perm2
          refine List.nodup_append.mpr ⟨(List.nodup_append.mp nd6).1, List.nodup_append.mpr ⟨(List.nodup_append.mp nd).1, (List.nodup_append.mp nd').2.1, fun b m1 b' m2 z => sep b m1 (List.mem_append_right _ (s7.subset (z ▸ m2)))⟩, fun b m1 b' m2 z => ?_⟩
          subst z
          rcases List.mem_append.mp m2 with m2 | m2
          · exact sep b m2 (List.mem_append_left _ m1)
          · exact (List.nodup_append.mp nd').2.2 b m1 b m2 rfl
        · have g1 := f2.trans (f6'.more (g := D0 :: fs))
          have g2 : Fr (D0 :: fs ++ (fv ++ fp6)) (D0 :: fs ++ (fv ++ fp6)) H6 (upd H6 D0 (.lst (accV ++ [v]))) := Fr.write List.mem_cons_self (.inl ⟨_, hD6⟩)
          refine (g1.trans g2).sub fun b mb => ?_
          simp only [List.cons_append, List.append_nil, List.append_assoc, List.mem_cons, List.mem_append] at mb ⊢
          rcases mb with mb | mb | mb | mb
          · exact .inl mb
          · exact .inr (.inl mb)
          · exact .inr (.inr (.inl mb))
          · exact .inr (.inr (.inr (s7.subset mb)))
    · have e : i = ds.length := by omega
      subst e
      refine .inl ⟨src.stops H2 f2.ez, ?_⟩
      exact k _ _ (D0 :: fs) _ H2 fp2 (fin accD Γ2 q) (.inl ⟨D0, accV, accD, fs, rfl, rfl, hDl, own, rfl⟩) (E1.1.restore f2.ez hvs E2) nd (f1.trans f2)
/-- [elt for tg in iter if ..] -/
theorem eg_lc {own : List (Str × Nat)} {P : D → Gam → Prop} (hc : X.calm = true) (hN : X.N.Nodup) (h : EI X R tg iter Γ fun ds Γ1 => LcI X scope (own.map (·.2)) n tg elt ifs P ds Γ1) (ok : BlkOk X.N X.env.scope scope own) (hvs : (own.map (·.2)).Nodup := by decide)
    (hs : ∀ x, foldedSetIterable iter X.env x = pure x := by intro _; rfl) : EG X R (n + 1) (.ListComp elt [⟨tg, iter, ifs, 0⟩] scope pos) Γ P := fun W tk =>
  pe_weak (pe_lc hc hN (pi_any tk) ok pg_blk pts_blk pe_blk hs) fun σ H Q ⟨fp, hE, k, xx⟩ => lc_T hvs h hE k xx
/-- name = [..] on one line -/
theorem s1_setLc (i : Nat) {y : Str} {py spos : Pos} {own : List (Str × Nat)} {P : Po} (hc : X.calm = true) (hN : X.N.Nodup) (h : EI X R tg iter Γ fun ds Γ1 => LcI X scope (own.map (·.2)) n tg elt ifs (fun d Γ2 => i < Γ2.length ∧ ∀ v, P.nx (Γ2.set i (.ow v (n + 1) d))) ds Γ1) (ok : BlkOk X.N X.env.scope scope own)
    (hsw : swapsWith (.ListComp elt [⟨tg, iter, ifs, 0⟩] scope pos) (some (.Name y py)) spos.line X.env = pure true) (hyl : X.env.scope.names.lookup y = some .local := by rfl) (hvs : (own.map (·.2)).Nodup := by decide) (hy : X.N[i]? = some y := by rfl)
    (hs : ∀ x, foldedSetIterable iter X.env x = pure x := by intro _; rfl) : S1 X R m (.Assign [.Name y py] (.ListComp elt [⟨tg, iter, ifs, 0⟩] scope pos) spos) Γ P := fun W tk =>
  ps_weak (ps_setLc hc hN hy hyl hsw (pi_any tk) ok pg_blk pts_blk pe_blk hs) fun D σ H ⟨fp, hE, k1, _, _, _, xx⟩ => lc_T hvs h hE (fun v d fv Γ1 H1 fp1 ⟨hl, p⟩ o E1 nd f1 => by
    obtain ⟨fp2, E2, sub⟩ := Env.putOw E1 nd hl o
    exact k1 _ _ H1 fp2 (p v) E2 (f1.sub sub)) xx
end
end DL
set_option Elab.async false
set_option linter.all false
set_option maxRecDepth 100000
set_option maxHeartbeats 1000000
namespace DL
open PySem PySem.Spec PyProof.Rows L2

/-! ### reading what is owned, for a while -/
def frzS : SV → SV
  | .ow _ _ d => .pv d
  | s => s
abbrev frz (Γ : Gam) : Gam := Γ.map frzS
def FlatN : Nat → D → Prop
  | 0, d => flatD d = true
  | n + 1, .list ds => ∀ x ∈ ds, FlatN n x
  | _ + 1, d => flatD d = true
section
variable {K : Fg} {H H' : Hp}
theorem flat_rep {v : V} {d : D} (h : Rep K H v d) (f : flatD d = true) : Rep K H' v d := by
  cases h <;> first | (simp [flatD] at f; done) | constructor
theorem All3.flat {n : Nat} (ih : ∀ {v : V} {d : D} {f : List Addr}, Own K H n v d f → FlatN n d → (∀ a ∈ f, H' a = H a) → Own K H' n v d f) : ∀ {vs : List V} {ds : List D} {fs : List Addr}, All3 (Own K H n) vs ds fs → (∀ x ∈ ds, FlatN n x) → (∀ a ∈ fs, H' a = H a) → All3 (Own K H' n) vs ds fs
  | _, _, _, .nil, _, _ => .nil
  | _, _, _, .cons h r, g, k => .cons (ih h (g _ List.mem_cons_self) fun a m => k a (List.mem_append_left _ m)) (All3.flat ih r (fun x m => g x (List.mem_cons_of_mem _ m)) fun a m => k a (List.mem_append_right _ m))
theorem Own.flat : ∀ {n : Nat} {v : V} {d : D} {f : List Addr}, Own K H n v d f → FlatN n d → (∀ a ∈ f, H' a = H a) → Own K H' n v d f
  | 0, _, _, _, h, g, _ => ⟨flat_rep h.1 g, h.2⟩
  | n + 1, v, d, f, h, g, k => by
    rcases h with ⟨a, xs, ds, fs, rfl, rfl, e, r, rfl⟩ | ⟨a, xs, ds, fs, rfl, rfl, e, r, rfl⟩ | ⟨h1, h2, h3⟩
    · exact .inl ⟨a, xs, ds, fs, rfl, rfl, (k a List.mem_cons_self).trans e, All3.flat Own.flat r g fun b m => k b (List.mem_cons_of_mem _ m), rfl⟩
    · simp [FlatN, flatD] at g
    · refine .inr (.inr ⟨h1, ?_, h3⟩)
      cases h2 <;> first | (exact h1.elim) | (simp [FlatN, flatD] at g; done) | constructor
theorem EnvOk.frz : ∀ {Γ : Gam} {σ : Sl} {fp : List Addr}, EnvOk K H Γ σ fp → Ez H H' → (∀ a ∈ fp, ∃ o u, H a = some u ∧ H' a = some (.frz o u)) → EnvOk K H' (DL.frz Γ) σ []
  | _, _, _, .nil t, z, _ => .nil (z.tb t)
  | _, _, _, .no r, z, k => .no (EnvOk.frz r z k)
  | _, _, _, .pv h r, z, k => .pv (h.mono z) (EnvOk.frz r z k)
  | _, _, _, .fx h r, z, k => .fx (h.mono z) (EnvOk.frz r z k)
  | _, _, _, .ow o r, z, k => .pv (o.froz z fun a m => k a (List.mem_append_left _ m)) (EnvOk.frz r z fun a m => k a (List.mem_append_right _ m))
end
theorem unlock_all {X : Cx} {pins : List (Addr × Obj)} {σ : Sl} {H : Hp} {s : Shared} : ∀ (l : List Addr) (H3 : Hp), Inv X pins σ H3 s → l.Nodup → (∀ a ∈ l, ∃ o u, H a = some u ∧ H3 a = some (.frz o u) ∧ ∀ o' u', X.H_0 a ≠ some (.frz o' u')) →
    ∃ H4, Inv X pins σ H4 s ∧ (∀ a, a ∉ l → H4 a = H3 a) ∧ ∀ a ∈ l, H4 a = H a
  | [], H3, I, _, _ => ⟨H3, I, fun _ _ => rfl, fun _ m => nomatch m⟩
  | b :: l, H3, I, nd, h => by
    obtain ⟨nb, nd'⟩ := List.nodup_cons.mp nd
    obtain ⟨o, u, e, e3, hn⟩ := h b List.mem_cons_self
    obtain ⟨H4, I4, k1, k2⟩ := unlock_all (H := H) l (upd H3 b u) (I.unlock e3 hn) nd' fun a m => by
      obtain ⟨o', u', q1, q2, q3⟩ := h a (List.mem_cons_of_mem _ m)
      have ne : a ≠ b := fun z => nb (z ▸ m)
      exact ⟨o', u', q1, by rw [upd_ne ne]; exact q2, q3⟩
    refine ⟨H4, I4, fun a m => ?_, fun a m => ?_⟩
    · rw [k1 a (fun z => m (List.mem_cons_of_mem _ z)), upd_ne (fun z => m (by rw [z]; exact List.mem_cons_self))]
    · rcases List.mem_cons.mp m with z | z
      · subst z; rw [k1 a nb, upd_same, e]
      · exact k2 a z
def tLk (K : Fg) (n : Nat) (Γ : Gam) (P : D → Prop) : TE := fun σ H Q => ∃ fp, Env K Γ σ H fp ∧ ∀ v d fv H', P d → Own K H' n v d fv → Env K Γ σ H' fp → Ez H H' → (∀ a ∈ fp, H' a = H a) → (fv ++ fp).Nodup → Fr fp (fv ++ fp) H H' → Q v H'
section
variable {X : Cx} {R : XP} {W : WX} {Γ : Gam} {m n : Nat} {o e a b c i : Expr} {es : List Expr} {pos p : Pos} {P : Po}
theorem lk_env {pins : List (Addr × Obj)} {σ : Sl} {H : Hp} {s : Shared} {fp : List Addr} (I : Inv X pins σ H s) (hE : Env X.K Γ σ H fp) : ∃ H2, Inv X pins σ H2 s ∧ Env X.K (frz Γ) σ H2 [] ∧ Locked fp H H2 := by
  obtain ⟨H2, I2, L⟩ := lock_all I fp hE.1.wr hE.2
  exact ⟨H2, I2, ⟨hE.1.frz (L.ez hE.1.wr) L.2, List.nodup_nil⟩, L⟩
theorem lk_back {pins : List (Addr × Obj)} {σ : Sl} {H H2 H3 : Hp} {s s1 : Shared} {fp fv : List Addr} (I : Inv X pins σ H s) (hE : Env X.K Γ σ H fp) (L : Locked fp H H2) (I3 : Inv X pins σ H3 s1) (f : Fr [] fv H2 H3) (nd : fv.Nodup) :
    ∃ H4, Inv X pins σ H4 s1 ∧ Env X.K Γ σ H4 fp ∧ Ez H H4 ∧ (∀ a ∈ fp, H4 a = H a) ∧ (∀ a ∈ fv, H4 a = H3 a) ∧ (fv ++ fp).Nodup ∧ Fr fp (fv ++ fp) H H4 := by
  obtain ⟨H4, I4, k1, k2⟩ := unlock_all (H := H) fp H3 I3 hE.2 fun a ma => by
    obtain ⟨o, u, e1, e2⟩ := L.2 a ma
    refine ⟨o, u, e1, f.keep a _ e2 (fun _ z => by cases z) (List.not_mem_nil), ?_⟩
    obtain ⟨u', e', mu⟩ := (hE.1.wr a ma).mut
    exact I.nofrz e' mu
  have z4 : Ez H H4 := ⟨fun a u e z => by
    by_cases ma : a ∈ fp
    · exact (k2 a ma).trans e
    · rw [k1 a ma]; exact f.ez a u ((L.1 a ma).trans e) z, fun t p hp => by
    obtain ⟨ps, h1, h2, h3⟩ := f.ez.tb ((L.ez hE.1.wr).tb t) p hp
    have off : ∀ a o, H3 a = some o → (∀ x u, o ≠ .frz x u) → H4 a = some o := fun a o e n => by
      rw [k1 a fun ma => ?_]
      · exact e
      · obtain ⟨x, u, e1, e2⟩ := L.2 a ma
        have e3 := f.keep a _ e2 (fun _ z => by cases z) (List.not_mem_nil)
        rw [e3] at e
        exact n x u (Option.some.inj e).symm
    refine ⟨ps, off _ _ h1 (fun _ _ z => by cases z), h2, fun pos cv hc => ?_⟩
    obtain ⟨c, e1, e2⟩ := h3 pos cv hc
    exact ⟨c, e1, off _ _ e2 fun _ _ z => by unfold LamX.CodeO at z; cases z⟩⟩
  have apart : ∀ a ∈ fv, a ∉ fp := fun a ma mb => by
    rcases f.new a ma with z | z
    · cases z
    · obtain ⟨o, u, _, e2⟩ := L.2 a mb
      rw [e2] at z; cases z
  refine ⟨H4, I4, ⟨hE.1.mono z4 k2, hE.2⟩, z4, k2, fun a ma => k1 a (apart a ma), List.nodup_append.mpr ⟨nd, hE.2, fun a ma b mb q => apart a ma (q ▸ mb)⟩, fun a o e tt hn => ?_, fun a ma => ?_, fun a e => ?_, z4⟩
  · rw [k1 a hn]; exact f.keep a o ((L.1 a hn).trans e) tt (List.not_mem_nil)
  · rcases List.mem_append.mp ma with ma | ma
    · rcases f.new a ma with z | z
      · cases z
      · exact .inr (by rw [← L.1 a (apart a ma)]; exact z)
    · exact .inl ma
  · by_cases ma : a ∈ fp
    · rw [← k2 a ma]; exact e
    · rw [k1 a ma] at e
      rw [← L.1 a ma]; exact f.dom a e
theorem pe_lk {P : D → Prop} (h : EG X noX n e (frz Γ) fun d _ => FlatN n d ∧ P d) : PE X e (tLk X.K n Γ P) := by
  refine ⟨fun pins s σ H Q I ⟨fp, hE, k⟩ => ?_⟩
  obtain ⟨H2, I2, E2, L⟩ := lk_env I hE
  refine thn ((h noW takes_noW).run pins s σ H2 (fun v H3 => ∃ d fv, (FlatN n d ∧ P d) ∧ Own X.K H3 n v d fv ∧ fv.Nodup ∧ Fr [] fv H2 H3) I2 ⟨[], E2, fun v d fv Γ' H3 fp' p o _ nd f => ⟨d, fv, p, o, (List.nodup_append.mp nd).1, f.sub fun x m => List.mem_append_left _ m⟩, xc_noW⟩)
    fun u s1 ⟨v, H3, I3, r, d, fv, ⟨g, p⟩, o, nd, f⟩ => ?_
  obtain ⟨H4, I4, E4, z4, k4, kv, nd4, f4⟩ := lk_back I hE L I3 f nd
  exact ⟨v, H4, I4, r, k v d fv H4 p (o.flat g kv) E4 z4 k4 nd4 f4⟩
theorem eg_lock {P : D → Gam → Prop} (h : EG X noX n e (frz Γ) fun d _ => FlatN n d ∧ P d Γ) : EG X R n e Γ P := fun W tk =>
  pe_weak (pe_lk (P := fun d => P d Γ) h) fun σ H Q ⟨fp, hE, k, _⟩ => ⟨fp, hE, fun v d fv H' p o E' _ _ nd f => k v d fv Γ H' fp p o E'.1 nd f⟩
theorem ev_lock {P : D → Gam → Prop} (h : EV X noX e (frz Γ) fun d _ => flatD d = true ∧ P d Γ) : EV X R e Γ P := eg_lock h
theorem et_lock {P : Bool → Gam → Prop} (h : ET X noX e (frz Γ) fun k _ => P k Γ) : ET X R e Γ P := fun W tk => by
  refine ⟨fun pins s σ H Q I ⟨fp, hE, k, _⟩ => ?_⟩
  obtain ⟨H2, I2, E2, L⟩ := lk_env I hE
  refine thn ((h noW takes_noW).run pins s σ H2 (fun b H3 => P b Γ ∧ Fr [] [] H2 H3) I2 ⟨[], E2, fun b Γ' H3 fp' p _ f => ⟨p, f.sub fun x m => nomatch m⟩, xc_noW⟩)
    fun u s1 ⟨H3, I3, p, f⟩ => ?_
  obtain ⟨H4, I4, E4, z4, k4, kv, nd4, f4⟩ := lk_back I hE L I3 f List.nodup_nil
  exact ⟨H4, I4, k u Γ H4 fp p E4 f4⟩
end
end DL
set_option Elab.async false
set_option linter.all false
set_option maxRecDepth 100000
set_option maxHeartbeats 1000000
namespace DL
open PySem PySem.Spec PyProof.Rows L2

/-! ### a place within what is owned -/
def keyD (k : Key) : D → Bool
  | .int i => match k with | .inl j => decide (i = j) | _ => false
  | .str x => match k with | .inr y => decide (x = y) | _ => false
  | _ => false
theorem keyD_kD {k k' : Key} : keyD k (kD k') = decide (k' = k) := by
  cases k <;> cases k' <;> simp [keyD, kD]
def updK : List (D × D) → Key → D → List (D × D)
  | [], _, _ => []
  | p :: r, k, d => if keyD k p.1 then (p.1, d) :: r else p :: updK r k d
def putD (kvs : List (D × D)) (k : Key) (d : D) : List (D × D) := kvs.map fun p => if keyD k p.1 then (p.1, d) else p
def Foc (K : Fg) (H : Hp) (σ : Sl) (fp : List Addr) (v : V) (n : Nat) (d : D) (u : D → Gam) : Prop :=
  ∃ (f rest : List Addr), Own K H n v d f ∧ f.Nodup ∧ (∀ x, x ∈ fp ↔ x ∈ f ∨ x ∈ rest) ∧ (∀ x ∈ f, x ∉ rest) ∧
    ∀ H' d' f', Ez H H' → (∀ a ∈ rest, H' a = H a) → Own K H' n v d' f' → f'.Nodup → (∀ a ∈ f', a ∉ rest) → ∃ fp', Env K (u d') σ H' fp' ∧ ∀ a ∈ fp', a ∈ f' ∨ a ∈ rest
section
variable {K : Fg} {H H1 : Hp} {σ : Sl} {fp : List Addr} {Γ : Gam}
theorem Foc.mono {v : V} {n : Nat} {d : D} {u : D → Gam} (h : Foc K H σ fp v n d u) (z : Ez H H1) (k : ∀ a ∈ fp, H1 a = H a) : Foc K H1 σ fp v n d u := by
  obtain ⟨f, rest, o, nd, mem, ap, up⟩ := h
  refine ⟨f, rest, o.mono z fun a m => k a ((mem a).mpr (.inl m)), nd, mem, ap, fun H' d' f' z' k' => up H' d' f' (z.trans z') fun a m => (k' a m).trans (k a ((mem a).mpr (.inr m)))⟩
theorem foc_slot {j : Nat} {v : V} {n : Nat} {d : D} (hE : Env K Γ σ H fp) (hd : Γ[j]? = some (.ow v n d)) : σ[j]? = some (some v) ∧ Foc K H σ fp v n d fun d' => Γ.set j (.ow v n d') := by
  obtain ⟨f, g, h, rfl, e, o, up, _, _⟩ := hE.1.owAt hd
  have nd := hE.2
  have p1 : (g ++ (f ++ h)).Perm (f ++ (g ++ h)) := by
    rw [← List.append_assoc, ← List.append_assoc]
    exact List.perm_append_comm.append_right h
  have nd' := p1.nodup_iff.mp nd
  refine ⟨e, f, g ++ h, o, (List.nodup_append.mp nd').1, fun x => by rw [p1.mem_iff, List.mem_append], fun x m m' => (List.nodup_append.mp nd').2.2 x m x m' rfl, fun H' d' f' z k o' ndf ap => ?_⟩
  have p2 : (g ++ (f' ++ h)).Perm (f' ++ (g ++ h)) := by
    rw [← List.append_assoc, ← List.append_assoc]
    exact List.perm_append_comm.append_right h
  exact ⟨_, ⟨up z k o', p2.nodup_iff.mpr (List.nodup_append.mpr ⟨ndf, (List.nodup_append.mp nd').2.1, fun a m b m' q => ap a m (q ▸ m')⟩)⟩, fun a m => List.mem_append.mp (p2.mem_iff.mp m)⟩
theorem All3.foc {R : V → D → List Addr → Prop} {d : D} : ∀ {vs : List V} {ds : List D} {fs : List Addr} {i : Nat}, All3 R vs ds fs → ds[i]? = some d → ∃ w f1 f f2, vs[i]? = some w ∧ fs = f1 ++ (f ++ f2) ∧ R w d f ∧
    ∀ (R' : V → D → List Addr → Prop) d' f', (∀ v d g, (∀ a ∈ g, a ∈ f1 ++ f2) → R v d g → R' v d g) → R' w d' f' → All3 R' vs (ds.set i d') (f1 ++ (f' ++ f2))
  | _, _, _, 0, .cons (f := f) (fs := fs) h r, e => by
    simp at e
    subst e
    refine ⟨_, [], f, fs, rfl, rfl, h, fun R' d' f' g q => ?_⟩
    exact All3.cons (f := f') q (r.mono fun v d g' m x => g v d g' m x)
  | _, _, _, i + 1, .cons (f := f0) h r, e => by
    obtain ⟨w, f1, f, f2, e1, e2, q, up⟩ := All3.foc (i := i) r (by simpa using e)
    refine ⟨w, f0 ++ f1, f, f2, by simpa using e1, by rw [e2, List.append_assoc], q, fun R' d' f' g q' => ?_⟩
    rw [List.append_assoc]
    exact .cons (g _ _ _ (fun a m => by simp [m]) h) (up R' d' f' (fun v d g' m x => g v d g' (fun a ma => by have := m a ma; simp only [List.mem_append] at this ⊢; rcases this with z | z <;> simp [z]) x) q')
theorem AllK.foc {R : V → D → List Addr → Prop} {k : Key} {d : D} : ∀ {ks : List (Key × V)} {kvs : List (D × D)} {fs : List Addr}, AllK R ks kvs fs → getD? kvs k = some d → ∃ w f1 f f2, valV ks k = some w ∧ fs = f1 ++ (f ++ f2) ∧ R w d f ∧
    ∀ (R' : V → D → List Addr → Prop) d' f', (∀ v d g, (∀ a ∈ g, a ∈ f1 ++ f2) → R v d g → R' v d g) → R' w d' f' → AllK R' ks (updK kvs k d') (f1 ++ (f' ++ f2))
  | _, _, _, .nil, e => by simp [getD?] at e
  | _, _, _, .cons (k := k') (v := v) (d := d0) (ks := ks) (kvs := kvs) (f := f0) (fs := fs) h r, e => by
    have key : getD? ((kD k', d0) :: kvs) k = if k' = k then some d0 else getD? kvs k := by
      cases k' <;> cases k <;> (simp only [getD?, kD, List.find?_cons]; split <;> simp_all)
    have val : valV ((k', v) :: ks) k = if k' = k then some v else valV ks k := by
      simp only [valV, List.find?_cons]; split <;> simp_all
    rw [key] at e
    by_cases c : k' = k
    · rw [if_pos c] at e
      cases e
      refine ⟨v, [], f0, fs, by rw [val, if_pos c], rfl, h, fun R' d' f' g q => ?_⟩
      have : updK ((kD k', d) :: kvs) k d' = (kD k', d') :: kvs := by simp [updK, keyD_kD, c]
      rw [this]
      exact AllK.cons (f := f') q (r.mono fun v d g' m x => g v d g' m x)
    · rw [if_neg c] at e
      obtain ⟨w, f1, f, f2, e1, e2, q, up⟩ := AllK.foc r e
      refine ⟨w, f0 ++ f1, f, f2, by rw [val, if_neg c]; exact e1, by rw [e2, List.append_assoc], q, fun R' d' f' g q' => ?_⟩
      have : updK ((kD k', d0) :: kvs) k d' = (kD k', d0) :: updK kvs k d' := by simp [updK, keyD_kD, c]
      rw [this, List.append_assoc]
      exact .cons (g _ _ _ (fun a m => by simp [m]) h) (up R' d' f' (fun v d g' m x => g v d g' (fun a ma => by have := m a ma; simp only [List.mem_append] at this ⊢; rcases this with z | z <;> simp [z]) x) q')
theorem NoLst.list {ds : List D} (h : NoLst (.list ds)) : False := h
/-- the parts of an owned list -/
theorem Own.lstAt {v : V} {n : Nat} {ds : List D} {f : List Addr} (o : Own K H (n + 1) v (.list ds) f) : ∃ a xs fs, v = .ref a ∧ H a = some (.lst xs) ∧ All3 (Own K H n) xs ds fs ∧ f = a :: fs := by
  rcases o with ⟨a, xs, ds', fs, rfl, e, h, r, rfl⟩ | ⟨_, _, _, _, _, e, _⟩ | ⟨h, _⟩
  · cases e; exact ⟨a, xs, fs, rfl, h, r, rfl⟩
  · cases e
  · exact h.elim
theorem Own.dctAt {v : V} {n : Nat} {kvs : List (D × D)} {f : List Addr} (o : Own K H (n + 1) v (.dict kvs) f) : ∃ a ks fs, v = .ref a ∧ H a = some (.dK ks) ∧ AllK (Own K H n) ks kvs fs ∧ f = a :: fs := by
  rcases o with ⟨_, _, _, _, _, e, _⟩ | ⟨a, ks, kvs', fs, rfl, e, h, r, rfl⟩ | ⟨h, _⟩
  · cases e
  · cases e; exact ⟨a, ks, fs, rfl, h, r, rfl⟩
  · exact h.elim
theorem foc_sub {w : V} {n : Nat} {d : D} {u : D → Gam} {a : Addr} {f1 f f2 rest : List Addr} {g : D → D} (nd : (a :: (f1 ++ (f ++ f2))).Nodup) (mem : ∀ x, x ∈ fp ↔ x ∈ a :: (f1 ++ (f ++ f2)) ∨ x ∈ rest) (ap : ∀ x ∈ a :: (f1 ++ (f ++ f2)), x ∉ rest)
    (o : Own K H n w d f)
    (up : ∀ H' d' f', Ez H H' → (∀ b ∈ rest, H' b = H b) → (∀ b ∈ a :: (f1 ++ f2), H' b = H b) → Own K H' n w d' f' → (a :: (f1 ++ (f' ++ f2))).Nodup → (∀ b ∈ a :: (f1 ++ (f' ++ f2)), b ∉ rest) → ∃ fp', Env K (u (g d')) σ H' fp' ∧ ∀ b ∈ fp', b ∈ a :: (f1 ++ (f' ++ f2)) ∨ b ∈ rest) :
    Foc K H σ fp w n d fun d' => u (g d') := by
  have perm : ∀ f' : List Addr, (a :: (f1 ++ (f' ++ f2))).Perm (f' ++ (a :: (f1 ++ f2))) := fun f' => by
    have : (f1 ++ (f' ++ f2)).Perm (f' ++ (f1 ++ f2)) := by
      rw [← List.append_assoc, ← List.append_assoc]
      exact List.perm_append_comm.append_right f2
    exact (this.cons a).trans (List.perm_middle.symm)
  have nd' := (perm f).nodup_iff.mp nd
  refine ⟨f, (a :: (f1 ++ f2)) ++ rest, o, (List.nodup_append.mp nd').1, fun x => ?_, fun x m m' => ?_, fun H' d' f' z k o' ndf apf => ?_⟩
  · rw [mem x, (perm f).mem_iff, List.mem_append, List.mem_append, or_assoc]
  · rcases List.mem_append.mp m' with m' | m'
    · exact (List.nodup_append.mp nd').2.2 x m x m' rfl
    · exact ap x ((perm f).mem_iff.mpr (List.mem_append_left _ m)) m'
  · have nd2 : (a :: (f1 ++ (f' ++ f2))).Nodup := (perm f').nodup_iff.mpr (List.nodup_append.mpr ⟨ndf, (List.nodup_append.mp nd').2.1, fun x m y m' q => apf x m (List.mem_append_left _ (q ▸ m'))⟩)
    obtain ⟨fp', E', sub⟩ := up H' d' f' z (fun b m => k b (List.mem_append_right _ m)) (fun b m => k b (List.mem_append_left _ m)) o' nd2 fun b m m' => by
      rcases List.mem_append.mp ((perm f').mem_iff.mp m) with q | q
      · exact apf b q (List.mem_append_right _ m')
      · exact ap b ((perm f).mem_iff.mpr (List.mem_append_right _ q)) m'
    refine ⟨fp', E', fun b m => ?_⟩
    rcases sub b m with q | q
    · rcases List.mem_append.mp ((perm f').mem_iff.mp q) with q | q
      · exact .inl q
      · exact .inr (List.mem_append_left _ q)
    · exact .inr (List.mem_append_right _ q)
theorem foc_idx {v : V} {n : Nat} {ds : List D} {d : D} {u : D → Gam} {i : Nat} (F : Foc K H σ fp v (n + 1) (.list ds) u) (hd : ds[i]? = some d) :
    ∃ a xs w, v = .ref a ∧ H a = some (.lst xs) ∧ xs.length = ds.length ∧ xs[i]? = some w ∧ Foc K H σ fp w n d fun d' => u (.list (ds.set i d')) := by
  obtain ⟨f, rest, o, nd, mem, ap, up⟩ := F
  obtain ⟨a, xs, fs, rfl, e, r, rfl⟩ := o.lstAt
  obtain ⟨w, f1, f, f2, e1, rfl, q, upd3⟩ := r.foc hd
  refine ⟨a, xs, w, rfl, e, r.length, e1, foc_sub (g := fun d' => .list (ds.set i d')) nd mem ap q fun H' d' f' z k1 k2 o' nd' ap' => ?_⟩
  refine up H' _ _ z k1 (.inl ⟨a, xs, _, f1 ++ (f' ++ f2), rfl, rfl, (k2 a List.mem_cons_self).trans e, upd3 (Own K H' n) d' f' (fun v d g m x => x.mono z fun b mb => k2 b (List.mem_cons_of_mem _ (m b mb))) o', rfl⟩) nd' ap'
theorem foc_key {v : V} {n : Nat} {kvs : List (D × D)} {k : Key} {d : D} {u : D → Gam} (F : Foc K H σ fp v (n + 1) (.dict kvs) u) (hd : getD? kvs k = some d) :
    ∃ a ks w, v = .ref a ∧ H a = some (.dK ks) ∧ valV ks k = some w ∧ Foc K H σ fp w n d fun d' => u (.dict (updK kvs k d')) := by
  obtain ⟨f, rest, o, nd, mem, ap, up⟩ := F
  obtain ⟨a, ks, fs, rfl, e, r, rfl⟩ := o.dctAt
  obtain ⟨w, f1, f, f2, e1, rfl, q, upd3⟩ := r.foc hd
  refine ⟨a, ks, w, rfl, e, e1, foc_sub (g := fun d' => .dict (updK kvs k d')) nd mem ap q fun H' d' f' z k1 k2 o' nd' ap' => ?_⟩
  exact up H' _ _ z k1 (.inr (.inl ⟨a, ks, _, f1 ++ (f' ++ f2), rfl, rfl, (k2 a List.mem_cons_self).trans e, upd3 (Own K H' n) d' f' (fun v d g m x => x.mono z fun b mb => k2 b (List.mem_cons_of_mem _ (m b mb))) o', rfl⟩)) nd' ap'
/-- the list at a place is rewritten -/
theorem foc_write {a : Addr} {xs : List V} {n : Nat} {ds es : List D} {ys : List V} {u : D → Gam} (F : Foc K H σ fp (.ref a) (n + 1) (.list ds) u) (e : H a = some (.lst xs))
    (h : ∀ H' fs, Ez H H' → (∀ b ∈ fs, H' b = H b) → All3 (Own K H n) xs ds fs → ∃ gs, gs.Sublist fs ∧ All3 (Own K H' n) ys es gs) : ∃ fp', Env K (u (.list es)) σ (upd H a (.lst ys)) fp' ∧ Fr fp fp' H (upd H a (.lst ys)) := by
  obtain ⟨f, rest, o, nd, mem, ap, up⟩ := F
  obtain ⟨a', xs', fs, q, e', r, rfl⟩ := o.lstAt
  cases q
  rw [e] at e'; cases e'
  have wr : Wr H a := .inl ⟨_, e⟩
  have na : a ∉ fs := (List.nodup_cons.mp nd).1
  have F1 : Fr fp fp H (upd H a (.lst ys)) := Fr.write ((mem a).mpr (.inl List.mem_cons_self)) wr
  obtain ⟨gs, sub, r'⟩ := h (upd H a (.lst ys)) fs F1.ez (fun b m => upd_ne fun z => na (z ▸ m)) r
  obtain ⟨fp', E', mem'⟩ := up (upd H a (.lst ys)) (.list es) (a :: gs) F1.ez (fun b m => upd_ne fun z => ap a List.mem_cons_self (z ▸ m)) (.inl ⟨a, ys, es, gs, rfl, rfl, upd_same, r', rfl⟩)
    (List.nodup_cons.mpr ⟨fun m => na (sub.subset m), (List.nodup_cons.mp nd).2.sublist sub⟩) fun b m => ap b (by
      rcases List.mem_cons.mp m with z | z
      · rw [z]; exact List.mem_cons_self
      · exact List.mem_cons_of_mem _ (sub.subset z))
  refine ⟨fp', E', F1.sub fun b m => (mem b).mpr ?_⟩
  rcases mem' b m with z | z
  · rcases List.mem_cons.mp z with z | z
    · rw [z]; exact .inl List.mem_cons_self
    · exact .inl (List.mem_cons_of_mem _ (sub.subset z))
  · exact .inr z
theorem foc_writeK {a : Addr} {xs : List (Key × V)} {n : Nat} {ds es : List (D × D)} {ys : List (Key × V)} {u : D → Gam} (F : Foc K H σ fp (.ref a) (n + 1) (.dict ds) u) (e : H a = some (.dK xs))
    (h : ∀ H' fs, Ez H H' → (∀ b ∈ fs, H' b = H b) → AllK (Own K H n) xs ds fs → ∃ gs, gs.Sublist fs ∧ AllK (Own K H' n) ys es gs) : ∃ fp', Env K (u (.dict es)) σ (upd H a (.dK ys)) fp' ∧ Fr fp fp' H (upd H a (.dK ys)) := by
  obtain ⟨f, rest, o, nd, mem, ap, up⟩ := F
  obtain ⟨a', xs', fs, q, e', r, rfl⟩ := o.dctAt
  cases q
  rw [e] at e'; cases e'
  have wr : Wr H a := .inr ⟨_, e⟩
  have na : a ∉ fs := (List.nodup_cons.mp nd).1
  have F1 : Fr fp fp H (upd H a (.dK ys)) := Fr.write ((mem a).mpr (.inl List.mem_cons_self)) wr
  obtain ⟨gs, sub, r'⟩ := h (upd H a (.dK ys)) fs F1.ez (fun b m => upd_ne fun z => na (z ▸ m)) r
  obtain ⟨fp', E', mem'⟩ := up (upd H a (.dK ys)) (.dict es) (a :: gs) F1.ez (fun b m => upd_ne fun z => ap a List.mem_cons_self (z ▸ m)) (.inr (.inl ⟨a, ys, es, gs, rfl, rfl, upd_same, r', rfl⟩))
    (List.nodup_cons.mpr ⟨fun m => na (sub.subset m), (List.nodup_cons.mp nd).2.sublist sub⟩) fun b m => ap b (by
      rcases List.mem_cons.mp m with z | z
      · rw [z]; exact List.mem_cons_self
      · exact List.mem_cons_of_mem _ (sub.subset z))
  refine ⟨fp', E', F1.sub fun b m => (mem b).mpr ?_⟩
  rcases mem' b m with z | z
  · rcases List.mem_cons.mp z with z | z
    · rw [z]; exact .inl List.mem_cons_self
    · exact .inl (List.mem_cons_of_mem _ (sub.subset z))
  · exact .inr z
end
end DL
set_option Elab.async false
set_option linter.all false
set_option maxRecDepth 100000
set_option maxHeartbeats 1000000
namespace DL
open PySem PySem.Spec PyProof.Rows L2

/-- an expression that names a place within what is owned; its heap is left as it is -/
def tEPl (K : Fg) (Γ : Gam) (P : Nat → D → (D → Gam) → Prop) : TE := fun σ H Q => ∃ fp, Env K Γ σ H fp ∧ ∀ v n d u H', P n d u → Env K Γ σ H' fp → Foc K H' σ fp v n d u → Ez H H' → (∀ a ∈ fp, H' a = H a) → Fr fp fp H H' → Q v H'
def EPl (X : Cx) (o : Expr) (Γ : Gam) (P : Nat → D → (D → Gam) → Prop) : Prop := PE X o (tEPl X.K Γ P)
def AnyP (X : Cx) (o : Expr) : TE := fun σ H Q => ∃ Γ P, EPl X o Γ P ∧ tEPl X.K Γ P σ H Q
def AnyL (X : Cx) (n : Nat) (e : Expr) : TE := fun σ H Q => ∃ Γ P, EG X noX n e (frz Γ) (fun d _ => FlatN n d ∧ P d) ∧ tLk X.K n Γ P σ H Q
section
variable {X : Cx} {R : XP} {W : WX} {Γ : Gam} {m n : Nat} {o e a b c i : Expr} {es : List Expr} {pos pos' p : Pos} {Po' : Po}
theorem pe_anyP : PE X o (AnyP X o) := ⟨fun pins s σ H Q I ⟨_, _, h, q⟩ => h.run pins s σ H Q I q⟩
theorem pe_anyL : PE X e (AnyL X n e) := ⟨fun pins s σ H Q I ⟨_, _, h, q⟩ => (pe_lk h).run pins s σ H Q I q⟩
theorem Fr.back {fp : List Addr} {H H' : Hp} (f : Fr fp fp H H') : Fr fp fp H H' := f
theorem epl_name (j : Nat) {x : Str} {v : V} {d : D} {P : Nat → D → (D → Gam) → Prop} (hd : Γ[j]? = some (.ow v n d)) (h : P n d fun d' => Γ.set j (.ow v n d')) (hN : X.N[j]? = some x := by rfl)
    (hv : Vis X.env.scope x := by first | exact Or.inl rfl | exact Or.inr (Or.inl rfl) | exact Or.inr (Or.inr rfl)) (hdb : (x == ("__debug__" : Str)) = false := by decide) (hcd : (x == ("__classdict__" : Str)) = false := by decide) : EPl X (.Name x pos) Γ P :=
  pe_weak (pe_var hN hv hdb hcd) fun σ H Q ⟨fp, hE, k⟩ => by
    obtain ⟨e, F⟩ := foc_slot hE hd
    exact ⟨v, e, k v n d _ H h hE F (.refl H) (fun _ _ => rfl) .refl⟩
theorem flat_int {k : Int} : FlatN 0 (.int k) := rfl
theorem epl_idx {P : Nat → D → (D → Gam) → Prop} (h : EPl X o Γ fun n d u => ∃ n' ds, n = n' + 1 ∧ d = .list ds ∧ EV X noX i (frz Γ) fun di _ => ∃ k j d', di = .int k ∧ ixN ds.length k = some j ∧ ds[j]? = some d' ∧ P n' d' fun d'' => u (.list (ds.set j d'')))
    (hs : PlainIx i := by exact fun _ _ => rfl) : EPl X (.Subscript o i pos) Γ P :=
  pe_weak (pe_ix ix_list pe_anyP (pe_anyL (n := 0)) hs) fun σ H Q ⟨fp, hE, k⟩ => by
    refine ⟨Γ, _, h, fp, hE, fun v n d u H1 ⟨n', ds, e1, e2, hi⟩ E1 F1 z1 k1 f1 => ?_⟩
    subst e1
    subst e2
    refine ⟨Γ, _, hi.imp fun d _ q => ⟨?_, q⟩, fp, E1, fun vi di fv H2 ⟨kk, j, d', e3, e4, e5, p⟩ o2 E2 z2 k2 nd2 f2 => ?_⟩
    · obtain ⟨kk, _, _, e3, _⟩ := q
      rw [e3]; exact flat_int
    subst e3
    have F2 := F1.mono z2 k2
    obtain ⟨a, xs, w, e6, e7, e8, e9, F3⟩ := foc_idx F2 e5
    subst e6
    have r := o2.1
    cases r
    have e0 := o2.2
    subst e0
    refine ⟨a, xs, kk, w, rfl, rfl, .of e7, ?_, k w n' d' _ H2 p E2 F3 (z1.trans z2) (fun a m => (k2 a m).trans (k1 a m)) (f1.trans (f2.sub fun x m => m))⟩
    unfold L2.atI
    rw [e8, e4]; exact e9
theorem epl_key {P : Nat → D → (D → Gam) → Prop} (hu : X.A.units + 1 < cLine) (h : EPl X o Γ fun n d u => ∃ n' kvs, n = n' + 1 ∧ d = .dict kvs ∧ EV X noX i (frz Γ) fun di _ => ∃ k d', di = kD k ∧ getD? kvs k = some d' ∧ P n' d' fun d'' => u (.dict (updK kvs k d'')))
    (hs : NoSl i := by exact fun _ _ => rfl) : EPl X (.Subscript o i pos) Γ P :=
  pe_weak (pe_dget hu pe_anyP (pe_anyL (n := 0)) hs) fun σ H Q ⟨fp, hE, k⟩ => by
    refine ⟨Γ, _, h, fp, hE, fun v n d u H1 ⟨n', kvs, e1, e2, hi⟩ E1 F1 z1 k1 f1 => ?_⟩
    subst e1
    subst e2
    refine ⟨Γ, _, hi.imp fun d _ q => ⟨?_, q⟩, fp, E1, fun vi di fv H2 ⟨ky, d', e3, e5, p⟩ o2 E2 z2 k2 nd2 f2 => ?_⟩
    · obtain ⟨kk, _, e3, _⟩ := q
      rw [e3]; cases kk <;> exact rfl
    subst e3
    have F2 := F1.mono z2 k2
    obtain ⟨a, ks, w, e6, e7, e9, F3⟩ := foc_key F2 e5
    subst e6
    have r := kD_rep o2.1
    subst r
    have e0 := o2.2
    subst e0
    exact ⟨a, w, rfl, .inl ⟨ks, ky, .inl e7, rfl, e9.symm⟩, k w n' d' _ H2 p E2 F3 (z1.trans z2) (fun a m => (k2 a m).trans (k1 a m)) (f1.trans (f2.sub fun x m => m))⟩
theorem own_in {K : Fg} {H : Hp} {v : V} {d : D} (r : Rep K H v d) (h : n = 0 ∨ NoLst d) : Own K H n v d [] := by
  cases n with
  | zero => exact ⟨r, rfl⟩
  | succ n => exact .inr (.inr ⟨h.resolve_left (Nat.succ_ne_zero n), r, rfl⟩)
theorem all3_own {K : Fg} {H H' : Hp} {xs : List V} {ds : List D} {fs : List Addr} (z : Ez H H') (k : ∀ b ∈ fs, H' b = H b) (r : All3 (Own K H n) xs ds fs) : All3 (Own K H' n) xs ds fs := r.mono fun v d f m x => x.mono z fun b mb => k b (m b mb)
theorem allK_own {K : Fg} {H H' : Hp} {xs : List (Key × V)} {ds : List (D × D)} {fs : List Addr} (z : Ez H H') (k : ∀ b ∈ fs, H' b = H b) (r : AllK (Own K H n) xs ds fs) : AllK (Own K H' n) xs ds fs := r.mono fun v d f m x => x.mono z fun b mb => k b (m b mb)
theorem All3.set {R : V → D → List Addr → Prop} {v : V} {d : D} (h : R v d []) : ∀ {vs : List V} {ds : List D} {fs : List Addr} (j : Nat), All3 R vs ds fs → ∃ gs, gs.Sublist fs ∧ All3 R (vs.set j v) (ds.set j d) gs
  | _, _, _, _, .nil => ⟨[], List.Sublist.refl _, .nil⟩
  | _, _, _, 0, .cons (f := f) (fs := fs) _ r => ⟨fs, List.sublist_append_right f fs, .cons (f := []) h r⟩
  | _, _, _, j + 1, .cons (f := f) q r => by
    obtain ⟨gs, s, r'⟩ := All3.set h j r
    exact ⟨f ++ gs, s.append_left f, .cons q r'⟩
theorem AllK.put {R : V → D → List Addr → Prop} {v : V} {d : D} {k : Key} (h : R v d []) : ∀ {ks : List (Key × V)} {kvs : List (D × D)} {fs : List Addr}, AllK R ks kvs fs → ∃ gs, gs.Sublist fs ∧ AllK R (ks.map fun kv => if kv.1 = k then (kv.1, v) else kv) (putD kvs k d) gs
  | _, _, _, .nil => ⟨[], List.Sublist.refl _, .nil⟩
  | _, _, _, .cons (k := k') (f := f) (fs := fs) q r => by
    obtain ⟨gs, s, r'⟩ := AllK.put (k := k) h r
    by_cases c : k' = k
    · refine ⟨gs, s.trans (List.sublist_append_right f fs), ?_⟩
      simp only [List.map_cons, putD, keyD_kD, c, decide_true, if_true]
      exact .cons (f := []) h r'
    · refine ⟨f ++ gs, s.append_left f, ?_⟩
      simp only [List.map_cons, putD, keyD_kD, c, decide_false, if_false, Bool.false_eq_true]
      exact .cons q r'
theorem AllK.has {R : V → D → List Addr → Prop} {k : Key} : ∀ {ks : List (Key × V)} {kvs : List (D × D)} {fs : List Addr}, AllK R ks kvs fs → kvs.any (fun p => keyD k p.1) = true → ks.any (fun kv => decide (kv.1 = k)) = true
  | _, _, _, .nil, h => by simp at h
  | _, _, _, .cons q r, h => by
    rw [List.any_cons, keyD_kD, Bool.or_eq_true] at h
    rw [List.any_cons, Bool.or_eq_true]
    exact h.imp id (AllK.has r)
/-- o[i] = e, a list -/
theorem s1_store (h : EV X R e Γ fun d Γ1 => EPl X o Γ1 fun n dl u => ∃ n' ds, n = n' + 1 ∧ dl = .list ds ∧ EV X noX i (frz Γ1) fun di _ => ∃ k j, di = .int k ∧ ixN ds.length k = some j ∧ (n' = 0 ∨ NoLst d) ∧ Po'.nx (u (.list (ds.set j d))))
    (ha : ∀ v, assign (.Subscript o i pos') X.env v = (do
      let o0 ← holding [v] (eval o X.env)
      let i0 ← holding [v, o0] (eval i X.env)
      standAt pos'
      holding [v, o0, i0] (setItem o0 i0 v)
      release [v, o0, i0] []) := by intro _; rfl)
    (hs : swapsWithSole [.Subscript o i pos'] e pos.line X.env = pure false := by rfl) (hw : swappedStores [.Subscript o i pos'] e X.env = pure none := by rfl)
    (h1 : (assignEach [.Subscript o i pos'] X.env).map (·.2) = [assign (.Subscript o i pos') X.env] := by rfl) : S1 X R m (.Assign [.Subscript o i pos'] e pos) Γ Po' := fun W tk =>
  ps_weak (ps_asg (pe_any (n := 0) tk) (pg_sub pe_anyP (pe_anyL (n := 0)) set_list ha) hs hw h1) fun D σ H ⟨fp, hE, k, _, _, _, xx⟩ => Any.go h hE xx (Kt.of0 fun v d Γ1 H1 fp1 q r E1 f1 => by
    refine ⟨Γ1, _, q, fp1, E1, fun vo n dl u H2 ⟨n', ds, e1, e2, hi⟩ E2 F2 z2 k2 f2 => ?_⟩
    subst e1
    subst e2
    refine ⟨Γ1, _, hi.imp fun d _ q => ⟨?_, q⟩, fp1, E2, fun vi di fv H3 ⟨kk, j, e3, e4, e5, p⟩ o3 E3 z3 k3 nd3 f3 => ?_⟩
    · obtain ⟨kk, _, e3, _⟩ := q
      rw [e3]; exact flat_int
    subst e3
    have F3 := F2.mono z3 k3
    have r3 := o3.1
    cases r3
    have e0 := o3.2
    subst e0
    obtain ⟨f, rest, ow, _⟩ := id F3
    obtain ⟨a, xs, fs, rfl, ea, al, _⟩ := ow.lstAt
    have rv : Rep X.K H3 v d := r.mono (z2.trans z3)
    obtain ⟨fp4, E4, f4⟩ := foc_write (ys := xs.set j v) (es := ds.set j d) F3 ea fun H' fs z kk al => All3.set (own_in (rv.mono z) e5) j (all3_own z kk al)
    exact ⟨a, xs, kk, j, rfl, rfl, ea, by rw [al.length]; exact e4, k σ _ _ fp4 p E4 (((f1.trans f2).trans (f3.sub fun x m => m)).trans f4)⟩)
/-- o[k] = e, a dict that has the key -/
theorem s1_dput (hu : X.A.units + 1 < cLine) (h : EV X R e Γ fun d Γ1 => EPl X o Γ1 fun n dl u => ∃ n' kvs, n = n' + 1 ∧ dl = .dict kvs ∧ kvs.length ≤ 1000 ∧ EV X noX i (frz Γ1) fun di _ => ∃ k, di = kD k ∧ kvs.any (fun p => keyD k p.1) = true ∧ (n' = 0 ∨ NoLst d) ∧ Po'.nx (u (.dict (putD kvs k d))))
    (hs : swapsWith e (some (.Subscript o i pos')) pos.line X.env = pure false := by rfl) : S1 X R m (.Assign [.Subscript o i pos'] e pos) Γ Po' := fun W tk =>
  ps_weak (ps_dput hu pe_anyP (pe_anyL (n := 0)) (pe_any (n := 0) tk) hs) fun D σ H ⟨fp, hE, k, _, _, _, xx⟩ => Any.go h hE xx (Kt.of0 fun v d Γ1 H1 fp1 q r E1 f1 => by
    refine ⟨Γ1, _, q, fp1, E1, fun vo n dl u H2 ⟨n', ds, e1, e2, hl, hi⟩ E2 F2 z2 k2 f2 => ?_⟩
    subst e1
    subst e2
    refine ⟨Γ1, _, hi.imp fun d _ q => ⟨?_, q⟩, fp1, E2, fun vi di fv H3 ⟨kk, e3, e4, e5, p⟩ o3 E3 z3 k3 nd3 f3 => ?_⟩
    · obtain ⟨kk, e3, _⟩ := q
      rw [e3]; cases kk <;> exact rfl
    subst e3
    have F3 := F2.mono z3 k3
    have r3 := kD_rep o3.1
    subst r3
    have e0 := o3.2
    subst e0
    obtain ⟨f, rest, ow, _⟩ := id F3
    obtain ⟨a, ks, fs, rfl, ea, al, _⟩ := ow.dctAt
    have rv : Rep X.K H3 v d := r.mono (z2.trans z3)
    have pk : putK ks kk v = ks.map fun kv => if kv.1 = kk then (kv.1, v) else kv := by
      unfold putK
      rw [if_pos (al.has e4)]
    obtain ⟨fp4, E4, f4⟩ := foc_writeK (ys := putK ks kk v) (es := putD ds kk d) F3 ea fun H' fs z kk' al => by
      rw [pk]
      exact AllK.put (own_in (rv.mono z) e5) (allK_own z kk' al)
    have sz : sizeLine = 16777216 := sizeLine_eq
    exact ⟨a, _, rfl, .inl ⟨ks, kk, ea, rfl, by rw [al.length]; omega, rfl⟩, k σ _ _ fp4 p E4 (((f1.trans f2).trans (f3.sub fun x m => m)).trans f4)⟩)

/-! ### methods of lists -/
theorem All3.dropLast {R : V → D → List Addr → Prop} {vs : List V} {ds : List D} {d : D} {fs : List Addr} (h : All3 R vs (ds ++ [d]) fs) : ∃ w f gs, vs[vs.length - 1]? = some w ∧ R w d f ∧ gs.Sublist fs ∧ All3 R vs.dropLast ds gs := by
  induction ds generalizing vs fs with
  | nil =>
    cases h with
    | cons h r =>
      cases r
      exact ⟨_, _, [], rfl, h, List.nil_sublist _, .nil⟩
  | cons x ds ih =>
    cases h with
    | @cons v vs _ _ f fs h r =>
      obtain ⟨w, g, gs, e, q, s, r'⟩ := ih r
      cases vs with
      | nil => cases ds <;> cases r
      | cons v2 vs =>
        exact ⟨w, g, f ++ gs, by simpa using e, q, s.append_left f, .cons h r'⟩
theorem All3.erase {R : V → D → List Addr → Prop} : ∀ {vs : List V} {ds : List D} {fs : List Addr} (j : Nat), All3 R vs ds fs → ∃ gs, gs.Sublist fs ∧ All3 R (vs.eraseIdx j) (ds.eraseIdx j) gs
  | _, _, _, _, .nil => ⟨[], List.Sublist.refl _, .nil⟩
  | _, _, _, 0, .cons (f := f) (fs := fs) _ r => ⟨fs, List.sublist_append_right f fs, r⟩
  | _, _, _, j + 1, .cons (f := f) q r => by
    obtain ⟨gs, s, r'⟩ := All3.erase j r
    exact ⟨f ++ gs, s.append_left f, .cons q r'⟩
theorem flat_noLst {d : D} (h : flatD d = true) : NoLst d := by
  cases d <;> first | trivial | (simp [flatD] at h)
/-- o.pop(), items that are data -/
theorem ev_pop0 {apos cpos : Pos} {P : D → Gam → Prop} (h : EPl X o Γ fun n dl u => ∃ n' ds d, n = n' + 1 ∧ dl = .list (ds ++ [d]) ∧ (n' = 0 ∨ NoLst d) ∧ P d (u (.list ds)))
    (hbase : attributeBase o "pop" X.env (eval o X.env) = eval o X.env := by rfl) (hline : (apos.endLine == cpos.line) = true := by rfl) : EV X R (.Call (.Attribute o "pop" apos) [] [] cpos) Γ P :=
  eg_of (pe_bm0 PySem.F.plainAttrs_list PySem.F.slot_list_pop PySem.F.type_list_pop mt_pop pe_anyP hbase hline) fun σ H Q fp hE k => by
    refine ⟨Γ, _, h, fp, hE, fun vo n dl u H2 ⟨n', ds, d, e1, e2, nl, p⟩ E2 F2 z2 k2 f2 => ?_⟩
    subst e1
    subst e2
    obtain ⟨f, rest, ow, _⟩ := id F2
    obtain ⟨a, xs, fs, rfl, ea, al, _⟩ := ow.lstAt
    obtain ⟨w, g, gs, e, q, _, _⟩ := al.dropLast
    obtain ⟨fp4, E4, f4⟩ := foc_write (ys := xs.dropLast) (es := ds) F2 ea fun H' fs z kk al => by
      obtain ⟨_, _, gs, _, _, s, r'⟩ := (all3_own z kk al).dropLast
      exact ⟨gs, s, r'⟩
    have rw0 : Rep X.K H2 w d := by
      cases n' with
      | zero => exact q.1
      | succ n' =>
        rcases q with ⟨_, _, _, _, _, z, _⟩ | ⟨_, _, _, _, _, z, _⟩ | ⟨_, z, _⟩
        · rw [z] at nl; exact (nl.resolve_left (Nat.succ_ne_zero n')).elim
        · rw [z] at nl; exact (nl.resolve_left (Nat.succ_ne_zero n')).elim
        · exact z
    exact ⟨.inl ⟨rfl, xs, .of ea⟩, a, xs, w, rfl, rfl, ea, e, k.to0 p (rw0.mono f4.ez) E4 (f2.trans f4)⟩
/-- o.append(e), e read for a while -/
theorem ev_appendL {apos cpos : Pos} {P : D → Gam → Prop} (h : EPl X o Γ fun n dl u => ∃ n' ds, n = n' + 1 ∧ dl = .list ds ∧ ds.length ≤ 1000000 ∧ EV X noX e (frz Γ) fun d _ => flatD d = true ∧ P .none (u (.list (ds ++ [d]))))
    (hs : starEach (e :: []) X.env = (false, eval e X.env) :: starEach [] X.env := by rfl)
    (hbase : attributeBase o "append" X.env (eval o X.env) = eval o X.env := by rfl) (hfew : ((backTo cpos (starEach (e :: []) X.env)).all (fun x => !x.1) && (backToKw cpos (keywordEach [] X.env)).all (fun x => x.1.isSome)
      && decide ((e :: []).length + ([] : List Keyword).length + (if ([] : List Keyword).isEmpty then 0 else 1) < 30)) = true := by rfl) (hline : (apos.endLine == cpos.line) = true := by rfl) : EV X R (.Call (.Attribute o "append" apos) [e] [] cpos) Γ P :=
  eg_of (pe_bm PySem.F.plainAttrs_list PySem.F.slot_list_append PySem.F.type_list_append mt_append pe_anyP (pa_cons (pe_anyL (n := 0)) pa_nil hs) hbase hfew hline hs) fun σ H Q fp hE k => by
    refine ⟨Γ, _, h, fp, hE, fun vo n dl u H2 ⟨n', ds, e1, e2, hl, hi⟩ E2 F2 z2 k2 f2 => ?_⟩
    subst e1
    subst e2
    obtain ⟨f, rest, ow, _⟩ := id F2
    obtain ⟨a, xs, fs, rfl, ea, al, _⟩ := ow.lstAt
    refine ⟨.inl ⟨rfl, xs, .of ea⟩, Γ, _, hi.imp fun d _ q => ⟨q.1, q⟩, fp, E2, fun v d fv H3 p o3 E3 z3 k3 nd3 f3 => ?_⟩
    have F3 := F2.mono z3 k3
    have e0 := o3.2
    subst e0
    obtain ⟨f', rest', ow', _⟩ := id F3
    obtain ⟨a', xs', fs', q, ea', al', _⟩ := ow'.lstAt
    cases q
    obtain ⟨fp4, E4, f4⟩ := foc_write (ys := xs' ++ [v]) (es := ds ++ [d]) F3 ea' fun H' fs z kk al => ⟨fs ++ ([] ++ []), by simp, All3.append (all3_own z kk al) (.cons (own_in (o3.1.mono z) (.inr (flat_noLst p.1))) .nil)⟩
    have sz : sizeLine = 16777216 := sizeLine_eq
    exact ⟨a, xs', v, rfl, rfl, ea', by rw [al'.length]; omega, k.to0 p.2 .non E4 ((f2.trans (f3.sub fun x m => m)).trans f4)⟩
/-- x.append(e), x a name, e any data -/
theorem ev_append (j : Nat) {x : Str} {v0 : V} {d0 : List D} {n0 : Nat} {apos cpos : Pos} {P : D → Gam → Prop} (hd : Γ[j]? = some (.ow v0 (n0 + 1) (.list d0)))
    (h : EV X R e Γ fun d Γ2 => ∃ v n' ds, Γ2[j]? = some (.ow v (n' + 1) (.list ds)) ∧ (n' = 0 ∨ NoLst d) ∧ ds.length ≤ 1000000 ∧ P .none (Γ2.set j (.ow v (n' + 1) (.list (ds ++ [d])))))
    (hN : X.N[j]? = some x := by rfl) (hv : Vis X.env.scope x := by first | exact Or.inl rfl | exact Or.inr (Or.inl rfl) | exact Or.inr (Or.inr rfl)) (hdb : (x == ("__debug__" : Str)) = false := by decide) (hcd : (x == ("__classdict__" : Str)) = false := by decide)
    (hs : starEach (e :: []) X.env = (false, eval e X.env) :: starEach [] X.env := by rfl)
    (hbase : attributeBase (.Name x p) "append" X.env (eval (.Name x p) X.env) = eval (.Name x p) X.env := by rfl) (hfew : ((backTo cpos (starEach (e :: []) X.env)).all (fun x => !x.1) && (backToKw cpos (keywordEach [] X.env)).all (fun x => x.1.isSome)
      && decide ((e :: []).length + ([] : List Keyword).length + (if ([] : List Keyword).isEmpty then 0 else 1) < 30)) = true := by rfl) (hline : (apos.endLine == cpos.line) = true := by rfl) : EV X R (.Call (.Attribute (.Name x p) "append" apos) [e] [] cpos) Γ P := fun W tk =>
  pe_weak (pe_bm PySem.F.plainAttrs_list PySem.F.slot_list_append PySem.F.type_list_append mt_append (pe_var hN hv hdb hcd) (pa_cons (pe_any (n := 0) tk) pa_nil hs) hbase hfew hline hs) fun σ H Q ⟨fp, hE, k, xx⟩ => by
    obtain ⟨es, F⟩ := foc_slot hE hd
    obtain ⟨f, rest, ow, _⟩ := id F
    obtain ⟨a, xs, fs, rfl, ea, al, _⟩ := ow.lstAt
    refine ⟨_, es, .inl ⟨rfl, xs, .of ea⟩, Any.go h hE xx (Kt.of0 fun w d Γ2 H2 fp2 ⟨v, n', ds, e2, nl, hl, p⟩ r E2 f2 => ?_)⟩
    obtain ⟨es2, F2⟩ := foc_slot E2 e2
    rw [es] at es2
    cases es2
    obtain ⟨f', rest', ow', _⟩ := id F2
    obtain ⟨a', xs', fs', q, ea', al', _⟩ := ow'.lstAt
    cases q
    obtain ⟨fp4, E4, f4⟩ := foc_write (ys := xs' ++ [w]) (es := ds ++ [d]) F2 ea' fun H' fs z kk al => ⟨fs ++ ([] ++ []), by simp, All3.append (all3_own z kk al) (.cons (own_in (r.mono z) nl) .nil)⟩
    have sz : sizeLine = 16777216 := sizeLine_eq
    exact ⟨a, xs', w, rfl, rfl, ea', by rw [al'.length]; omega, k.to0 p .non E4 (f2.trans f4)⟩
/-- x.pop(e), x a name -/
theorem ev_popAt (j : Nat) {x : Str} {v0 : V} {d0 : List D} {n0 : Nat} {apos cpos : Pos} {P : D → Gam → Prop} (hd : Γ[j]? = some (.ow v0 (n0 + 1) (.list d0)))
    (h : EV X R e Γ fun d Γ2 => ∃ v n' ds i jj y, d = .int i ∧ Γ2[j]? = some (.ow v (n' + 1) (.list ds)) ∧ ixN ds.length i = some jj ∧ ds[jj]? = some y ∧ ds.length ≤ 1000000 ∧ (n' = 0 ∨ NoLst y) ∧ P y (Γ2.set j (.ow v (n' + 1) (.list (ds.eraseIdx jj)))))
    (hN : X.N[j]? = some x := by rfl) (hv : Vis X.env.scope x := by first | exact Or.inl rfl | exact Or.inr (Or.inl rfl) | exact Or.inr (Or.inr rfl)) (hdb : (x == ("__debug__" : Str)) = false := by decide) (hcd : (x == ("__classdict__" : Str)) = false := by decide)
    (hs : starEach (e :: []) X.env = (false, eval e X.env) :: starEach [] X.env := by rfl)
    (hbase : attributeBase (.Name x p) "pop" X.env (eval (.Name x p) X.env) = eval (.Name x p) X.env := by rfl) (hfew : ((backTo cpos (starEach (e :: []) X.env)).all (fun x => !x.1) && (backToKw cpos (keywordEach [] X.env)).all (fun x => x.1.isSome)
      && decide ((e :: []).length + ([] : List Keyword).length + (if ([] : List Keyword).isEmpty then 0 else 1) < 30)) = true := by rfl) (hline : (apos.endLine == cpos.line) = true := by rfl) : EV X R (.Call (.Attribute (.Name x p) "pop" apos) [e] [] cpos) Γ P := fun W tk =>
  pe_weak (pe_bm PySem.F.plainAttrs_list PySem.F.slot_list_pop PySem.F.type_list_pop mt_popAt (pe_var hN hv hdb hcd) (pa_cons (pe_any (n := 0) tk) pa_nil hs) hbase hfew hline hs) fun σ H Q ⟨fp, hE, k, xx⟩ => by
    obtain ⟨es, F⟩ := foc_slot hE hd
    obtain ⟨f, rest, ow, _⟩ := id F
    obtain ⟨a, xs, fs, rfl, ea, al, _⟩ := ow.lstAt
    refine ⟨_, es, .inl ⟨rfl, xs, .of ea⟩, Any.go h hE xx (Kt.of0 fun w d Γ2 H2 fp2 ⟨v, n', ds, i, jj, y, e1, e2, e3, e4, hl, nl, p⟩ r E2 f2 => ?_)⟩
    subst e1
    cases r
    obtain ⟨es2, F2⟩ := foc_slot E2 e2
    rw [es] at es2
    cases es2
    obtain ⟨f', rest', ow', _⟩ := id F2
    obtain ⟨a', xs', fs', q, ea', al', _⟩ := ow'.lstAt
    cases q
    obtain ⟨fp4, E4, f4⟩ := foc_write (ys := xs'.eraseIdx jj) (es := ds.eraseIdx jj) F2 ea' fun H' fs z kk al => All3.erase jj (all3_own z kk al)
    obtain ⟨u, f1, g, f3, e5, _, oy, _⟩ := al'.foc e4
    have ry : Rep X.K H2 u y := by
      cases n' with
      | zero => exact oy.1
      | succ n' =>
        rcases oy with ⟨_, _, _, _, _, z, _⟩ | ⟨_, _, _, _, _, z, _⟩ | ⟨_, z, _⟩
        · rw [z] at nl; exact (nl.resolve_left (Nat.succ_ne_zero n')).elim
        · rw [z] at nl; exact (nl.resolve_left (Nat.succ_ne_zero n')).elim
        · exact z
    obtain ⟨s1, s2, s3, s4⟩ := ixN_seq e3
    exact ⟨a, xs', i, jj, u, rfl, rfl, ea', by omega, by omega, by rw [al'.length]; exact s1, e5, k.to0 p (ry.mono f4.ez) E4 (f2.trans f4)⟩
end
end DL
set_option Elab.async false
set_option linter.all false
set_option maxRecDepth 100000
set_option maxHeartbeats 1000000
namespace DL
open PySem PySem.Spec PyProof.Rows L2
section
variable {X : Cx} {R : XP} {W : WX} {Γ : Gam} {m n : Nat} {o e a b c i : Expr} {es : List Expr} {pos pos' p : Pos} {P : D → Gam → Prop}
/-! ### ranges as values -/
theorem q_range1 {k : Int} : CallG X (.type "range") 0 [.int k] (.dict [(.none, .tuple [.int 0, .int k])]) := fun pins s σ H xs us Q I rv ⟨r, q⟩ => by
  obtain ⟨v, rfl, h⟩ := rep1 r
  cases h
  obtain ⟨u, rfl, ru⟩ := vals1 rv
  obtain ⟨t, rfl⟩ := ru
  have fresh := I.hok.fresh (Nat.le_refl s.heap.objs.size)
  refine call_range_1 ⟨.ref s.heap.objs.size, upd H s.heap.objs.size (.rng 0 k), I.laid (t' := s.toks + 1 + 1) (fun b o e => Heap.get?_push_of_some _ e) (Nat.le_refl _) ?_, rfl, q _ _ [] ⟨.rng upd_same, rfl⟩ List.nodup_nil (Fr.alloc0 fresh)⟩
  exact ⟨s.toks, t, s.toks + 1, Heap.get?_push_size _ rfl⟩
/-- list(range(e)) -/
theorem rep_rg {K : Fg} {H : Hp} {lo hi : Int} : RepAll K H (rgV lo hi) (rngD lo hi) := by
  unfold rgV rngD
  generalize List.range (hi - lo).toNat = l
  induction l with
  | nil => exact .nil
  | cons x l ih => exact .cons (.int _) ih
theorem eg_listRg {p2 pos2 : Pos} (hc : X.calm = true) (hm : X.mg "list" = none) (hm2 : X.mg "range" = none) (h : EV X R a Γ fun d Γ1 => ∃ k : Int, d = .int k ∧ k ≤ 1000000 ∧ -1000000 ≤ k ∧ P (.list (rngD 0 k)) Γ1) (hg : Gl X "list" := by rfl) (hg2 : Gl X "range" := by rfl)
    (na : starEach [a] X.env = (false, eval a X.env) :: starEach [] X.env := by rfl) (na2 : starEach [.Call (.Name "range" p2) [a] [] pos2] X.env = (false, eval (.Call (.Name "range" p2) [a] [] pos2) X.env) :: starEach [] X.env := by rfl) :
    EG X R 1 (.Call (.Name "list" p) [.Call (.Name "range" p2) [a] [] pos2] [] pos) Γ P := fun W tk =>
  pe_weak (pe_listRg hc hg hm (prg_1 hg2 hm2 (pe_any (n := 0) tk) na) na2) fun σ H Q ⟨fp, hE, k, x⟩ => Any.go h hE x (Kt.of0 fun v d Γ1 H1 fp1 ⟨j, e1, h1, h2, q⟩ r E1 f1 => by
    subst e1
    cases r
    exact ⟨j, rfl, ⟨by omega, by omega, by omega, by omega, by omega⟩, fun p hp => k.lst1 q E1 f1 rep_rg hp⟩)

/-! ### isinstance -/
def tyD : D → String
  | .none => "NoneType"
  | .bool _ => "bool"
  | .int _ => "int"
  | .str _ => "str"
  | .list _ => "list"
  | .tuple _ => "tuple"
  | .dict _ => "dict"
theorem ty_rep {K : Fg} {H : Hp} {v : V} {d : D} (h : Rep K H v d) (nd : ∀ kvs, d ≠ .dict kvs) : TyX K H v (.type (tyD d)) := by
  cases h with
  | non => exact .base .non
  | bl b => exact .base (.bl b)
  | int i => exact .base (.int i)
  | str x => exact .base (.str x)
  | lst h _ => obtain ⟨o, h⟩ := h; exact .base (.frz h)
  | tup h _ =>
    rcases h.sq with (h | ⟨o, h⟩) | ⟨o, us, n, h1, h2, _⟩
    · exact .base (.tup h)
    · exact .fTuple h
    · exact .kTuple h1 h2
  | dct h _ => exact absurd rfl (nd _)
  | rng h => exact absurd rfl (nd _)
  | xv h _ => exact absurd rfl (nd _)
  | hs h _ => exact absurd rfl (nd _)
theorem ev_isinst {T : Str} {Tn : String} {p2 : Pos} (hm : X.mg "isinstance" = none) (hmT : X.mg T = none) (hvT : bootBuiltins T = some (.type Tn)) (h : EV X R e Γ fun d Γ1 => ∃ b, (∀ kvs, d ≠ .dict kvs) ∧ kitB (tyD d) Tn = some b ∧ P (.bool b) Γ1)
    (hg : Gl X "isinstance" := by rfl) (hgT : Gl X T := by rfl) (hv : bootBuiltins "isinstance" = some (.builtin "isinstance") := by decide +kernel) (hnT : T ≠ "__name__" := by decide) (hdT : (T == ("__debug__" : Str)) = false := by decide)
    (he : starEach [e, .Name T p2] X.env = (false, eval e X.env) :: starEach [.Name T p2] X.env := by rfl) (he2 : starEach [.Name T p2] X.env = (false, eval (.Name T p2) X.env) :: starEach [] X.env := by rfl) (hpl : (backTo pos (starEach [.Name T p2] X.env)).any (·.1) = false := by rfl) :
    EV X R (.Call (.Name "isinstance" p) [e, .Name T p2] [] pos) Γ P := fun W tk =>
  pe_weak (pe_callB call_isi hg hm hv (pa_cons (pe_any (n := 0) tk) (pa_cons (pe_bltn (v := .ty Tn) hgT hmT hvT rfl hnT hdT) pa_nil he2) he) (by decide) (by decide) he hpl) fun σ H Q ⟨fp, hE, k, x⟩ => Any.go h hE x (Kt.of0 fun v d Γ1 H1 fp1 ⟨b, nd, kb, q⟩ r E1 f1 =>
    ⟨v, .ty Tn, _, _, b, rfl, .ty Tn, ty_rep r nd, kit_ty kb, k.to0 q (.bl b) E1 f1⟩)
theorem kit_int : ∀ d : D, kitB (tyD d) "int" = some (match d with | .int _ => true | .bool _ => true | _ => false)
  | .none => show kitB "NoneType" "int" = some false by decide +kernel
  | .bool _ => show kitB "bool" "int" = some true by decide +kernel
  | .int _ => show kitB "int" "int" = some true by decide +kernel
  | .str _ => show kitB "str" "int" = some false by decide +kernel
  | .list _ => show kitB "list" "int" = some false by decide +kernel
  | .tuple _ => show kitB "tuple" "int" = some false by decide +kernel
  | .dict _ => show kitB "dict" "int" = some false by decide +kernel
theorem kit_bool : ∀ d : D, kitB (tyD d) "bool" = some (match d with | .bool _ => true | _ => false)
  | .none => show kitB "NoneType" "bool" = some false by decide +kernel
  | .bool _ => show kitB "bool" "bool" = some true by decide +kernel
  | .int _ => show kitB "int" "bool" = some false by decide +kernel
  | .str _ => show kitB "str" "bool" = some false by decide +kernel
  | .list _ => show kitB "list" "bool" = some false by decide +kernel
  | .tuple _ => show kitB "tuple" "bool" = some false by decide +kernel
  | .dict _ => show kitB "dict" "bool" = some false by decide +kernel
theorem kit_tuple : ∀ d : D, kitB (tyD d) "tuple" = some (match d with | .tuple _ => true | _ => false)
  | .none => show kitB "NoneType" "tuple" = some false by decide +kernel
  | .bool _ => show kitB "bool" "tuple" = some false by decide +kernel
  | .int _ => show kitB "int" "tuple" = some false by decide +kernel
  | .str _ => show kitB "str" "tuple" = some false by decide +kernel
  | .list _ => show kitB "list" "tuple" = some false by decide +kernel
  | .tuple _ => show kitB "tuple" "tuple" = some true by decide +kernel
  | .dict _ => show kitB "dict" "tuple" = some false by decide +kernel
theorem kit_list : ∀ d : D, kitB (tyD d) "list" = some (match d with | .list _ => true | _ => false)
  | .none => show kitB "NoneType" "list" = some false by decide +kernel
  | .bool _ => show kitB "bool" "list" = some false by decide +kernel
  | .int _ => show kitB "int" "list" = some false by decide +kernel
  | .str _ => show kitB "str" "list" = some false by decide +kernel
  | .list _ => show kitB "list" "list" = some true by decide +kernel
  | .tuple _ => show kitB "tuple" "list" = some false by decide +kernel
  | .dict _ => show kitB "dict" "list" = some false by decide +kernel
theorem kit_str : ∀ d : D, kitB (tyD d) "str" = some (match d with | .str _ => true | _ => false)
  | .none => show kitB "NoneType" "str" = some false by decide +kernel
  | .bool _ => show kitB "bool" "str" = some false by decide +kernel
  | .int _ => show kitB "int" "str" = some false by decide +kernel
  | .str _ => show kitB "str" "str" = some true by decide +kernel
  | .list _ => show kitB "list" "str" = some false by decide +kernel
  | .tuple _ => show kitB "tuple" "str" = some false by decide +kernel
  | .dict _ => show kitB "dict" "str" = some false by decide +kernel


/-! ### repr -/
mutual
theorem Rep.reads {pins : List (Addr × Obj)} {σ : Sl} {H : Hp} {s : Shared} (I : Inv X pins σ H s) : ∀ (d : D) (v : V) (u : Value), Rep X.K H v d → RelV v u → d.hasDict = false → ∃ as, Reads s.heap u d as
  | .none, _, _, h, r, _ => by
    cases h
    cases r
    exact ⟨_, Reads.none⟩
  | .bool b, _, _, h, r, _ => by
    cases h
    cases r
    exact ⟨_, Reads.bool b⟩
  | .int i, _, _, h, r, _ => by
    cases h
    obtain ⟨t, rfl⟩ := r
    exact ⟨_, Reads.int i t⟩
  | .str x, _, _, h, r, _ => by
    cases h
    obtain ⟨t, rfl⟩ := r
    exact ⟨_, Reads.str x t⟩
  | .list ds, _, _, h, r, nd => by
    cases h with
    | lst hs ra =>
      cases r
      obtain ⟨its, rv, ⟨oo, n, ho, hc, _, hd⟩, _⟩ := I.list hs.sq
      obtain ⟨as, hr⟩ := Rep.readsAll I ds _ its ra rv (by simpa [PyData.hasDict] using nd)
      exact ⟨_, Reads.list ho hc hd hr⟩
  | .tuple ds, _, _, h, r, nd => by
    cases h with
    | tup hs ra =>
      cases r
      obtain ⟨its, rv, ⟨oo, ho, hc, n, hd⟩, _⟩ := I.tuple hs.sq
      obtain ⟨as, hr⟩ := Rep.readsAll I ds _ its ra rv (by simpa [PyData.hasDict] using nd)
      exact ⟨_, Reads.tuple ho hc hd hr⟩
  | .dict _, _, _, _, _, nd => by simp [PyData.hasDict] at nd
theorem Rep.readsAll {pins : List (Addr × Obj)} {σ : Sl} {H : Hp} {s : Shared} (I : Inv X pins σ H s) : ∀ (ds : List D) (vs : List V) (us : List Value), RepAll X.K H vs ds → Vals vs us → PyData.hasDictAll ds = false → ∃ as, ReadsAll s.heap us ds as
  | [], _, _, h, r, _ => by
    cases h
    cases r
    exact ⟨_, ReadsAll.nil⟩
  | d :: ds, _, _, h, r, nd => by
    cases h with
    | cons h1 h2 =>
      cases r with
      | cons r1 r2 =>
        have nd := Bool.or_eq_false_iff.mp (by simpa [PyData.hasDictAll] using nd)
        obtain ⟨as, q1⟩ := Rep.reads I d _ _ h1 r1 nd.1
        obtain ⟨bs, q2⟩ := Rep.readsAll I ds _ _ h2 r2 nd.2
        exact ⟨_, ReadsAll.cons q1 q2⟩
end
theorem q_repr (gd : X.A.guards = some []) {d : D} {ds : List D} (hs : seqD d = some ds) (nd : d.hasDict = false) (sh : d.showable = true) (hu : X.A.units + (d.depth + 1) < cLine) (sz : d.shown.length ≤ sizeLine) : CallG X (.builtin "repr") 0 [d] (.str d.shown) := fun pins s σ H xs us Q I rv ⟨r, q⟩ => by
  obtain ⟨v, rfl, h⟩ := rep1 r
  obtain ⟨u, rfl, ru⟩ := vals1 rv
  obtain ⟨as, hr⟩ := h.reads I d v u ru nd
  have fin : ∀ h' t tk, (∀ b o, s.heap.get? b = some o → h'.get? b = some o) → EP X pins σ Q (.str d.shown t) { s with heap := h', toks := tk } := fun h' t tk hk =>
    ⟨.str d.shown, H, I.kept hk, ⟨t, rfl⟩, q _ H [] ⟨.str _, rfl⟩ List.nodup_nil .refl⟩
  cases h with
  | lst _ _ => cases ru; exact PySem.repr_of_reads' hr sh (PySem.PyData.noDict_hsm nd) gd hu (fun _ _ e => e) fin sz
  | tup _ _ => cases ru; exact PySem.repr_of_reads' hr sh (PySem.PyData.noDict_hsm nd) gd hu (fun _ _ e => e) fin sz
  | _ => cases hs
end
end DL
set_option Elab.async false
set_option linter.all false
set_option maxRecDepth 100000
set_option maxHeartbeats 1000000
namespace DL
open PySem PySem.Spec PyProof.Rows L2
section
variable {X : Cx} {R : XP} {W : WX} {Γ : Gam} {m n n1 n2 n3 : Nat} {o e a b c i : Expr} {es : List Expr} {pos pos' p p2 : Pos} {P : D → Gam → Prop} {Po' : Po}
/-! ### slices -/
def EO (X : Cx) (R : XP) (e : Option Expr) (Γ : Gam) (P : Option Int → Gam → Prop) : Prop := match e with
  | none => P none Γ
  | some e => EV X R e Γ fun d Γ1 => ∃ i, d = .int i ∧ P (some i) Γ1
def tEO (K : Fg) (W : WX) (R : XP) (Γ : Gam) (P : Option Int → Gam → Prop) : TO := fun σ H Q => ∃ fp, Env K Γ σ H fp ∧ (∀ o Γ' H' fp', P o Γ' → Env K Γ' σ H' fp' → Fr fp fp' H H' → Q o H') ∧ XC K W R fp H
def AnyO (X : Cx) (W : WX) (e : Option Expr) : TO := fun σ H Q => ∃ R Γ P, EO X R e Γ P ∧ tEO X.K W R Γ P σ H Q
theorem po_any (tk : Takes X W) : ∀ {e : Option Expr}, PO X e (AnyO X W e)
  | none => ⟨fun pins s σ H Q I ⟨_, Γ, P, h, fp, hE, k, _⟩ => po_none.run pins s σ H Q I (k none Γ H fp h hE .refl)⟩
  | some e => ⟨fun pins s σ H Q I ⟨R, Γ, P, h, fp, hE, k, x⟩ => (po_some (pe_any (n := 0) tk)).run pins s σ H Q I (Any.go (show EV X R e Γ _ from h) hE x (Kt.of0 fun v d Γ1 H1 fp1 ⟨i, e1, p⟩ r E1 f1 => by
      subst e1
      cases r
      exact ⟨i, rfl, k _ Γ1 H1 fp1 p E1 f1⟩))⟩
def cutD (ds : List D) (lo hi : Option Int) : List D := (ds.drop (HT.sIx ds.length 0 lo)).take (HT.sIx ds.length ds.length hi - HT.sIx ds.length 0 lo)
theorem rep_cut {K : Fg} {H : Hp} {vs : List V} {ds : List D} {lo hi : Option Int} (r : RepAll K H vs ds) : RepAll K H (cutV vs lo hi) (cutD ds lo hi) := by
  unfold cutV cutD
  rw [r.length]
  exact (r.drop _).take _
theorem ev_sliceT {lo hi : Option Expr} (h : EV X R e Γ fun d Γ1 => EO X R lo Γ1 fun l Γ2 => EO X R hi Γ2 fun u Γ3 => ∃ ds, d = .tuple ds ∧ P (.tuple (cutD ds l u)) Γ3) : EV X R (.Subscript e (.Slice lo hi none p2) pos) Γ P := fun W tk =>
  pe_weak (pe_slice sl_tupA (pe_any (n := 0) tk) (po_any tk) (po_any tk)) fun σ H Q ⟨fp, hE, k, x⟩ => Any.go h hE x (Kt.of0 fun v d Γ1 H1 fp1 h1 r E1 f1 =>
    ⟨R, Γ1, _, h1, fp1, E1, fun l Γ2 H2 fp2 h2 E2 f2 => ⟨R, Γ2, _, h2, fp2, E2, fun u Γ3 H3 fp3 ⟨ds, e1, q⟩ E3 f3 => by
      subst e1
      have f := (f1.trans f2).trans f3
      cases r.mono (f2.ez.trans f3.ez) with
      | tup ht ra =>
        refine ⟨_, _, rfl, ht.sq, fun w => ?_, fun w p hp => k.to0 q (own_tup hp (rep_cut ra)) (E3.alloc hp) (f.trans (Fr.alloc0 hp))⟩
        have : cutD ds l u = ds := by
          unfold cutD
          rw [ra.length] at w
          rw [w.1, w.2]
          simp
        rw [this] at q
        exact k.to0 q (.tup ht ra) E3 f, (x.trans f1).trans f2⟩, x.trans f1⟩)
theorem eg_sliceL {lo hi : Option Expr} (h : EV X R e Γ fun d Γ1 => EO X R lo Γ1 fun l Γ2 => EO X R hi Γ2 fun u Γ3 => ∃ ds, d = .list ds ∧ P (.list (cutD ds l u)) Γ3) : EG X R 1 (.Subscript e (.Slice lo hi none p2) pos) Γ P := fun W tk =>
  pe_weak (pe_slice sl_list (pe_any (n := 0) tk) (po_any tk) (po_any tk)) fun σ H Q ⟨fp, hE, k, x⟩ => Any.go h hE x (Kt.of0 fun v d Γ1 H1 fp1 h1 r E1 f1 =>
    ⟨R, Γ1, _, h1, fp1, E1, fun l Γ2 H2 fp2 h2 E2 f2 => ⟨R, Γ2, _, h2, fp2, E2, fun u Γ3 H3 fp3 ⟨ds, e1, q⟩ E3 f3 => by
      subst e1
      have f := (f1.trans f2).trans f3
      cases r.mono (f2.ez.trans f3.ez) with
      | lst ht ra => exact ⟨_, _, rfl, ht.sq, fun p hp => k.lst1 q E3 f (rep_cut ra) hp⟩, (x.trans f1).trans f2⟩, x.trans f1⟩)
theorem eg_rev {k0 : Nat} {p1 p3 : Pos} (h : EV X R e Γ fun d Γ1 => ∃ ds, d = .list ds ∧ P (.list ds.reverse) Γ1) : EG X R 1 (.Subscript e (.Slice none none (some (.UnaryOp .USub (.Constant (.int 1) k0 p1) p2)) p3) pos) Γ P := fun W tk =>
  pe_weak (pe_revL (pe_any (n := 0) tk)) fun σ H Q ⟨fp, hE, k, x⟩ => Any.go h hE x (Kt.of0 fun v d Γ1 H1 fp1 ⟨ds, e1, q⟩ r E1 f1 => by
    subst e1
    cases r with
    | lst ht ra => exact ⟨_, _, rfl, ht.sq, fun p hp => k.lst1 q E1 f1 ra.reverse hp⟩)

/-! ### data as a thing that is owned to any depth -/
theorem eg_lift (h : EV X R e Γ fun d Γ1 => NoLst d ∧ P d Γ1) : EG X R n e Γ P := fun W tk =>
  pe_weak (h W tk) fun σ H Q ⟨fp, hE, k, x⟩ => ⟨fp, hE, fun v d fv Γ' H' fp' ⟨nl, p⟩ o E' nd f => by
    obtain ⟨r, e0⟩ := o
    subst e0
    exact k v d [] Γ' H' fp' p (own_in r (.inr nl)) E' nd f, x⟩

/-! ### dict displays with texts for keys -/
inductive KA : List (Option Expr) → List Str → Prop
  | nil : KA [] []
  | cons {x : Str} {j : Nat} {p : Pos} {ks : List (Option Expr)} {xs : List Str} : KA ks xs → KA (some (.Constant (.str x) j p) :: ks) (x :: xs)
def EPs (X : Cx) (R : XP) (n : Nat) : List Str → List Expr → Gam → (List (Str × D) → Gam → Prop) → Prop
  | [], [], Γ, P => P [] Γ
  | k :: ks, v :: vs, Γ, P => EG X R n v Γ fun d Γ1 => EPs X R n ks vs Γ1 fun ps Γ2 => P ((k, d) :: ps) Γ2
  | _, _, _, _ => False
def trsOf (X : Cx) (W : WX) (n : Nat) : List Str → List Expr → List (TE × TE)
  | k :: ks, v :: vs => (tC (.str k), Any X W n v) :: trsOf X W n ks vs
  | _, _ => []
theorem pps_of (tk : Takes X W) : ∀ {ks : List (Option Expr)} {xs : List Str} {vs : List Expr}, KA ks xs → ks.length = vs.length → PPs X pos ks vs (trsOf X W n xs vs)
  | [], _, [], .nil, _ => pps_nil
  | [], _, _ :: _, _, hl => by simp at hl
  | _ :: _, _, [], _, hl => by simp at hl
  | _ :: ks, _, v :: vs, .cons h, hl => pps_cons pe_str (pe_any tk) (pps_of tk h (by simpa using hl))
theorem nodup_new {K : Fg} {H : Hp} {n : Nat} {v : V} {d : D} {fv fp1 fs : List Addr} (o : Own K H n v d fv) (nd : (fv ++ fp1).Nodup) (new : ∀ a ∈ fs, a ∈ fp1 ∨ H a = none) (nf : fs.Nodup) : (fv ++ fs).Nodup :=
  List.nodup_append.mpr ⟨(List.nodup_append.mp nd).1, nf, fun a m b m' z => by
    subst z
    rcases new a m' with q | q
    · exact (List.nodup_append.mp nd).2.2 a m a q rfl
    · exact (o.wr a m).ne q⟩
theorem own_stay {K : Fg} {H H' : Hp} {n : Nat} {v : V} {d : D} {fv fp1 fs : List Addr} (o : Own K H n v d fv) (nd : (fv ++ fp1).Nodup) (f : Fr fp1 fs H H') : Own K H' n v d fv :=
  o.mono f.ez fun a m => by
    obtain ⟨u, e, _⟩ := (o.wr a m).mut
    exact f.sameW (o.wr a m) fun m' => (List.nodup_append.mp nd).2.2 a m a m' rfl
theorem eps_run : ∀ {ks : List Str} {vs : List Expr} {Γ : Gam} {P : List (Str × D) → Gam → Prop} {σ : Sl} {H : Hp} {fp : List Addr} {Q : List (V × V) → Hp → Prop}, EPs X R n ks vs Γ P → Env X.K Γ σ H fp → XC X.K W R fp H →
    (∀ (kvs : List (Key × V)) (ps : List (Str × D)) fs Γ' H' fp', P ps Γ' → kvs.map (·.1) = ps.map (fun p => Sum.inr p.1) → AllK (Own X.K H' n) kvs (ps.map fun p => (.str p.1, p.2)) fs → EnvOk X.K H' Γ' σ fp' → (fs ++ fp').Nodup → Fr fp (fs ++ fp') H H' → Q (kvs.map fun kv => (kV kv.1, kv.2)) H') →
    tPairs (trsOf X W n ks vs) σ H Q
  | [], [], Γ, P, σ, H, fp, Q, h, hE, x, k => k [] [] [] Γ H fp h rfl .nil hE.1 hE.2 .refl
  | ky :: ks, v :: vs, Γ, P, σ, H, fp, Q, h, hE, x, k => by
    show Any X W n v σ H fun y H2 => tPairs (trsOf X W n ks vs) σ H2 fun ps H3 => Q ((.str ky, y) :: ps) H3
    refine Any.go (show EG X R n v Γ _ from h) hE x fun w d fv Γ1 H1 fp1 h1 o E1 nd f => ?_
    have fsub : Fr fp fp1 H H1 := f.sub fun a m => List.mem_append_right _ m
    refine eps_run h1 ⟨E1, (List.nodup_append.mp nd).2.1⟩ (x.trans fsub) fun kvs ps fs Γ2 H2 fp2 p2 ek al E2 nd2 f2 => ?_
    have := k ((.inr ky, w) :: kvs) ((ky, d) :: ps) (fv ++ fs) Γ2 H2 fp2 p2 (by simp [ek]) (.cons (k := .inr ky) (own_stay o nd f2) al) E2 (by rw [List.append_assoc]; exact nodup_new o nd f2.new nd2) (by
      rw [List.append_assoc]
      exact f.trans (f2.more (g := fv)))
    exact this
  | [], _ :: _, _, _, _, _, _, _, h, _, _, _ => h.elim
  | _ :: _, [], _, _, _, _, _, _, h, _, _, _ => h.elim
theorem putK_new {k : Key} {v : V} : ∀ {acc : List (Key × V)}, k ∉ acc.map (·.1) → putK acc k v = acc ++ [(k, v)] := fun {acc} h => by
  unfold putK
  rw [if_neg]
  intro z
  obtain ⟨p, m, e⟩ := List.any_eq_true.mp z
  exact h (List.mem_map.mpr ⟨p, m, of_decide_eq_true e⟩)
theorem mergeK_nd : ∀ (kvs acc : List (Key × V)), ((acc ++ kvs).map (·.1)).Nodup → mergeK acc kvs = acc ++ kvs
  | [], acc, _ => by simp [mergeK]
  | p :: r, acc, nd => by
    show mergeK (putK acc p.1 p.2) r = _
    rw [putK_new (by
      intro m
      rw [List.map_append, List.nodup_append] at nd
      exact nd.2.2 _ m _ (by simp) rfl), mergeK_nd r _ (by simpa using nd)]
    simp
theorem eg_disp {ks : List (Option Expr)} {xs : List Str} {vs : List Expr} (hk : KA ks xs) (h : EPs X R n xs vs Γ fun ps Γ1 => (ps.map (·.1)).Nodup ∧ ps.length ≤ 15 ∧ P (.dict (ps.map fun p => (.str p.1, p.2))) Γ1) (hl : ks.length = vs.length := by rfl) (h0 : ks ≠ [] := by simp)
    (h15 : ks.length ≤ 15 := by decide) (hall : ks.all (·.isSome) = true := by rfl) : EG X R (n + 1) (.Dict ks vs pos) Γ P := fun W tk =>
  pe_weak (pe_disp (pps_of (n := n) tk hk hl) hall hl h0 h15) fun σ H Q ⟨fp, hE, k, x⟩ p0 hp => by
    have E1 := hE.alloc (o := .dK []) hp
    have f0 : Fr fp fp H (upd H p0 (.dK [])) := Fr.alloc0 hp
    have np : p0 ∉ fp := fun m => (hE.1.wr p0 m).ne hp
    refine eps_run h E1 (x.trans f0) fun kvs ps fs Γ' H' fp' ⟨nd, len, q⟩ ek al E' ndd f => ?_
    have at0 : H' p0 = some (.dK []) := f.keep p0 _ upd_same (fun _ z => by cases z) np
    have np' : p0 ∉ fs ++ fp' := fun m => by
      rcases f.new p0 m with z | z
      · exact np z
      · rw [upd_same] at z; cases z
    have ndk : (kvs.map (·.1)).Nodup := by
      rw [ek]
      have : ps.map (fun p => (Sum.inr p.1 : Key)) = (ps.map (·.1)).map Sum.inr := by rw [List.map_map]; rfl
      rw [this]
      exact List.pairwise_map.mpr (nd.imp fun h e => h (Sum.inr.inj e))
    have mk : mergeK [] kvs = kvs := by
      have := mergeK_nd kvs [] (by simpa using ndk)
      simpa using this
    have wr : Fr [p0] [p0] H' (upd H' p0 (.dK kvs)) := Fr.write List.mem_cons_self (.inr ⟨_, at0⟩)
    refine ⟨at0, kvs, rfl, ?_, ?_⟩
    · have := congrArg List.length ek
      simp at this
      omega
    · rw [mk]
      have off : ∀ a ∈ fs ++ fp', upd H' p0 (.dK kvs) a = H' a := fun a m => upd_ne fun z => np' (z ▸ m)
      refine k _ _ (p0 :: fs) Γ' _ fp' q (.inr (.inl ⟨p0, kvs, _, fs, rfl, rfl, upd_same, al.mono fun v d g m o => o.mono wr.ez fun a ma => off a (List.mem_append_left _ (m a ma)), rfl⟩)) (E'.mono wr.ez fun a m => off a (List.mem_append_right _ m)) (List.nodup_cons.mpr ⟨np', ndd⟩) ⟨fun a o e tt hn => ?_, fun a m => ?_, fun a e => ?_, ?_⟩
      · rw [upd_ne (ne_of_none e hp)]
        exact f.keep a o (by rw [upd_ne (ne_of_none e hp)]; exact e) tt hn
      · rcases List.mem_cons.mp m with z | z
        · rw [z]; exact .inr hp
        · rcases f.new a z with q | q
          · exact .inl q
          · right
            by_cases e : a = p0
            · rw [e]; exact hp
            · rw [upd_ne e] at q; exact q
      · by_cases z : a = p0
        · rw [z]; exact hp
        · rw [upd_ne z] at e
          have := f.dom a e
          rw [upd_ne z] at this; exact this
      · exact (f0.ez.trans f.ez).trans wr.ez
end
end DL
set_option Elab.async false
set_option linter.all false
set_option maxRecDepth 100000
set_option maxHeartbeats 1000000
namespace DL
open PySem PySem.Spec PyProof.Rows L2
def sv : Nat → V → D → SV
  | 0, _, d => .pv d
  | n + 1, v, d => .ow v (n + 1) d
section
variable {X : Cx} {R : XP} {W : WX} {Γ : Gam} {m n n1 n2 n3 : Nat} {o tg e a b c i : Expr} {es : List Expr} {pos pos' p p2 : Pos} {P : D → Gam → Prop} {Q' : Gam → Prop} {Po' : Po} {ix : List Nat}
theorem Env.putSv {K : Fg} {σ : Sl} {H : Hp} {fp fv : List Addr} {i : Nat} {v : V} {d : D} (hE : EnvOk K H Γ σ fp) (nd : (fv ++ fp).Nodup) (hi : i < Γ.length) (o : Own K H n v d fv) : ∃ fp', Env K (Γ.set i (sv n v d)) (σ.set i (some v)) H fp' ∧ ∀ a ∈ fp', a ∈ fv ++ fp := by
  cases n with
  | zero =>
    obtain ⟨r, e⟩ := o
    subst e
    exact Env.putPv ⟨hE, nd⟩ hi r
  | succ n => exact Env.putOw hE nd hi o
/-- tg = e -/
theorem s1_asg (h : EV X R e Γ fun d Γ1 => GT X ix tg d Γ1 Po'.nx) (hs : swapsWithSole [tg] e pos.line X.env = pure false := by rfl) (hw : swappedStores [tg] e X.env = pure none := by rfl)
    (h1 : (assignEach [tg] X.env).map (·.2) = [assign tg X.env] := by rfl) : S1 X R m (.Assign [tg] e pos) Γ Po' := fun W tk =>
  ps_weak (ps_asg (pe_any (n := 0) tk) pg_any hs hw h1) fun D σ H ⟨fp, hE, k, _, _, _, x⟩ => Any.go h hE x (Kt.of0 fun v d Γ1 H1 fp1 q r E1 f1 =>
    ⟨ix, d, Γ1, _, q, r, fp1, E1, fun σ' Γ' H' fp' p E' f off => k σ' Γ' H' fp' p E' (f1.trans f)⟩)
/-- a, b = x, y -/
theorem s1_par2 (i j n1 n2 : Nat) {x y : Str} {px py pt : Pos} {kt k2 : Nat} {pt2 : Pos} (hc : X.calm = true) (hN : X.N.Nodup) (h : EG X R n1 a Γ fun d1 Γ1 => EG X R n2 b Γ1 fun d2 Γ2 => i < Γ2.length ∧ j < Γ2.length ∧ ∀ v w, Po'.nx ((Γ2.set i (sv n1 v d1)).set j (sv n2 w d2)))
    (hi : X.N[i]? = some x := by rfl) (hj : X.N[j]? = some y := by rfl) (hij : i ≠ j := by decide) (hx : X.env.scope.names.lookup x = some .local := by rfl) (hy : X.env.scope.names.lookup y = some .local := by rfl)
    (he : starEach [a, b] X.env = (false, eval a X.env) :: starEach [b] X.env := by rfl) (he2 : starEach [b] X.env = (false, eval b X.env) :: starEach [] X.env := by rfl)
    (hw : swappedStores [.Tuple [.Name x px, .Name y py] kt pt] (.Tuple [a, b] k2 pt2) X.env = pure (some [x, y]) := by rfl)
    (hs : swapsWithSole [.Tuple [.Name x px, .Name y py] kt pt] (.Tuple [a, b] k2 pt2) pos.line X.env = pure false := by rfl) :
    S1 X R m (.Assign [.Tuple [.Name x px, .Name y py] kt pt] (.Tuple [a, b] k2 pt2) pos) Γ Po' := fun W tk =>
  ps_weak (ps_par hc hN hi hj hij hx hy (pa_cons (pe_any (n := n1) tk) (pa_cons (pe_any (n := n2) tk) pa_nil he2) he) hw hs) fun D σ H ⟨fp, hE, k, _, _, _, xx⟩ => by
    refine Any.go h hE xx fun v d fv Γ1 H1 fp1 h1 o E1 nd f => ?_
    have fsub : Fr fp fp1 H H1 := f.sub fun a m => List.mem_append_right _ m
    refine Any.go h1 ⟨E1, (List.nodup_append.mp nd).2.1⟩ (xx.trans fsub) fun w d2 fw Γ2 H2 fp2 ⟨l1, l2, p⟩ o2 E2 nd2 f2 => ?_
    have all : (fv ++ (fw ++ fp2)).Nodup := nodup_new o nd f2.new nd2
    have F : Fr fp (fv ++ (fw ++ fp2)) H H2 := f.trans (f2.more (g := fv))
    obtain ⟨q1, E3, s1⟩ := Env.putSv (i := i) E2 (all.sublist ((List.sublist_append_right fw fp2).append_left fv)) l1 (own_stay o nd f2)
    obtain ⟨q2, E4, s2⟩ := Env.putSv (i := j) E3.1 (fv := fw) (by
      refine List.nodup_append.mpr ⟨(List.nodup_append.mp nd2).1, E3.2, fun a m b m' z => ?_⟩
      subst z
      rcases List.mem_append.mp (s1 a m') with q | q
      · exact (List.nodup_append.mp all).2.2 a q a (List.mem_append_left _ m) rfl
      · exact (List.nodup_append.mp nd2).2.2 a m a q rfl) (by simpa using l2) o2
    refine ⟨v, w, rfl, k _ _ H2 q2 (p v w) E4 (F.sub fun a m => ?_)⟩
    rcases List.mem_append.mp (s2 a m) with q | q
    · exact List.mem_append_right _ (List.mem_append_left _ q)
    · rcases List.mem_append.mp (s1 a q) with q | q
      · exact List.mem_append_left _ q
      · exact List.mem_append_right _ (List.mem_append_right _ q)
/-- a, b, c = x, y, z: data -/
theorem s1_par3 (i j l : Nat) {x y z : Str} {px py pz pt : Pos} {kt k2 : Nat} {pt2 : Pos} (hc : X.calm = true) (hN : X.N.Nodup) (h : EV X R a Γ fun d1 Γ1 => EV X R b Γ1 fun d2 Γ2 => EV X R c Γ2 fun d3 Γ3 => i < Γ3.length ∧ j < Γ3.length ∧ l < Γ3.length ∧ Po'.nx (((Γ3.set i (.pv d1)).set j (.pv d2)).set l (.pv d3)))
    (hi : X.N[i]? = some x := by rfl) (hj : X.N[j]? = some y := by rfl) (hl : X.N[l]? = some z := by rfl) (hij : i ≠ j := by decide) (hil : i ≠ l := by decide) (hjl : j ≠ l := by decide)
    (hx : X.env.scope.names.lookup x = some .local := by rfl) (hy : X.env.scope.names.lookup y = some .local := by rfl) (hz : X.env.scope.names.lookup z = some .local := by rfl)
    (he : starEach [a, b, c] X.env = (false, eval a X.env) :: starEach [b, c] X.env := by rfl) (he2 : starEach [b, c] X.env = (false, eval b X.env) :: starEach [c] X.env := by rfl) (he3 : starEach [c] X.env = (false, eval c X.env) :: starEach [] X.env := by rfl)
    (hw : swappedStores [.Tuple [.Name x px, .Name y py, .Name z pz] kt pt] (.Tuple [a, b, c] k2 pt2) X.env = pure (some [x, y, z]) := by rfl)
    (hs : swapsWithSole [.Tuple [.Name x px, .Name y py, .Name z pz] kt pt] (.Tuple [a, b, c] k2 pt2) pos.line X.env = pure false := by rfl) :
    S1 X R m (.Assign [.Tuple [.Name x px, .Name y py, .Name z pz] kt pt] (.Tuple [a, b, c] k2 pt2) pos) Γ Po' := fun W tk =>
  ps_weak (ps_par3 hc hN hi hj hl hij hil hjl hx hy hz (pa_cons (pe_any (n := 0) tk) (pa_cons (pe_any (n := 0) tk) (pa_cons (pe_any (n := 0) tk) pa_nil he3) he2) he) hw hs) fun D σ H ⟨fp, hE, k, _, _, _, xx⟩ => by
    refine Any.go h hE xx (Kt.of0 fun v1 d1 Γ1 H1 fp1 h1 r1 E1 f1 => ?_)
    refine Any.go h1 E1 (xx.trans f1) (Kt.of0 fun v2 d2 Γ2 H2 fp2 h2 r2 E2 f2 => ?_)
    refine Any.go h2 E2 ((xx.trans f1).trans f2) (Kt.of0 fun v3 d3 Γ3 H3 fp3 ⟨l1, l2, l3, p⟩ r3 E3 f3 => ?_)
    obtain ⟨q1, E4, s1⟩ := E3.putPv l1 (r1.mono (f2.ez.trans f3.ez))
    obtain ⟨q2, E5, s2⟩ := E4.putPv (i := j) (by simpa using l2) (r2.mono f3.ez)
    obtain ⟨q3, E6, s3⟩ := E5.putPv (i := l) (by simpa using l3) r3
    exact ⟨v1, v2, v3, rfl, k _ _ H3 q3 p E6 (((f1.trans f2).trans f3).sub fun a m => s1 a (s2 a (s3 a m)))⟩
/-- a place as a target -/
theorem gt_store {d : D} (h : EPl X o Γ fun n dl u => ∃ n' ds, n = n' + 1 ∧ dl = .list ds ∧ EV X noX i (frz Γ) fun di _ => ∃ k j, di = .int k ∧ ixN ds.length k = some j ∧ (n' = 0 ∨ NoLst d) ∧ Q' (u (.list (ds.set j d))))
    (ha : ∀ v, assign (.Subscript o i pos') X.env v = (do
      let o0 ← holding [v] (eval o X.env)
      let i0 ← holding [v, o0] (eval i X.env)
      standAt pos'
      holding [v, o0, i0] (setItem o0 i0 v)
      release [v, o0, i0] []) := by intro _; rfl) : GT X ix (.Subscript o i pos') d Γ Q' :=
  pg_weak (pg_sub pe_anyP (pe_anyL (n := 0)) set_list ha) fun v σ H Q ⟨r, fp1, E1, k⟩ => by
    refine ⟨Γ, _, h, fp1, E1, fun vo n dl u H2 ⟨n', ds, e1, e2, hi⟩ E2 F2 z2 k2 f2 => ?_⟩
    subst e1
    subst e2
    refine ⟨Γ, _, hi.imp fun d _ q => ⟨?_, q⟩, fp1, E2, fun vi di fv H3 ⟨kk, j, e3, e4, e5, p⟩ o3 E3 z3 k3 nd3 f3 => ?_⟩
    · obtain ⟨kk, _, e3, _⟩ := q
      rw [e3]; exact flat_int
    subst e3
    have F3 := F2.mono z3 k3
    have r3 := o3.1
    cases r3
    have e0 := o3.2
    subst e0
    obtain ⟨f, rest, ow, _⟩ := id F3
    obtain ⟨a, xs, fs, rfl, ea, al, _⟩ := ow.lstAt
    have rv : Rep X.K H3 v d := r.mono (z2.trans z3)
    obtain ⟨fp4, E4, f4⟩ := foc_write (ys := xs.set j v) (es := ds.set j d) F3 ea fun H' fs z kk al => All3.set (own_in (rv.mono z) e5) j (all3_own z kk al)
    exact ⟨a, xs, kk, j, rfl, rfl, ea, by rw [al.length]; exact e4, k σ _ _ fp4 p E4 ((f2.trans (f3.sub fun x m => m)).trans f4) .refl⟩

/-! ### lists of owned things -/
/-- [e], the item owned -/
theorem eg_lst1 (h : EG X R n e Γ fun d Γ1 => P (.list [d]) Γ1) (he : starEach [e] X.env = (false, eval e X.env) :: starEach [] X.env := by rfl) : EG X R (n + 1) (.List [e] pos) Γ P := fun W tk =>
  pe_weak (pe_lst (pa_cons (pe_any (n := n) tk) pa_nil he)) fun σ H Q ⟨fp, hE, k, x⟩ => Any.go h hE x fun v d fv Γ1 H1 fp1 q o E1 nd f => by
    refine ⟨by show 1 ≤ sizeLine; decide, fun p hp => ?_⟩
    have np : p ∉ fv ++ fp1 := fun m => by
      rcases List.mem_append.mp m with m | m
      · exact (o.wr p m).ne hp
      · exact (E1.wr p m).ne hp
    have st : ∀ a ∈ fv ++ fp1, upd H1 p (.lst [v]) a = H1 a := fun a m => upd_ne fun z => np (z ▸ m)
    refine k _ _ (p :: (fv ++ [])) Γ1 _ fp1 q (.inl ⟨p, [v], [d], fv ++ [], rfl, rfl, upd_same, .cons (o.mono (ez_upd hp) fun a m => st a (List.mem_append_left _ m)) .nil, rfl⟩) (E1.mono (ez_upd hp) fun a m => st a (List.mem_append_right _ m)) ?_ ?_
    · rw [List.append_nil]; exact List.nodup_cons.mpr ⟨np, nd⟩
    · rw [List.append_nil]; exact f.trans (Fr.alloc hp)
theorem All3.app {R : V → D → List Addr → Prop} {vs ws : List V} {ds es : List D} {fs gs : List Addr} (h : All3 R vs ds fs) (h' : All3 R ws es gs) : All3 R (vs ++ ws) (ds ++ es) (fs ++ gs) := h.append h'
/-- a + b, both lists owned -/
theorem eg_cat (h : EG X R (n + 1) a Γ fun d1 Γ1 => EG X R (n + 1) b Γ1 fun d2 Γ2 => ∃ ds es, d1 = .list ds ∧ d2 = .list es ∧ ds.length + es.length ≤ 1000 ∧ P (.list (ds ++ es)) Γ2) : EG X R (n + 1) (.BinOp a .Add b pos) Γ P := fun W tk =>
  pe_weak (pe_op op_cat (pe_any (n := n + 1) tk) (pe_any (n := n + 1) tk)) fun σ H Q ⟨fp, hE, k, x⟩ => Any.go h hE x fun v d1 fv Γ1 H1 fp1 h1 o E1 nd f => by
    have fsub : Fr fp fp1 H H1 := f.sub fun a m => List.mem_append_right _ m
    refine Any.go h1 ⟨E1, (List.nodup_append.mp nd).2.1⟩ (x.trans fsub) fun w d2 fw Γ2 H2 fp2 ⟨ds, es, e1, e2, hl, q⟩ o2 E2 nd2 f2 => ?_
    subst e1
    subst e2
    have all : (fv ++ (fw ++ fp2)).Nodup := nodup_new o nd f2.new nd2
    have F : Fr fp (fv ++ (fw ++ fp2)) H H2 := f.trans (f2.more (g := fv))
    obtain ⟨a1, xs, fs, rfl, ea, al, rfl⟩ := (own_stay o nd f2).lstAt
    obtain ⟨a2, ys, gs, rfl, eb, bl, rfl⟩ := o2.lstAt
    have sz : sizeLine = 16777216 := sizeLine_eq
    refine ⟨a1, a2, xs, ys, rfl, rfl, ea, eb, by rw [al.length, bl.length]; omega, fun p hp => ?_⟩
    have mem : ∀ c, c ∈ (fs ++ gs) ++ fp2 → c ∈ a1 :: fs ++ (a2 :: gs ++ fp2) := fun c m => by
      simp only [List.mem_append, List.mem_cons] at m ⊢
      rcases m with (m | m) | m
      · exact .inl (.inr m)
      · exact .inr (.inl (.inr m))
      · exact .inr (.inr m)
    have np : p ∉ (fs ++ gs) ++ fp2 := fun m => by
      have := mem p m
      simp only [List.mem_append, List.mem_cons] at m
      rcases m with (m | m) | m
      · exact (All3.wr Own.wr al p m).ne hp
      · exact (All3.wr Own.wr bl p m).ne hp
      · exact (E2.wr p m).ne hp
    have st : ∀ c ∈ (fs ++ gs) ++ fp2, upd H2 p (.lst (xs ++ ys)) c = H2 c := fun c m => upd_ne fun z => np (z ▸ m)
    have sub : ((fs ++ gs) ++ fp2).Sublist (a1 :: fs ++ (a2 :: gs ++ fp2)) := by
      rw [List.append_assoc]
      exact (List.sublist_cons_self a1 fs).append ((List.sublist_cons_self a2 gs).append (List.Sublist.refl fp2))
    refine k _ _ (p :: (fs ++ gs)) Γ2 _ fp2 q (.inl ⟨p, _, _, _, rfl, rfl, upd_same, All3.app (al.mono fun v d g m o => o.mono (ez_upd hp) fun c mc => st c (by simp [m c mc])) (bl.mono fun v d g m o => o.mono (ez_upd hp) fun c mc => st c (by simp [m c mc])), rfl⟩) (E2.mono (ez_upd hp) fun c m => st c (List.mem_append_right _ m))
      (List.nodup_cons.mpr ⟨np, all.sublist sub⟩) ((F.sub mem).trans (Fr.alloc hp))
end
end DL
set_option Elab.async false
set_option linter.all false
set_option maxRecDepth 100000
set_option maxHeartbeats 1000000
/-! exceptions of the program's own: classes over Exception, made by an __init__ that keeps its argument -/
namespace DLX
open PySem PySem.W PySem.Calls PyProof.Rows
open Builtin Builtin.ObjectAttr
def ownRefs : List Value → Bool
  | .ref _ :: r => ownRefs r
  | l => l == ESX.exTail
theorem ownRefs_cases : ∀ l : List Value, ownRefs l = true → (∃ c r, l = .ref c :: r ∧ ownRefs r = true) ∨ l = ESX.exTail
  | .ref c :: r, e => .inl ⟨c, r, rfl, e⟩
  | [], e => .inr (beq_iff_eq.mp e)
  | .none :: _, e => .inr (beq_iff_eq.mp e)
  | .ellipsis :: _, e => .inr (beq_iff_eq.mp e)
  | .notImplemented :: _, e => .inr (beq_iff_eq.mp e)
  | .bool _ :: _, e => .inr (beq_iff_eq.mp e)
  | .int _ _ :: _, e => .inr (beq_iff_eq.mp e)
  | .float _ _ :: _, e => .inr (beq_iff_eq.mp e)
  | .str _ _ :: _, e => .inr (beq_iff_eq.mp e)
  | .bytes _ _ :: _, e => .inr (beq_iff_eq.mp e)
  | .type _ :: _, e => .inr (beq_iff_eq.mp e)
  | .builtin _ :: _, e => .inr (beq_iff_eq.mp e)
theorem ownRefs_go (self : Value) : ∀ l : List Value, ownRefs l = true → refuseLoop self "__setattr__" l = pure () := by
  intro l
  induction l with
  | nil => intro e; exact absurd e (by decide)
  | cons a r ih =>
    intro e
    rcases ownRefs_cases (a :: r) e with ⟨c, r', q, h⟩ | q
    · obtain ⟨rfl, rfl⟩ := List.cons.inj q
      rw [refuseLoop_ref]; exact ih h
    · rw [q]; exact F.store_Exception.passes self
theorem ownRefs_has (Y : String) : ∀ l : List Value, ownRefs l = true → l.contains (.type Y) = ESX.exTail.contains (.type Y) := by
  intro l
  induction l with
  | nil => intro e; exact absurd e (by decide)
  | cons a r ih =>
    intro e
    rcases ownRefs_cases (a :: r) e with ⟨c, r', q, h⟩ | q
    · obtain ⟨rfl, rfl⟩ := List.cons.inj q
      rw [List.contains_cons, ih h]; rfl
    · rw [q]
theorem ownRefs_some {l : List Value} (e : ownRefs l = true) : l.isEmpty = false := by
  cases l with
  | nil => exact absurd e (by decide)
  | cons _ _ => rfl
section
variable {prog : Program} {w : World} {A : Around} {E : Value → Shared → Prop} {R : Result → Shared → Prop} {hp : Heap} {g : Array GenState} {d : Drawn} {t : Nat} {os : OsState}
theorem keep_field {K : W.Frag} {name : Str} {tk : Tok} {v : Value} {x C : Addr} {fv : Array Value} {cd : ClassData}
    (X : K.In hp) (hx : hp.get? x = some { cls := .ref C, data := .fields fv }) (hcd : W.clsIn K C = some cd) (hm : ownRefs cd.mro = true) (hh : cd.hasDict = true) (ha : W.findIn K (.ref C) name = some none)
    (hq : ∀ g' tk' dx, (∀ b o, b ≠ x → hp.get? b = some o → g'.get? b = some o) → hp.objs.size ≤ dx → dx ≠ x → g'.get? x = some { cls := .ref C, dict := some dx, data := .fields fv } →
      g'.Ns1 dx (fun y => if y = name then some v else none) → R (.ok (.ret .none)) ⟨g', g, d, tk', os⟩) :
    codeAny (model prog w) A (.call (.builtin "object.__setattr__") ⟨[.ref x, .str name tk, v], []⟩) R ⟨hp, g, d, t, os⟩ := by
  have J : W.InstAt hp x { cls := .ref C, data := .fields fv } C none := ⟨hx, rfl, rfl, trivial⟩
  have off : x ≠ hp.objs.size := Nat.ne_of_lt (Heap.lt_size hx)
  have SF := F.store_object
  have ne := ownRefs_some hm
  have hob : cd.mro.contains (.type "object") = true := (ownRefs_has "object" _ hm).trans (by decide +kernel)
  have sub : W.Looks (model prog w) hp (isInstance (.ref x) (.type "object")) true := J.type.andThen (W.looks_mroIn X (by unfold W.mroIn; rw [hcd, Option.bind_some, if_neg (by rw [ne]; decide), hob]))
  refine codeAny_call_builtin SF.slot.plain SF.entry (@W.check_slot (model prog w) _ _ ⟨hp, g, d, t, os⟩ "object.__setattr__" "object" "__setattr__" (.ref x) [.str name tk, v] [] _ SF.kind SF.split sub (SF.args (.ref x) (.str name tk) v) ?_)
  have lm : W.Looks (model prog w) hp (mroOf (.ref C)) cd.mro := (W.looks_clsIn X hcd).andThen .now
  have ls : W.Looks (model prog w) hp (storeTaker? none) none := .now
  have lc : W.Looks (model prog w) hp (classData C) cd := W.looks_clsIn X hcd
  rw [W.osa_eq, refuse_eq]
  refine wpAny_bind (wpAny_bind (J.type.at (wpAny_bind (lm.at ?_))))
  rw [ownRefs_go _ _ hm]
  refine wpAny_pure (wpAny_bind (J.type.at (wpAny_bind ((W.looks_findIn X ha).at (wpAny_bind (ls.at ?_))))))
  show wpAny _ _ (storeInOwnDict (.ref x) (.ref C) (.str name tk) name v false) _ _ _
  obtain ⟨nm, bs, mro, ns, qn, hd, sn, sb, ab, col, del⟩ := cd
  dsimp only at hh
  subst hh
  unfold storeInOwnDict ownDictForStores
  repeat (first | with_reducible refine HandSPX.store_in_new ?_ ?_ | with_reducible refine wpAny_loadPart_at hx ?_ | with_reducible refine lc.at ?_ | wp_step)
  · exact ⟨_, #[], _, (Heap.get?_update_ne _ _ _ _ off.symm).trans (Heap.get?_push_at rfl rfl), rfl, fun e he => absurd he (by simp), fun _ => rfl⟩
  · intro g' tk' hn' hs
    have hx1 : (hp.push { cls := .type "dict", data := .dict #[] }).get? x = some { cls := .ref C, data := .fields fv } := Heap.get?_push_of_some _ hx
    refine hq g' tk' hp.objs.size (fun b o hb ho => ?_) (Nat.le_refl _) off.symm ?_ hn'
    · exact (hs.2 b (Nat.ne_of_lt (Heap.lt_size ho))).trans ((Heap.get?_update_ne _ _ _ _ hb).trans (Heap.get?_push_of_some _ ho))
    · exact (hs.2 x off).trans (Heap.get?_update_self _ hx1 rfl)
end
end DLX
namespace DL
open PySem PySem.Spec PyProof.Rows L2
/-- what the written part says of an own exception class -/
structure XCl (K : Fg) (C : Addr) : Prop where
  cls : ∃ nm q N bs bm sn sub ab col dd k0 k1 k2 k3 k5, K.lookup C = some (excClassObj nm q C N bs bm true sn sub ab col dd k0 k1 k2 k3 k5 "Exception.__new__") ∧ DLX.ownRefs bm = true
  sa : PySem.W.findIn K (.ref C) "__setattr__" = some (some (.builtin "object.__setattr__"))
  exC : PySem.W.subIn K (.ref C) (.type "BaseException") = some true
  tyC : PySem.W.typeIn K (.ref C) = some (.type "type")
  kC : PySem.W.keepIn K (.ref C) = true
section
variable {X : Cx} {pins : List (Addr × Obj)} {σ : Sl} {H : Hp} {s : Shared} {a C dx : Addr} {f : Str} {y : V} {u : Value} {fs : List (Str × V)} {Q : Unit → Shared → Prop} {E : Value → Shared → Prop} {A : Around}
theorem field_new (T : XCl X.K C) (I : Inv X pins σ H s) (e : H a = some (exo a C none)) (hno : PySem.W.findIn X.K (.ref C) f = some none) (ry : RelV y u)
    (h : ∀ dx s', H dx = none → dx ≠ a → Inv X pins σ (upd (upd H dx (exd dx [(f, y)])) a (exo a C (some dx))) s' → Q () s') : wpAny (model X.prog X.w) A (setAttr (.ref a) f u) Q E s := by
  obtain ⟨nm, q, N, bs, bm, sn, sub, ab, col, dd, k0, k1, k2, k3, k5, hC, hbm⟩ := T.cls
  have hcl : PySem.W.clsIn X.K C = some { name := nm, bases := bs, mro := .ref C :: bm, ns := N, qualname := q, hasDict := true, slotNames := sn, subclasses := sub, abstract := ab, collection := col, hasDel := false } := by unfold PySem.W.clsIn; rw [hC] <;> rfl
  obtain ⟨t1, ho⟩ := exo_at I.hok e
  obtain ⟨hp, g, d, t, os⟩ := s
  refine PySem.W.set_plain I.kIn (ox := { cls := .ref C, dict := none, data := .fields #[.ref t1, .none, .none, .none, .bool false, .none] }) (od := none) ⟨ho, rfl, rfl, trivial⟩ T.sa ?_
  refine DLX.keep_field I.kIn ho hcl (show DLX.ownRefs (.ref C :: bm) = true from hbm) rfl hno (fun h' tk' dx k dn dne hx hn => ?_)
  have hnd : H dx = none := I.hok.fresh dn
  have nd : ∀ {b : Addr} {o : Obj}, hp.get? b = some o → b ≠ dx := fun {b o} q => Nat.ne_of_lt (Nat.lt_of_lt_of_le (Heap.lt_size q) dn)
  have na : ∀ {b : Addr}, H b = none → b ≠ a := fun {b} n z => by rw [z, e] at n; cases n
  have U1 : Un X.fs [] H (upd (upd H dx (exd dx [(f, y)])) a (exo a C (some dx))) hp h' := {
    keep := fun b o q n _ _ => k b o (na n) q
    slot := fun b o q n _ _ => ⟨o.slots, k b o (na n) q⟩
    free := fun b o q n _ => by rw [upd_ne (na n), upd_ne (nd q)]; exact n
    there := fun b o q _ => by
      by_cases hb : b = a
      · rw [hb]; exact ⟨_, hx⟩
      · exact ⟨o, k b o hb q⟩
    tups := fun b xs q => by rw [upd_ne (at_ne e q exo_tup), upd_ne (ne_of_none q hnd)]; exact q
    frzs := fun b o v q => by rw [upd_ne (at_ne e q exo_frz), upd_ne (ne_of_none q hnd)]; exact q
    tbls := fun b ps q => ⟨#[], by rw [upd_ne (at_ne e q exo_tbl), upd_ne (ne_of_none q hnd), q]; simp⟩ }
  refine h dx _ hnd dne (I.un (t' := tk') U1 fun b o q => ?_)
  by_cases hb : b = a
  · subst hb
    rw [upd_same] at q; cases q
    exact exo_ok hx
  · rw [upd_ne hb] at q
    by_cases hd : b = dx
    · subst hd
      rw [upd_same] at q; cases q
      exact exd_ok hn (relO_put (fs := []) ry fun g => True.intro)
    · rw [upd_ne hd] at q
      exact (I.hok b o q).stay (fun c v hc z => k c v (hc.elim (fun q => by rw [q]; exact hb) fun q => at_ne e q exo_own) z)
        (fun c hc => by rw [upd_ne (at_ne e hc exo_own), upd_ne (ne_of_none hc hnd)]; exact hc) (fun c xs hc => by rw [upd_ne (at_ne e hc exo_tup), upd_ne (ne_of_none hc hnd)]; exact hc)
/-- self.f = e, in an __init__ -/
def tFld (K : Fg) (f : Str) (to te : TE) : TS := fun D σ H => te σ H fun y H1 => to σ H1 fun x H2 => ∃ a C : Addr, x = .ref a ∧ XCl K C ∧ PySem.W.findIn K (.ref C) f = some none ∧
  H2 a = some (exo a C none) ∧ ∀ dx, H2 dx = none → dx ≠ a → D.nx σ (upd (upd H2 dx (exd dx [(f, y)])) a (exo a C (some dx)))
theorem ps_fld {o e : Expr} {to te : TE} {pos p' : Pos} (ho : PE X o to) (he : PE X e te) (hs : swapsWith e (some (.Attribute o f p')) pos.line X.env = pure false := by rfl) : PS X (.Assign [.Attribute o f p'] e pos) (tFld X.K f to te) := by
  refine ⟨fun pins s σ H D I h => ?_⟩
  refine plainObj_wpAny_Assign_Attribute (thn (he.run pins s σ H _ I h) fun v s1 ⟨y, H1, I1, r1, q1⟩ => thn (ho.run pins s1 σ H1 _ I1 q1) fun u s2 ⟨x, H2, I2, r2, a, C, ex, T, hno, ea, q⟩ => ?_) hs
  subst ex
  obtain rfl : u = Value.ref a := r2
  exact field_new T I2 ea hno r1 fun dx s' n ne J => ⟨σ, _, J, q dx n ne⟩
end
/-- what an __init__ that keeps its argument as f does -/
def spI (K : Fg) (f : Str) : Sp := fun vs H Q _ => ∃ a C v, vs = [.ref a, v] ∧ XCl K C ∧ PySem.W.findIn K (.ref C) f = some none ∧ H a = some (exo a C none) ∧ ∀ dx, H dx = none → dx ≠ a → Q .non (upd (upd H dx (exd dx [(f, v)])) a (exo a C (some dx)))
section
variable {P : Program} {w : World} {K : Fg} {mg : Str → Option Value} {base : Heap}
theorem init_d {x qual f n1 n2 : Str} {st : Stmt} {fi : Addr} {fd : FuncData} {p1 p2 p3 p4 : Pos} (F : Fun K x qual st fi fd) (S : FnScope [n1, n2] [n1, n2] (defScope st)) (hb : defBody st = [.Assign [.Attribute (.Name n1 p1) f p2] (.Name n2 p3) p4])
    (k1 : (defScope st).names.lookup n1 = some .local) (k2 : (defScope st).names.lookup n2 = some .local) (d1 : (n1 == ("__debug__" : Str)) = false) (d2 : (n2 == ("__debug__" : Str)) = false) (c1 : (n1 == ("__classdict__" : Str)) = false) (c2 : (n2 == ("__classdict__" : Str)) = false)
    (hs : ∀ env : PySem.Env, env.scope = defScope st → swapsWith (.Name n2 p3) (some (.Attribute (.Name n1 p1) f p2)) p4.line env = pure false) : FnG P w K mg base 1 fi fd [n1, n2] (spI K f) := by
  refine fnG_of (k := 0) F S (fun vs H Q E ⟨a, C, v, e, _⟩ => by rw [e]; rfl) fun cdv A outer s H vs Q E hr ⟨a, C, v, e, T, hno, ea, q⟩ => ?_
  subst e
  refine ⟨_, by rw [hb]; exact pss_one (ps_fld (pe_var (i := 0) rfl (.inl k1) d1 c1) (pe_var (i := 1) rfl (.inl k2) d2 c2) (hs _ rfl)), ?_⟩
  exact ⟨v, rfl, .ref a, rfl, a, C, rfl, T, hno, ea, fun dx n ne => q dx n ne⟩
end
theorem Rm.make {k : Nat} {A : Around} (r : Rm (k + 1) A) (C : Addr) (us : List Value) (kw : List (Str × Value)) : Rm k (A.under (.builtin "type.__call__" ⟨.ref C :: us, kw⟩)) := ⟨r.rm.make C us kw, r.gd⟩
section
variable {X : Cx} {R : XP} {W : WX} {Γ : Gam} {m n : Nat} {o e a b c : Expr} {es : List Expr} {pos p : Pos} {P : Po}
/-- C(e) -/
def tMkX (C : Addr) (f : Str) (te : TE) : Sl → Hp → XK → Prop := fun σ H Q => te σ H fun v H1 => ∀ d, H1 d = none → Q (.ref C) (some d) (upd H1 d (.xd [(f, v)]))
theorem pmk_x {x f : Str} {C fI : Addr} {k : Nat} {fd : FuncData} {ps : List Str} {te : TE} (T : XCl X.K C) (iC : PySem.W.findIn X.K (.ref C) "__init__" = some (some (.ref fI))) (tI : PySem.W.typeIn X.K (.ref fI) = some (.type "function")) (hno : PySem.W.findIn X.K (.ref C) f = some none)
    (F1 : FnG X.prog X.w X.K X.mg X.base k fI fd ps (spI X.K f)) (hr : Rm (k + 1) X.A) (hb : ∀ (s : Shared) (u v : Value), BindsTo s fd ⟨[u, v], []⟩ (ps.zip [u, v])) (hg : Gl X x) (hm : X.mg x = some (.ref C)) (ha : PE X e te)
    (hdb : (x == ("__debug__" : Str)) = false := by decide) (he : starEach [e] X.env = (false, eval e X.env) :: starEach [] X.env := by rfl) (hpl : (backTo pos (starEach [] X.env)).any (·.1) = false := by rfl) :
    PMk X (.Call (.Name x p) [e] [] pos) (tMkX C f te) := by
  intro pins s σ H Q I h
  obtain ⟨nm, q, N, bs, bm, sn, sub, ab, col, dd, k0, k1, k2, k3, k5, hC, hbm⟩ := T.cls
  refine wpAny_Call_Name_kw (ld_glob I hg hm ?_ hdb)
  refine PySem.W.callWith_K (h₀ := X.base) I.ok.mod.kin T.kC (thn ((pa_cons ha pa_nil he).run pos pins s σ H (fun vs H1 => match vs with | [v] => ∀ d, H1 d = none → Q (.ref C) (some d) (upd H1 d (.xd [(f, v)])) | _ => False) I h) fun us s1 ⟨vs, H1, I1, r1, q1⟩ => ⟨I1.kIn, ?_⟩) he hpl
  obtain ⟨v, rfl⟩ : ∃ v, vs = [v] := by
    match vs, q1 with
    | [v], _ => exact ⟨v, rfl⟩
  replace q1 : ∀ d, H1 d = none → Q (.ref C) (some d) (upd H1 d (.xd [(f, v)])) := q1
  obtain ⟨u, rfl, ru⟩ := vals1 r1
  show wpAny _ _ (call (.ref C) [u]) _ _ _
  obtain ⟨hp, g, dr, tk, os⟩ := s1
  have up1 : hp.objs.size ≤ hp.objs.size + 1 := Nat.le_succ _
  have hn : H1 (hp.objs.size + 1) = none := I1.hok.fresh up1
  have kk : ∀ b o, hp.get? b = some o → ((hp.push (PySem.W.kdv_tup [u])).push (PySem.HandSPX.excO C hp.objs.size)).get? b = some o := fun b o e => Heap.get?_push_of_some _ (Heap.get?_push_of_some _ e)
  have at1 : ((hp.push (PySem.W.kdv_tup [u])).push (PySem.HandSPX.excO C hp.objs.size)).get? (hp.objs.size + 1) = some (PySem.HandSPX.excO C hp.objs.size) := by heap_get
  have I2 : Inv X pins σ (upd H1 (hp.objs.size + 1) (exo (hp.objs.size + 1) C none)) ⟨(hp.push (PySem.W.kdv_tup [u])).push (PySem.HandSPX.excO C hp.objs.size), g, dr, tk, os⟩ :=
    I1.laid (t' := tk) (a := hp.objs.size + 1) (o := exo (hp.objs.size + 1) C none) (h' := (hp.push (PySem.W.kdv_tup [u])).push (PySem.HandSPX.excO C hp.objs.size)) kk up1 (exo_ok at1)
  have r2 : Vals [V.ref (hp.objs.size + 1), v] [Value.ref (hp.objs.size + 1), u] := .cons rfl (.cons ru .nil)
  refine wpAny_call (PySem.HandSPX.call_own F.excBase_Exception (fun Y => DLX.ownRefs_has Y bm hbm) (I1.kIn _ _ hC) (PySem.W.looks_findIn I1.kIn iC) (fun self => PySem.W.bind_fn I1.kIn self tI) (by show 1 ≤ sizeLine; rw [sizeLine_eq]; omega)
    (codeAny_mono (F1.run _ X.stack _ _ ⟨[Value.ref (hp.objs.size + 1), u], []⟩ [Value.ref (hp.objs.size + 1), u] _ (fun v' H2 => v' = .non ∧ ∃ d, H2 (hp.objs.size + 1) = some (exo (hp.objs.size + 1) C (some d)) ∧ H2 d = some (exd d [(f, v)]) ∧ H1 d = none ∧ upd (del H2 (hp.objs.size + 1)) d (.xd [(f, v)]) = upd H1 d (.xd [(f, v)])) (fun _ _ _ => False) (hr.make C [u] []) (I2.env0.make C [u] []) (hb _ _ _) r2
      ⟨_, C, v, rfl, T, hno, upd_same, fun dx n ne => ?_⟩) fun r s' hq' => ?_))
  · have ndx : H1 dx = none := by rw [upd_ne ne] at n; exact n
    refine ⟨rfl, dx, upd_same, by rw [upd_ne ne, upd_same], ndx, ?_⟩
    funext b
    by_cases z : b = dx
    · rw [z, upd_same, upd_same]
    · rw [upd_ne z, upd_ne z]
      by_cases z2 : b = hp.objs.size + 1
      · rw [z2, del_same, hn]
      · rw [del_ne z2, upd_ne z2, upd_ne z, upd_ne z2]
  · cases r with
    | error er =>
      obtain ⟨_, _, _, _, _, _, _, _, _, _, _, _, z⟩ := hq'
      exact z.elim
    | ok fl =>
      cases fl with
      | ret u' =>
        obtain ⟨v', H2, os2, bare2, un2, hok2, rv, ev, d, ea, ed, hd1, eH⟩ := hq'
        subst ev
        obtain ⟨h2, g2, d2, t2, os'⟩ := s'
        exact ⟨rv, mk_end (raises_own T.exC T.tyC) I1 up1 kk un2 hok2 os2 bare2 ea ed hd1 (by rw [eH]; exact q1 d hd1)⟩
      | next => exact hq'.elim
      | brk => exact hq'.elim
      | cont => exact hq'.elim
end
end DL
set_option Elab.async false
set_option linter.all false
set_option maxRecDepth 100000
set_option maxHeartbeats 1000000
namespace DL
open PySem PySem.Spec PyProof.Rows L2
/-- a caught exception, as a thing in a slot -/
abbrev xvD (a dd : Addr) (f : Str) (d : D) : D := .dict [(.bool true, .tuple [.int (a : Nat), .int (dd : Nat), .str f, d])]
theorem rep_xv {K : Fg} {H : Hp} {v : V} {a dd : Addr} {f : Str} {d : D} (h : Rep K H v (xvD a dd f d)) : v = .ref a ∧ ∃ w, H dd = some (.xd [(f, w)]) ∧ Rep K H w d := by
  unfold xvD at h
  generalize e : (PyData.dict [(.bool true, .tuple [.int (a : Nat), .int (dd : Nat), .str f, d])]) = D0 at h
  cases h with
  | @xv a' dd' f' w d' e1 r =>
    simp at e
    obtain ⟨h1, h2, h3, h4⟩ := e
    subst h3
    subst h4
    have q1 : a = a' := by exact_mod_cast h1
    have q2 : dd = dd' := by exact_mod_cast h2
    subst q1
    subst q2
    exact ⟨rfl, w, e1, r⟩
  | dct h1 r1 =>
    cases e
    generalize hk : (PyData.bool true : D) = kk at r1
    cases r1 with
    | @cons k1 _ _ _ _ _ _ => cases k1 <;> cases hk
  | rng h1 => simp at e
  | hs h1 _ => simp at e
  | _ => cases e
section
variable {X : Cx} {R : XP} {W : WX} {Γ : Gam} {m n : Nat} {o e a b c : Expr} {es : List Expr} {pos pos' p np : Pos} {P : Po}
/-- raise C(e) -/
theorem s1_raise {x f : Str} {C fI : Addr} {j : Nat} {fd : FuncData} {ps : List Str} (hc : X.calm = true) (T : XCl X.K C) (iC : PySem.W.findIn X.K (.ref C) "__init__" = some (some (.ref fI))) (tI : PySem.W.typeIn X.K (.ref fI) = some (.type "function")) (hno : PySem.W.findIn X.K (.ref C) f = some none)
    (F1 : FnG X.prog X.w X.K X.mg X.base 1 fI fd ps (spI X.K f)) (hr : Rm j X.A) (hj : 2 ≤ j) (hb : ∀ (s : Shared) (u v : Value), BindsTo s fd ⟨[u, v], []⟩ (ps.zip [u, v])) (hm : X.mg x = some (.ref C)) (h : EV X R e Γ fun d Γ1 => R C [(f, d)] Γ1) (hg : Gl X x := by rfl)
    (hdb : (x == ("__debug__" : Str)) = false := by decide) (he : starEach [e] X.env = (false, eval e X.env) :: starEach [] X.env := by rfl) (hpl : (backTo pos (starEach [] X.env)).any (·.1) = false := by rfl) : S1 X R m (.Raise (some (.Call (.Name x p) [e] [] pos)) none pos') Γ P := fun W tk =>
  ps_weak (ps_raise hc tk (pmk_x T iC tI hno F1 (hr.mono hj) hb hg hm (pe_any (n := 0) tk) hdb he hpl)) fun D σ H ⟨fp, hE, _, _, _, _, xx⟩ =>
    Any.go h hE xx (Kt.of0 fun v d Γ1 H1 fp1 q r E1 f1 dd hdd => xx C dd [(f, d)] Γ1 σ _ fp1 q ⟨[(f, v)], upd_same, .cons (r.mono (ez_upd hdd)) .nil⟩ (E1.alloc hdd) (f1.trans (Fr.alloc0 hdd)))
/-- try: body, except C as n: suite -/
theorem s1_try_as (i : Nat) {RB : XP} {x nm : Str} {C : Addr} {body suite : List Stmt} {b0 : Stmt} (hs : X.stack = X.env :: X.outer) (hf : X.env.frame = some X.env.locals) (hN : X.N.Nodup) (hm : X.mg x = some (.ref C)) (hl : i < Γ.length)
    (hb : ∀ (pn : List (Addr × Obj)) (xe : Value → Shared → Prop), PassesOwn (model X.prog X.w) X.A X.env xe → SS (X.tr pn xe) RB m body Γ P)
    (hx : ∀ C' fs Γ', RB C' fs Γ' → ∃ b, PySem.W.exmOne X.K (.ref C') (.ref C) = some b ∧
      (b = true → ∃ f d, fs = [(f, d)] ∧ i < Γ'.length ∧ ∀ (a dd : Addr) (oe : Obj) (pn : List (Addr × Obj)), Zc (.ref C') (some dd) oe → (∃ vs, oe.data = .fields vs) → SS (X.suite a ((a, oe) :: pn)) noX m (b0 :: suite) (Γ'.set i (.pv (xvD a dd f d))) { nx := fun Γ2 => P.nx (Γ2.set i .no), rt := P.rt, bk := fun Γ2 => P.bk (Γ2.set i .no), ct := fun Γ2 => P.ct (Γ2.set i .no) }) ∧ (b = false → R C' fs Γ'))
    (hg : Gl X x := by rfl) (hdb : (x == ("__debug__" : Str)) = false := by decide) (hi : X.N[i]? = some nm := by rfl) (hln : X.env.kindOf nm = some .local := by rfl) : S1 X R m (.Try body [.ExceptHandler (some (.Name x np)) (some nm) (b0 :: suite) pos'] [] [] pos) Γ P := fun W tk =>
  ps_weak (ps_try_as (tb := fun W' => tSS X.K W' RB m Γ P)
    (ts := fun a cls d D σ H => ∃ Γ P', (∀ (oe : Obj) (pn : List (Addr × Obj)), Zc cls d oe → (∃ vs, oe.data = .fields vs) → SS (X.suite a ((a, oe) :: pn)) noX m (b0 :: suite) Γ P') ∧ tSS X.K noW noX m Γ P' D σ H) hs hf hN hi hln ⟨hg, hdb, .inl hm⟩ tk
    (fun W' pn xe tk' po => hb pn xe po W' tk')
    (fun a oe cls d pn hz hd => ⟨fun pins s σ H D I ⟨Γ', P', h1, h2⟩ => (h1 oe pn hz hd noW takes_noW).run pins s σ H D I h2⟩)) fun D σ H ⟨fp, hE, k1, k2, k3, k4, xx⟩ => by
    refine ⟨fp, hE, k1, k2, k3, k4, fun C' dd fs Γ' σ' H' fp' r hfd E' f' => ?_⟩
    obtain ⟨b, e1, hy, hn⟩ := hx C' fs Γ' r
    refine ⟨b, e1, fun hbt a na => ?_, fun hbf => xx C' dd fs Γ' σ' H' fp' (hn hbf) hfd E' f'⟩
    obtain ⟨f, d, e2, hl', hss⟩ := hy hbt
    subst e2
    obtain ⟨fv, e3, rf⟩ := hfd
    cases rf with
    | cons r1 r2 =>
      cases r2
      have rx : Rep X.K H' (.ref a) (xvD a dd f d) := .xv e3 r1
      obtain ⟨fp2, E2, sub⟩ := E'.putPv (i := i) hl' rx
      have F : Fr fp fp2 H H' := f'.sub sub
      have gone : ∀ {σ2 : Sl} {Γ2 : Gam} {H2 : Hp} {fp3 : List Addr}, Env X.K Γ2 σ2 H2 fp3 → ∃ fp4, fp4.Sublist fp3 ∧ Env X.K (Γ2.set i .no) (σ2.set i none) H2 fp4 := fun E3 => by
        obtain ⟨fp4, s4, E4⟩ := E3.1.wipe1 i none
        exact ⟨fp4, s4, E4, E3.2.sublist s4⟩
      refine ⟨_, _, fun oe pn hz hd => hss a dd oe pn hz hd, fp2, E2, fun σ2 Γ2 H2 fp3 p E3 f3 => ?_, fun v d' fv σ2 Γ2 H2 fp3 p o E3 nd f3 => k2 v d' fv σ2 Γ2 H2 fp3 p o E3 nd (F.trans f3), fun σ2 Γ2 H2 fp3 p E3 f3 => ?_, fun σ2 Γ2 H2 fp3 p E3 f3 => ?_, xc_noW⟩
      · obtain ⟨fp4, s4, E4⟩ := gone E3
        exact k1 _ _ H2 fp4 p E4 ((F.trans f3).sub fun x m => s4.subset m)
      · obtain ⟨fp4, s4, E4⟩ := gone E3
        exact k3 _ _ H2 fp4 p E4 ((F.trans f3).sub fun x m => s4.subset m)
      · obtain ⟨fp4, s4, E4⟩ := gone E3
        exact k4 _ _ H2 fp4 p E4 ((F.trans f3).sub fun x m => s4.subset m)
/-- e.f of the caught exception -/
theorem ev_xf (i : Nat) {n f : Str} {C a dd : Addr} {oe : Obj} {pn : List (Addr × Obj)} {d : D} {P : D → Gam → Prop} (T : XfC X.K C) (hno : PySem.W.findIn X.K (.ref C) f = some none) (hz : Zc (.ref C) (some dd) oe) (hf : ∃ vs, oe.data = .fields vs) (hd : Γ[i]? = some (.pv (xvD a dd f d))) (h : P d Γ)
    (hN : X.N[i]? = some n := by rfl) (hv : Vis X.env.scope n := by first | exact Or.inl rfl | exact Or.inr (Or.inl rfl) | exact Or.inr (Or.inr rfl)) (hdb : (n == ("__debug__" : Str)) = false := by decide) (hcd : (n == ("__classdict__" : Str)) = false := by decide)
    (hb : attributeBase (.Name n p) f X.env (eval (.Name n p) X.env) = eval (.Name n p) X.env := by rfl) : EV (X.suite a ((a, oe) :: pn)) R (.Attribute (.Name n p) f pos) Γ P :=
  eg_of (X := X.suite a ((a, oe) :: pn)) (pe_xf T hno hz hf (pe_var (X := X.suite a ((a, oe) :: pn)) (i := i) hN hv hdb hcd) hb) fun σ H Q fp hE k => by
    obtain ⟨v, e, r⟩ := hE.1.pvAt hd
    obtain ⟨rfl, w, e1, r1⟩ := rep_xv r
    exact ⟨.ref a, e, rfl, rfl, dd, [(f, w)], w, rfl, e1, by simp [List.lookup], k.to0 h r1 hE .refl⟩
end
end DL
set_option Elab.async false
set_option linter.all false
set_option maxRecDepth 100000
set_option maxHeartbeats 1000000
namespace DL
open PySem PySem.Spec PyProof.Rows L2
/-! ### defs whose arguments are data -/
def pfs (S : List D → D → Prop) : FS := fun Γ Q _ => ∃ ds d, Γ = ds.map .pv ∧ S ds d ∧ Q d (ds.map fun _ => .no)
def pfx (S : List D → D → Prop) (Sx : List D → Addr → List (Str × D) → Prop) : FS := fun Γ Q R => ∃ ds, Γ = ds.map .pv ∧ ((∃ d, S ds d ∧ Q d (ds.map fun _ => .no)) ∨ ∃ C fs, Sx ds C fs ∧ R C fs (ds.map fun _ => .no))
section
variable {X : Cx} {R : XP} {W : WX} {Γ : Gam} {m n : Nat} {P : Po}
theorem SS.nox {sts : List Stmt} (h : SS X noX m sts Γ P) : SS X R m sts Γ P := fun W tk =>
  pss_weak (h W tk) fun D σ H ⟨fp, hE, k1, k2, k3, k4, _⟩ => ⟨fp, hE, k1, k2, k3, k4, fun _ _ _ _ _ _ _ z => z.elim⟩
theorem SS.xim {sts : List Stmt} {R' : XP} (h : SS X R' m sts Γ P) (i : ∀ C fs Γ', R' C fs Γ' → R C fs Γ') : SS X R m sts Γ P := fun W tk =>
  pss_weak (h W tk) fun D σ H ⟨fp, hE, k1, k2, k3, k4, x⟩ => ⟨fp, hE, k1, k2, k3, k4, fun C dd fs Γ' σ' H' fp' z => x C dd fs Γ' σ' H' fp' (i _ _ _ z)⟩
theorem sh_pv : ∀ {ds : List D} {Γ' : Gam}, ds.length ≤ Γ'.length → sh (ds.map .pv) Γ' = ds.map fun _ => .no
  | [], Γ', _ => by cases Γ' <;> rfl
  | d :: ds, [], h => by simp at h
  | d :: ds, s :: Γ', h => by
    have := sh_pv (ds := ds) (Γ' := Γ') (by simpa using h)
    show sh (.pv d :: ds.map .pv) (s :: Γ') = .no :: ds.map fun _ => .no
    rw [← this]; rfl
end
section
variable {P : Program} {w : World} {K : Fg} {mg : Str → Option Value} {base : Heap}
/-- what is asked of a body whose arguments are data -/
def BodyP (P : Program) (w : World) (K : Fg) (mg : Str → Option Value) (base : Heap) (k : Nat) (N ps : List Str) (st : Stmt) (n : Nat) (ds : List D) (Q : D → Prop) (R : Addr → List (Str × D) → Prop) : Prop :=
  ∀ (qual : Str) (f : Addr) (cdv : Value) (A : Around) (outer : List PySem.Env) (s : Shared) (H : Hp) (E : XK), Rm k (cx P w K mg base N qual (defScope st) f cdv A outer s H E).A →
    SS (cx P w K mg base N qual (defScope st) f cdv A outer s H E) (fun C fs Γ' => ps.length ≤ Γ'.length ∧ R C fs) n (defBody st) (ds.map .pv ++ List.replicate (N.length - ps.length) .no) { nx := fun Γ' => ps.length ≤ Γ'.length ∧ Q .none, rt := fun d' Γ' => ps.length ≤ Γ'.length ∧ Q d' }
theorem body_ret {X : Cx} {R : XP} {sts : List Stmt} {ps : List Str} {Γ0 : Gam} {n : Nat} {ds : List D} {d : D} {Q : D → Gam → Prop} (len : ds.length = ps.length) (h : SS X (fun C fs Γ' => ps.length ≤ Γ'.length ∧ False) n sts Γ0 { nx := fun Γ' => ps.length ≤ Γ'.length ∧ PyData.none = d, rt := fun d' Γ' => ps.length ≤ Γ'.length ∧ d' = d }) (q : Q d (ds.map fun _ => .no)) :
    SS X R n sts Γ0 (fin (ds.map .pv) Q) := by
  refine SS.xim (R' := fun C fs Γ' => ps.length ≤ Γ'.length ∧ False) (SS.imp (P' := fin (ds.map .pv) Q) h ?_ ?_ ?_ ?_) ?_
  · intro Γ' ⟨z, e⟩
    refine ⟨by rw [List.length_map, len]; exact z, ?_⟩
    rw [sh_pv (by rw [len]; exact z)]
    exact e ▸ q
  · intro d' Γ' ⟨z, e⟩
    refine ⟨by rw [List.length_map, len]; exact z, ?_⟩
    rw [sh_pv (by rw [len]; exact z), e]; exact q
  · intro Γ' z; exact z
  · intro Γ' z; exact z
  · intro C' fs' Γ' ⟨_, z⟩; exact z.elim
theorem df_p {x qual : Str} {st : Stmt} {f : Addr} {fd : FuncData} {N ps : List Str} {k n : Nat} {S : List D → D → Prop} (F : Fun K x qual st f fd) (S0 : FnScope N ps (defScope st)) (hm : mg x = some (.ref f))
    (bd : ∀ (qual : Str) (kV doc pm : Value) (an : Option Addr) (cdv ct : Value) (us : List Value), us.length = ps.length → bindArgs (PySem.W.fnOf x qual (defArgs st) (defBody st) (defScope st) .none kV doc pm an cdv ct) ⟨us, []⟩ = pure (ps.zip us))
    (hl : ∀ ds d, S ds d → ds.length = ps.length) (hb : ∀ ds d, S ds d → BodyP P w K mg base k N ps st n ds (fun d' => d' = d) (fun _ _ => False)) : Df P w K mg base (k + 1) x st ps n (pfs S) := by
  refine ⟨⟨qual, f, fd, F, fn_d F S0 (fun Γ Q R ⟨ds, d, e, h, _⟩ => by rw [e, List.length_map]; exact hl ds d h) fun cdv A outer s H E Γ Q R hr ⟨ds, d, e, h, q⟩ => ?_, hm⟩, bd⟩
  subst e
  exact body_ret (hl ds d h) (hb ds d h qual f cdv A outer s H E hr) q
theorem df_x {x qual : Str} {st : Stmt} {f : Addr} {fd : FuncData} {N ps : List Str} {k n : Nat} {S : List D → D → Prop} {Sx : List D → Addr → List (Str × D) → Prop} (F : Fun K x qual st f fd) (S0 : FnScope N ps (defScope st)) (hm : mg x = some (.ref f))
    (bd : ∀ (qual : Str) (kV doc pm : Value) (an : Option Addr) (cdv ct : Value) (us : List Value), us.length = ps.length → bindArgs (PySem.W.fnOf x qual (defArgs st) (defBody st) (defScope st) .none kV doc pm an cdv ct) ⟨us, []⟩ = pure (ps.zip us))
    (hl : ∀ ds d, S ds d → ds.length = ps.length) (hlx : ∀ ds C fs, Sx ds C fs → ds.length = ps.length) (hb : ∀ ds d, S ds d → BodyP P w K mg base k N ps st n ds (fun d' => d' = d) (fun _ _ => False))
    (hbx : ∀ ds C fs, Sx ds C fs → BodyP P w K mg base k N ps st n ds (fun _ => False) (fun C' fs' => C' = C ∧ fs' = fs)) : Df P w K mg base (k + 1) x st ps n (pfx S Sx) := by
  refine ⟨⟨qual, f, fd, F, fn_d F S0 (fun Γ Q R ⟨ds, e, h⟩ => by
    rw [e, List.length_map]
    rcases h with ⟨d, h, _⟩ | ⟨C, fs, h, _⟩
    · exact hl ds d h
    · exact hlx ds C fs h) fun cdv A outer s H E Γ Q R hr ⟨ds, e, h⟩ => ?_, hm⟩, bd⟩
  subst e
  rcases h with ⟨d, h, q⟩ | ⟨C, fs, h, q⟩
  · exact body_ret (hl ds d h) (hb ds d h qual f cdv A outer s H E hr) q
  · have len := hlx ds C fs h
    refine SS.xim (R' := fun C' fs' Γ' => ps.length ≤ Γ'.length ∧ C' = C ∧ fs' = fs) (SS.imp (P' := fin (ds.map .pv) Q) (hbx ds C fs h qual f cdv A outer s H E hr) ?_ ?_ ?_ ?_) ?_
    · intro Γ' ⟨_, z⟩; exact z.elim
    · intro d' Γ' ⟨_, z⟩; exact z.elim
    · intro Γ' z; exact z
    · intro Γ' z; exact z
    · intro C' fs' Γ' ⟨z, e1, e2⟩
      refine ⟨by rw [List.length_map, len]; exact z, ?_⟩
      rw [sh_pv (by rw [len]; exact z), e1, e2]; exact q
end
section
variable {X : Cx} {R : XP} {W : WX} {Γ : Gam} {m n : Nat} {e a b c : Expr} {es : List Expr} {kws : List Keyword} {pos p : Pos} {P : D → Gam → Prop}
theorem resA_pv {Γ1 : Gam} : ∀ ds : List D, resA Γ1 (ds.map .pv) = some (ds.map .pv)
  | [] => rfl
  | d :: ds => by
    show (resA Γ1 (ds.map .pv)).map (SV.pv d :: ·) = _
    rw [resA_pv ds]; rfl
theorem updA_pv {Γ1 : Gam} : ∀ (ds : List D) (Γ' : Gam), updA Γ1 (ds.map .pv) Γ' = Γ1
  | [], Γ' => by cases Γ' <;> rfl
  | d :: ds, [] => rfl
  | d :: ds, s :: Γ' => by
    show updA Γ1 (ds.map .pv) Γ' = Γ1
    exact updA_pv ds Γ'
/-- f(e, ..) of data -/
theorem eg_callP {k j : Nat} {x : Str} {st : Stmt} {ps : List Str} {S : List D → D → Prop} (F : Df X.prog X.w X.K X.mg X.base k x st ps n (pfs S)) (hr : Rm j X.A) (hk : k ≤ j)
    (h : EA X R (e :: es) Γ fun as Γ1 => ∃ ds d, as = ds.map AV.pv ∧ ds.length = ps.length ∧ S ds d ∧ P d Γ1)
    (hg : Gl X x := by rfl) (hdb : (x == ("__debug__" : Str)) = false := by decide) (he : starEach (e :: es) X.env = (false, eval e X.env) :: starEach es X.env := by rfl) (hpl : (backTo pos (starEach es X.env)).any (·.1) = false := by rfl) :
    EG X R n (.Call (.Name x p) (e :: es) [] pos) Γ P :=
  eg_call F hr hk (h.imp fun as Γ1 ⟨ds, d, e1, hl, s, q⟩ => by
    subst e1
    exact ⟨by rw [List.length_map, hl], ds.map .pv, resA_pv ds, ds, d, rfl, s, by simp only [updA_pv]; exact q⟩) hg hdb he hpl
theorem eg_callX {k j : Nat} {x : Str} {st : Stmt} {ps : List Str} {S : List D → D → Prop} {Sx : List D → Addr → List (Str × D) → Prop} (F : Df X.prog X.w X.K X.mg X.base k x st ps n (pfx S Sx)) (hr : Rm j X.A) (hk : k ≤ j)
    (h : EA X R (e :: es) Γ fun as Γ1 => ∃ ds, as = ds.map AV.pv ∧ ds.length = ps.length ∧ ((∃ d, S ds d ∧ P d Γ1) ∨ ∃ C fs, Sx ds C fs ∧ R C fs Γ1))
    (hg : Gl X x := by rfl) (hdb : (x == ("__debug__" : Str)) = false := by decide) (he : starEach (e :: es) X.env = (false, eval e X.env) :: starEach es X.env := by rfl) (hpl : (backTo pos (starEach es X.env)).any (·.1) = false := by rfl) :
    EG X R n (.Call (.Name x p) (e :: es) [] pos) Γ P :=
  eg_call F hr hk (h.imp fun as Γ1 ⟨ds, e1, hl, q⟩ => by
    subst e1
    refine ⟨by rw [List.length_map, hl], ds.map .pv, resA_pv ds, ds, rfl, ?_⟩
    simp only [updA_pv]
    exact q) hg hdb he hpl
theorem pick_pv : ∀ (ix : List Nat) (ds : List D), pick ix (ds.map AV.pv) = (pick ix ds).map AV.pv
  | [], _ => rfl
  | i :: ix, ds => by
    have ih := pick_pv ix ds
    unfold DL.pick at ih ⊢
    rw [List.filterMap_cons, List.filterMap_cons, List.getElem?_map]
    cases ds[i]? with
    | none => exact ih
    | some d =>
      show AV.pv d :: _ = AV.pv d :: _
      rw [ih]
theorem eg_callKX {k j : Nat} {x : Str} {st : Stmt} {ps ks : List Str} {S : List D → D → Prop} {Sx : List D → Addr → List (Str × D) → Prop} (F : Df X.prog X.w X.K X.mg X.base k x st ps n (pfx S Sx)) (hr : Rm j X.A) (hk : k ≤ j) (ix : List Nat)
    (hbd : ∀ (qual : Str) (kV doc pm : Value) (an : Option Addr) (cdv ct : Value) (us : List Value), us.length = ks.length → bindArgs (PySem.W.fnOf x qual (defArgs st) (defBody st) (defScope st) .none kV doc pm an cdv ct) ⟨[], ks.zip us⟩ = pure (ps.zip (pick ix us)))
    (hlk : kws.length = ks.length)
    (h : EK X R kws Γ fun as Γ1 => ∃ ds, as = ds.map AV.pv ∧ ds.length = ks.length ∧ (pick ix ds).length = ps.length ∧ ((∃ d, S (pick ix ds) d ∧ P d Γ1) ∨ ∃ C fs, Sx (pick ix ds) C fs ∧ R C fs Γ1))
    (hg : Gl X x := by rfl) (hdb : (x == ("__debug__" : Str)) = false := by decide) (hall : (backToKw pos (keywordEach kws X.env)).all (·.1.isSome) = true := by rfl) (hks : (backToKw pos (keywordEach kws X.env)).filterMap (·.1) = ks := by rfl)
    (hpl : ((backTo pos (starEach [] X.env)).any (·.1) || (backToKw pos (keywordEach kws X.env)).any (·.1.isNone)) = false := by rfl) :
    EG X R n (.Call (.Name x p) [] kws pos) Γ P := by
  refine eg_callK F hr hk ix hbd hlk (fun W tk => pk_weak (h W tk) fun σ H Q ⟨fp, hE, k, x⟩ => ⟨fp, hE, fun vs as Γ' H' fp' ⟨ds, e1, l1, l2, q⟩ => k vs as Γ' H' fp' ?_, x⟩) hg hdb hall hks hpl
  subst e1
  rw [pick_pv]
  refine ⟨by rw [List.length_map, l1], by rw [List.length_map, l2], (pick ix ds).map .pv, resA_pv _, pick ix ds, rfl, ?_⟩
  simp only [updA_pv]
  exact q
end
end DL
set_option Elab.async false
set_option linter.all false
set_option maxRecDepth 100000
set_option maxHeartbeats 1000000
namespace DL
open PySem PySem.Spec PyProof.Rows L2
theorem lt_ok {a b : Nat} (h : Nat.blt a b = true) : a < b := Nat.le_of_ble_eq_true h
theorem le_ok {a b : Nat} (h : Nat.ble a b = true) : a ≤ b := Nat.le_of_ble_eq_true h
/-! ### defs with an answer that is told by a law only -/
def pfq (Pre : List D → Prop) (Post : List D → D → Prop) : FS := fun Γ Q _ => ∃ ds, Γ = ds.map .pv ∧ Pre ds ∧ ∀ d, Post ds d → Q d (ds.map fun _ => .no)
section
variable {P : Program} {w : World} {K : Fg} {mg : Str → Option Value} {base : Heap}
theorem df_q {x qual : Str} {st : Stmt} {f : Addr} {fd : FuncData} {N ps : List Str} {k n : Nat} {Pre : List D → Prop} {Post : List D → D → Prop} (F : Fun K x qual st f fd) (S0 : FnScope N ps (defScope st)) (hm : mg x = some (.ref f))
    (bd : ∀ (qual : Str) (kV doc pm : Value) (an : Option Addr) (cdv ct : Value) (us : List Value), us.length = ps.length → bindArgs (PySem.W.fnOf x qual (defArgs st) (defBody st) (defScope st) .none kV doc pm an cdv ct) ⟨us, []⟩ = pure (ps.zip us))
    (hl : ∀ ds, Pre ds → ds.length = ps.length) (hb : ∀ ds, Pre ds → BodyP P w K mg base k N ps st n ds (fun d' => Post ds d') (fun _ _ => False)) : Df P w K mg base (k + 1) x st ps n (pfq Pre Post) := by
  refine ⟨⟨qual, f, fd, F, fn_d F S0 (fun Γ Q R ⟨ds, e, h, _⟩ => by rw [e, List.length_map]; exact hl ds h) fun cdv A outer s H E Γ Q R hr ⟨ds, e, h, q⟩ => ?_, hm⟩, bd⟩
  subst e
  have len := hl ds h
  refine SS.xim (R' := fun C fs Γ' => ps.length ≤ Γ'.length ∧ False) (SS.imp (P' := fin (ds.map .pv) Q) (hb ds h qual f cdv A outer s H E hr) ?_ ?_ ?_ ?_) ?_
  · intro Γ' ⟨z, e⟩
    refine ⟨by rw [List.length_map, len]; exact z, ?_⟩
    rw [sh_pv (by rw [len]; exact z)]
    exact q _ e
  · intro d' Γ' ⟨z, e⟩
    refine ⟨by rw [List.length_map, len]; exact z, ?_⟩
    rw [sh_pv (by rw [len]; exact z)]; exact q _ e
  · intro Γ' z; exact z
  · intro Γ' z; exact z
  · intro C' fs' Γ' ⟨_, z⟩; exact z.elim
end
section
variable {X : Cx} {R : XP} {W : WX} {Γ : Gam} {m n : Nat} {tg iter elt e a b c : Expr} {es : List Expr} {kws : List Keyword} {pos p : Pos} {P : D → Gam → Prop} {scope : Scope} {ifs : List Expr} {vs : List Nat}
theorem eg_callQ {k j : Nat} {x : Str} {st : Stmt} {ps : List Str} {Pre : List D → Prop} {Post : List D → D → Prop} (F : Df X.prog X.w X.K X.mg X.base k x st ps n (pfq Pre Post)) (hr : Rm j X.A) (hk : k ≤ j)
    (h : EA X R (e :: es) Γ fun as Γ1 => ∃ ds, as = ds.map AV.pv ∧ ds.length = ps.length ∧ Pre ds ∧ ∀ d, Post ds d → P d Γ1)
    (hg : Gl X x := by rfl) (hdb : (x == ("__debug__" : Str)) = false := by decide) (he : starEach (e :: es) X.env = (false, eval e X.env) :: starEach es X.env := by rfl) (hpl : (backTo pos (starEach es X.env)).any (·.1) = false := by rfl) :
    EG X R n (.Call (.Name x p) (e :: es) [] pos) Γ P :=
  eg_call F hr hk (h.imp fun as Γ1 ⟨ds, e1, hl, s, q⟩ => by
    subst e1
    exact ⟨by rw [List.length_map, hl], ds.map .pv, resA_pv ds, ds, rfl, s, fun d hd => by simp only [updA_pv]; exact q d hd⟩) hg hdb he hpl
theorem eg_callKP {k j : Nat} {x : Str} {st : Stmt} {ps ks : List Str} {S : List D → D → Prop} (F : Df X.prog X.w X.K X.mg X.base k x st ps n (pfs S)) (hr : Rm j X.A) (hk : k ≤ j) (ix : List Nat)
    (hbd : ∀ (qual : Str) (kV doc pm : Value) (an : Option Addr) (cdv ct : Value) (us : List Value), us.length = ks.length → bindArgs (PySem.W.fnOf x qual (defArgs st) (defBody st) (defScope st) .none kV doc pm an cdv ct) ⟨[], ks.zip us⟩ = pure (ps.zip (pick ix us)))
    (hlk : kws.length = ks.length)
    (h : EK X R kws Γ fun as Γ1 => ∃ ds d, as = ds.map AV.pv ∧ ds.length = ks.length ∧ (pick ix ds).length = ps.length ∧ S (pick ix ds) d ∧ P d Γ1)
    (hg : Gl X x := by rfl) (hdb : (x == ("__debug__" : Str)) = false := by decide) (hall : (backToKw pos (keywordEach kws X.env)).all (·.1.isSome) = true := by rfl) (hks : (backToKw pos (keywordEach kws X.env)).filterMap (·.1) = ks := by rfl)
    (hpl : ((backTo pos (starEach [] X.env)).any (·.1) || (backToKw pos (keywordEach kws X.env)).any (·.1.isNone)) = false := by rfl) :
    EG X R n (.Call (.Name x p) [] kws pos) Γ P := by
  refine eg_callK F hr hk ix hbd hlk (fun W tk => pk_weak (h W tk) fun σ H Q ⟨fp, hE, k, x⟩ => ⟨fp, hE, fun vs as Γ' H' fp' ⟨ds, d, e1, l1, l2, s, q⟩ => k vs as Γ' H' fp' ?_, x⟩) hg hdb hall hks hpl
  subst e1
  rw [pick_pv]
  refine ⟨by rw [List.length_map, l1], by rw [List.length_map, l2], (pick ix ds).map .pv, resA_pv _, pick ix ds, d, rfl, s, ?_⟩
  simp only [updA_pv]
  exact q
/-- a comprehension whose items are worked out one by one, the slots around them untouched -/
theorem lci_map {ds : List D} {Γ1 Γw : Gam} (f : Nat → D → D) (hl : ds.length ≤ 16777216) (hw : wipeG Γ1 vs = Γw) (hr : restore Γ1 Γw vs = Γ1) (hP : P (.list (ds.mapIdx f)) Γ1)
    (h : ∀ i d, ds[i]? = some d → ∀ s H C cl fp, GT (bx X scope s H C cl fp) vs tg d Γw fun Γ3 => ∀ s H C cl fp, EG (bx X scope s H C cl fp) noX n elt Γ3 fun e Γ5 => e = f i d ∧ wipeG Γ5 vs = Γw) :
    LcI X scope vs n tg elt [] P ds Γ1 := by
  refine ⟨fun i acc Γ => i ≤ ds.length ∧ acc = (ds.take i).mapIdx f ∧ Γ = Γw, hl, ⟨Nat.zero_le _, by simp, hw⟩, fun i d acc Γ2 hd _ ⟨hi, e1, e2⟩ s H C cl fp => ?_, fun acc Γ2 ⟨_, e1, e2⟩ => ?_⟩
  · subst e1
    subst e2
    refine pg_weak (h i d hd s H C cl fp) fun v σ H Q ⟨r, fp, hE, k⟩ => ⟨r, fp, hE, fun σ' Γ' H' fp' p => k σ' Γ' H' fp' fun s H C cl fp => ?_⟩
    refine ⟨fun _ s H C cl fp => (p s H C cl fp).imp fun e Γ5 ⟨q1, q2⟩ => ⟨?_, ?_, q2⟩, fun z => nomatch z⟩
    · exact (List.getElem?_eq_some_iff.mp hd).1
    · have lt := (List.getElem?_eq_some_iff.mp hd).1
      rw [List.take_add_one, hd, q1]
      simp [List.mapIdx_append, Nat.min_eq_left (Nat.le_of_lt lt)]
  · subst e2
    rw [e1, List.take_length, hr]
    exact hP
theorem lci_mapR {ds : List D} {Γ1 Γw : Gam} (f : Nat → D → D) (hl : ds.length ≤ 16777216) (hw : wipeG Γ1 vs = Γw) (hP : P (.list (ds.mapIdx f)) (restore Γ1 Γw vs))
    (h : ∀ i d, ds[i]? = some d → ∀ s H C cl fp, GT (bx X scope s H C cl fp) vs tg d Γw fun Γ3 => ∀ s H C cl fp, EG (bx X scope s H C cl fp) noX n elt Γ3 fun e Γ5 => e = f i d ∧ wipeG Γ5 vs = Γw) :
    LcI X scope vs n tg elt [] P ds Γ1 := by
  refine ⟨fun i acc Γ => i ≤ ds.length ∧ acc = (ds.take i).mapIdx f ∧ Γ = Γw, hl, ⟨Nat.zero_le _, by simp, hw⟩, fun i d acc Γ2 hd _ ⟨hi, e1, e2⟩ s H C cl fp => ?_, fun acc Γ2 ⟨_, e1, e2⟩ => ?_⟩
  · subst e1
    subst e2
    refine pg_weak (h i d hd s H C cl fp) fun v σ H Q ⟨r, fp, hE, k⟩ => ⟨r, fp, hE, fun σ' Γ' H' fp' p => k σ' Γ' H' fp' fun s H C cl fp => ?_⟩
    refine ⟨fun _ s H C cl fp => (p s H C cl fp).imp fun e Γ5 ⟨q1, q2⟩ => ⟨?_, ?_, q2⟩, fun z => nomatch z⟩
    · exact (List.getElem?_eq_some_iff.mp hd).1
    · have lt := (List.getElem?_eq_some_iff.mp hd).1
      rw [List.take_add_one, hd, q1]
      simp [List.mapIdx_append, Nat.min_eq_left (Nat.le_of_lt lt)]
  · subst e2
    rw [e1, List.take_length]
    exact hP
/-- one with a test -/
theorem lci_filter {ds : List D} {Γ1 Γw : Gam} (f : D → D) (t : D → Bool) {c : Expr} (hl : ds.length ≤ 16777216) (hw : wipeG Γ1 vs = Γw) (hr : restore Γ1 Γw vs = Γ1) (hP : P (.list ((ds.filter t).map f)) Γ1)
    (h : ∀ (i : Nat) d, ds[i]? = some d → ∀ s H C cl fp, GT (bx X scope s H C cl fp) vs tg d Γw fun Γ3 => ∀ s H C cl fp, ET (bx X scope s H C cl fp) noX c Γ3 fun b Γ4 => b = t d ∧ wipeG Γ4 vs = Γw ∧ (b = true → ∀ s H C cl fp, EG (bx X scope s H C cl fp) noX n elt Γ4 fun e Γ5 => e = f d ∧ wipeG Γ5 vs = Γw)) :
    LcI X scope vs n tg elt [c] P ds Γ1 := by
  refine ⟨fun i acc Γ => i ≤ ds.length ∧ acc = ((ds.take i).filter t).map f ∧ Γ = Γw, hl, ⟨Nat.zero_le _, by simp, hw⟩, fun i d acc Γ2 hd _ ⟨hi, e1, e2⟩ s H C cl fp => ?_, fun acc Γ2 ⟨_, e1, e2⟩ => ?_⟩
  · subst e1
    subst e2
    have lt := (List.getElem?_eq_some_iff.mp hd).1
    refine pg_weak (h i d hd s H C cl fp) fun v σ H Q ⟨r, fp, hE, k⟩ => ⟨r, fp, hE, fun σ' Γ' H' fp' p => k σ' Γ' H' fp' fun s H C cl fp => ?_⟩
    refine ET.imp (p s H C cl fp) fun b Γ4 ⟨q1, q2, q3⟩ => ⟨fun hb s H C cl fp => (q3 hb s H C cl fp).imp fun e Γ5 ⟨q4, q5⟩ => ⟨lt, ?_, q5⟩, fun hb => ⟨lt, ?_, q2⟩⟩
    · rw [List.take_add_one, hd, q4]
      simp [← q1, hb]
    · rw [List.take_add_one, hd]
      simp [← q1, hb]
  · subst e2
    rw [e1, List.take_length, hr]
    exact hP
end
/-- the same, the slots behind as they come -/
theorem lci_filterR {X : Cx} {scope : Scope} {vs : List Nat} {n : Nat} {tg elt : Expr} {P : D → Gam → Prop} {ds : List D} {Γ1 Γw : Gam} (f : D → D) (t : D → Bool) {c : Expr} (hl : ds.length ≤ 16777216) (hw : wipeG Γ1 vs = Γw) (hP : P (.list ((ds.filter t).map f)) (restore Γ1 Γw vs))
    (h : ∀ (i : Nat) d, ds[i]? = some d → ∀ s H C cl fp, GT (bx X scope s H C cl fp) vs tg d Γw fun Γ3 => ∀ s H C cl fp, ET (bx X scope s H C cl fp) noX c Γ3 fun b Γ4 => b = t d ∧ wipeG Γ4 vs = Γw ∧ (b = true → ∀ s H C cl fp, EG (bx X scope s H C cl fp) noX n elt Γ4 fun e Γ5 => e = f d ∧ wipeG Γ5 vs = Γw)) :
    LcI X scope vs n tg elt [c] P ds Γ1 := by
  refine ⟨fun i acc Γ => i ≤ ds.length ∧ acc = ((ds.take i).filter t).map f ∧ Γ = Γw, hl, ⟨Nat.zero_le _, by simp, hw⟩, fun i d acc Γ2 hd _ ⟨hi, e1, e2⟩ s H C cl fp => ?_, fun acc Γ2 ⟨_, e1, e2⟩ => ?_⟩
  · subst e1
    subst e2
    have lt := (List.getElem?_eq_some_iff.mp hd).1
    refine pg_weak (h i d hd s H C cl fp) fun v σ H Q ⟨r, fp, hE, k⟩ => ⟨r, fp, hE, fun σ' Γ' H' fp' p => k σ' Γ' H' fp' fun s H C cl fp => ?_⟩
    refine ET.imp (p s H C cl fp) fun b Γ4 ⟨q1, q2, q3⟩ => ⟨fun hb s H C cl fp => (q3 hb s H C cl fp).imp fun e Γ5 ⟨q4, q5⟩ => ⟨lt, ?_, q5⟩, fun hb => ⟨lt, ?_, q2⟩⟩
    · rw [List.take_add_one, hd, q4]
      simp [← q1, hb]
    · rw [List.take_add_one, hd]
      simp [← q1, hb]
  · subst e2
    rw [e1, List.take_length]
    exact hP
theorem mapIdx_const {α β : Type} {f : α → β} {l : List α} : l.mapIdx (fun _ x => f x) = l.map f := by
  induction l with
  | nil => rfl
  | cons a l ih => simp [List.mapIdx_cons, ih]

theorem rngD_eq (n : Nat) : rngD 0 n = ((List.range n).map Int.ofNat).map .int := by
  unfold rngD
  rw [List.map_map]
  simp [Function.comp_def]
theorem sorted_range (n : Nat) : ((List.range n).map Int.ofNat).Pairwise (· ≤ ·) := by
  rw [List.pairwise_map]
  exact (List.pairwise_lt_range (n := n)).imp fun h => Int.ofNat_le.mpr (Nat.le_of_lt h)
theorem mapIdx_at {α β γ : Type} (L : List α) (e : α → β) (g : α → γ) (a : α) : (L.map e).mapIdx (fun k _ => g (L[k]?.getD a)) = L.map g := by
  apply List.ext_getElem?
  intro q
  by_cases hq : q < L.length
  · simp [hq]
  · simp [List.getElem?_eq_none (Nat.le_of_not_lt hq)]
/-! ### tables -/
def rowD (r : List Int) : D := .tuple (r.map .int)
def tb (T : List (List Int)) : D := .tuple (T.map rowD)
theorem eqvAll_ints : ∀ l : List Int, PyData.eqvAll (l.map .int) (l.map .int) = true
  | [] => rfl
  | x :: l => by
    show (PyData.eqv (.int x) (.int x) && PyData.eqvAll (l.map .int) (l.map .int)) = true
    rw [eqvAll_ints l]; simp [PyData.eqv]
theorem canLay_ints : ∀ l : List Int, PyData.canLayAll0 (l.map .int) = true
  | [] => rfl
  | x :: l => by
    show (PyData.canLay0 (.int x) && PyData.canLayAll0 (l.map .int)) = true
    rw [canLay_ints l]; rfl
theorem depth_ints : ∀ l : List Int, PyData.depthAll (l.map .int) = 0
  | [] => rfl
  | x :: l => by
    show max (PyData.depth (.int x)) (PyData.depthAll (l.map .int)) = 0
    rw [depth_ints l]; rfl
theorem shaped_ints (l : List Int) : SeqAt.shaped (.list (l.map .int)) = true := by
  unfold SeqAt.shaped
  rw [show PyData.canLay0 (.list (l.map .int)) = PyData.canLayAll0 (l.map .int) from by simp [PyData.canLay0], canLay_ints, show PyData.depth (.list (l.map .int)) = PyData.depthAll (l.map .int) + 1 from by simp [PyData.depth], depth_ints]
  rfl
end DL
set_option Elab.async false
set_option linter.all false
set_option maxRecDepth 100000
set_option maxHeartbeats 1000000
namespace DL
open PySem PySem.Spec PyProof.Rows L2
section
variable {P : Program} {w : World} {K : Fg} {mg : Str → Option Value} {base : Heap}
def BodyF (P : Program) (w : World) (K : Fg) (mg : Str → Option Value) (base : Heap) (k : Nat) (N ps : List Str) (st : Stmt) (n : Nat) (Γ : Gam) (Q : D → Gam → Prop) (R : XP) : Prop :=
  ∀ (qual : Str) (f : Addr) (cdv : Value) (A : Around) (outer : List PySem.Env) (s : Shared) (H : Hp) (E : XK), Rm k (cx P w K mg base N qual (defScope st) f cdv A outer s H E).A →
    SS (cx P w K mg base N qual (defScope st) f cdv A outer s H E) (finX Γ R) n (defBody st) (Γ ++ List.replicate (N.length - ps.length) .no) (fin Γ Q)
theorem df_f {x qual : Str} {st : Stmt} {f : Addr} {fd : FuncData} {N ps : List Str} {k n : Nat} {fs : FS} (F : Fun K x qual st f fd) (S0 : FnScope N ps (defScope st)) (hm : mg x = some (.ref f))
    (bd : ∀ (qual : Str) (kV doc pm : Value) (an : Option Addr) (cdv ct : Value) (us : List Value), us.length = ps.length → bindArgs (PySem.W.fnOf x qual (defArgs st) (defBody st) (defScope st) .none kV doc pm an cdv ct) ⟨us, []⟩ = pure (ps.zip us))
    (nn : ∀ Γ Q R, fs Γ Q R → Γ.length = ps.length) (hb : ∀ Γ Q R, fs Γ Q R → BodyF P w K mg base k N ps st n Γ Q R) : Df P w K mg base (k + 1) x st ps n fs :=
  ⟨⟨qual, f, fd, F, fn_d F S0 nn fun cdv A outer s H E Γ Q R hr h => hb Γ Q R h qual f cdv A outer s H E hr, hm⟩, bd⟩
end
theorem S1.nxi {X : Cx} {R : XP} {m : Nat} {st : Stmt} {Γ : Gam} {P : Po} {N : Gam → Prop} (h : S1 X R m st Γ { P with nx := N }) (i : ∀ Γ', N Γ' → P.nx Γ') : S1 X R m st Γ P := fun W tk =>
  ps_weak (h W tk) fun D σ H ⟨fp, hE, k1, k2⟩ => ⟨fp, hE, fun σ' Γ' H' fp' p => k1 σ' Γ' H' fp' (i Γ' p), k2⟩
theorem sh_ow {v : V} {n n' : Nat} {d d' : D} {Γ Γ' : Gam} : sh (.ow v n d :: Γ) (.ow v n' d' :: Γ') = .ow v n' d' :: sh Γ Γ' := by simp [sh]
theorem sh_pvs {d : D} {s : SV} {Γ Γ' : Gam} : sh (.pv d :: Γ) (s :: Γ') = .no :: sh Γ Γ' := rfl
theorem sh_nil {Γ' : Gam} : sh [] Γ' = [] := by cases Γ' <;> rfl
theorem resA_sl {Γ : Gam} {j : Nat} {v : V} {n : Nat} {d : D} {ds : List D} (h : Γ[j]? = some (.ow v n d)) : resA Γ (.sl j :: ds.map .pv) = some (.ow v n d :: ds.map .pv) := by
  unfold resA
  rw [h]
  show (resA (Γ.set j .no) (ds.map .pv)).map _ = _
  rw [resA_pv]; rfl
theorem updA_sl {Γ : Gam} {j : Nat} {s : SV} {ds : List D} {Γ' : Gam} : updA Γ (.sl j :: ds.map .pv) (s :: Γ') = Γ.set j s := by
  show (updA (Γ.set j .no) (ds.map .pv) Γ').set j s = _
  rw [updA_pv, List.set_set]
end DL
set_option Elab.async false
set_option linter.all false
set_option maxRecDepth 100000
set_option maxHeartbeats 1000000
namespace DL
open PySem PySem.Spec PyProof.Rows L2
section
variable {P : Program} {w : World} {K : Fg} {mg : Str → Option Value} {base : Heap}
/-- the law is called -/
theorem lawH_call {mb : Str → Option Value} {k : Nat} {fa a : Addr} {fd : FuncData} {x : Str} {sp : Sp} {s₁ : Shared} {vs : List Value} {ns : List Int} {cs : List (Addr × Addr)}
    (KX : K.In s₁.heap) (hns : s₁.heap.Ns mainGlobals mg) (hb : s₁.heap.Ns builtinsNs mb) (hbb : ∀ x : Str, x ≠ "__name__" → mb x = bootBuiltins x) (hlim : s₁.heap.NoLimit) (hg : s₁.gens = #[])
    (hT : ∀ p ∈ cs, s₁.heap.get? p.2 = some { cls := .none, data := .fields #[] }) (nT : ∀ p ∈ cs, K.lookup p.2 = none) (C : ∀ p ∈ cs, PySem.W.CodeHd s₁.heap p.1 p.2)
    (hbm : ∃ (bm : Addr) (ob : Obj), mg "__builtins__" = some (.ref bm) ∧ bm ≠ builtinsNs ∧ s₁.heap.get? bm = some ob ∧ ob.cls = .type "module" ∧ ob.dict = some builtinsNs ∧ ob.data = .plain)
    (ha : s₁.heap.get? a = some { cls := .type "list", data := .seq vs.toArray }) (hi : IntsAre vs ns) (hl : ns.length ≤ sizeLine) (hr : Rm k callerA)
    (F : ∀ base : Heap, K.In base → base.Ns mainGlobals mg → (∀ p ∈ cs, LamX.TabB base mg p.1 p.2) → FnG P w K mg base k fa fd [x] sp) (hbind : ∀ (s : Shared) (u : Value), BindsTo s fd ⟨[u], []⟩ [(x, u)])
    (hnl : ∀ (b : Addr) (o : Obj), K.lookup b = some o → o.cls ≠ .type "list")
    (hsp : ∀ H : Hp, (∀ p ∈ cs, H p.2 = some (.tbl #[])) → LstZ K H a (ns.map V.int) → sp [.ref a] H (fun v _ => v = .bl true) fun _ _ _ => False) :
    codeAny (model P w) callerA (.call (.ref fa) ⟨[.ref a], []⟩) (fun r s' => r = .ok (.ret (.bool true)) ∧ OldK s₁.heap s'.heap ∧ s'.os = s₁.os ∧ AllBare s'.gens) s₁ := by
  have rv := vals_ints hi
  have lenV := hi.length
  have isT : ∀ b : Addr, b ∈ cs.map (·.2) → s₁.heap.get? b = some { cls := .none, data := .fields #[] } := fun b hb => by
    obtain ⟨p, hp, e⟩ := List.mem_map.mp hb
    rw [← e]
    exact hT p hp
  have aT : a ∉ cs.map (·.2) := fun z => by
    have q := isT a z
    rw [ha] at q
    have z' : Data.seq vs.toArray _ = Data.fields #[] := congrArg Obj.data (Option.some.inj q)
    cases z'
  have memT : ∀ p ∈ cs, p.2 ∈ cs.map (·.2) := fun p hp => List.mem_map.mpr ⟨p, hp, rfl⟩
  have core : ∀ H : Hp, (∀ p ∈ cs, H p.2 = some (.tbl #[])) → (∀ b, H b = none ∨ b ∈ cs.map (·.2) ∨ ∃ o xs, H b = some (.frz o (.lst xs))) → LstZ K H a (ns.map V.int) → HOk P w H s₁.heap → (∀ b, H b ≠ none → b = a ∨ b ∈ cs.map (·.2)) → (H a ≠ none → K.lookup a = none) →
      codeAny (model P w) callerA (.call (.ref fa) ⟨[.ref a], []⟩) (fun r s' => r = .ok (.ret (.bool true)) ∧ OldK s₁.heap s'.heap ∧ s'.os = s₁.os ∧ AllBare s'.gens) s₁ := by
    intro H hH hO hS hok hA hK
    have base_of : ∀ {b : Addr} {o : Obj}, s₁.heap.get? b = some o → H b = none → (hidT s₁.heap H).get? b = some o := fun e n => hidT_get e n
    have noD : ∀ {b : Addr} {o : Obj}, s₁.heap.get? b = some o → (∀ vs n, o.data ≠ .seq vs n) → o.data ≠ .fields #[] → H b = none := fun {b o} e h1 h2 => by
      cases q : H b with
      | none => rfl
      | some u =>
        rcases hA b (by rw [q]; simp) with e' | e'
        · rw [e', ha] at e
          cases e
          exact (h1 _ _ rfl).elim
        · rw [isT b e'] at e
          cases e
          exact (h2 rfl).elim
    have noA : ∀ {b : Addr} {o : Obj} {es : Array DictEntry} {ep : Nat}, s₁.heap.get? b = some o → o.data = .dict es ep → H b = none := fun {b o es ep} e d => by
      refine noD e (fun vs n z => ?_) fun z => ?_
      · rw [d] at z
        cases z
      · rw [d] at z
        cases z
    have nsK : ∀ {b : Addr} {m : Str → Option Value}, s₁.heap.Ns b m → (hidT s₁.heap H).Ns b m := fun {b m} ⟨o, es, ep, e, d, r⟩ => ⟨o, es, ep, base_of e (noA e d), d, r⟩
    have hKb : K.In (hidT s₁.heap H) := fun b o e => base_of (KX b o e) (by
      cases q : H b with
      | none => rfl
      | some u =>
        rcases hA b (by rw [q]; simp) with e' | e'
        · rw [e'] at e q
          rw [hK (by rw [q]; simp)] at e
          cases e
        · obtain ⟨p, hp, ep⟩ := List.mem_map.mp e'
          rw [← ep, nT p hp] at e
          cases e)
    have hM : L2.Mod K mg (hidT s₁.heap H) := ⟨hKb, nsK hns, ⟨mb, nsK hb, hbb⟩, let ⟨mc, h1, h2⟩ := hlim; ⟨mc, nsK h1, h2⟩⟩
    have TB : ∀ p ∈ cs, LamX.TabB (hidT s₁.heap H) mg p.1 p.2 := fun p hp => by
      have hTp := hT p hp
      refine ⟨?_, ?_, fun z => ?_⟩
      · obtain ⟨o, us, file, tf, flags, tg, inF, text, tt, e1, r1, r2, r3, r4, r5, r6, r7, r8, hne⟩ := C p hp
        refine ⟨o, us, file, tf, flags, tg, inF, text, tt, base_of e1 (noD e1 (fun vs n z => ?_) fun z => ?_), r1, r2, r3, r4, r5, r6, r7, r8, hne⟩
        · rw [r2] at z
          cases z
        · rw [r2] at z
          cases z
          simp at r3
      · obtain ⟨bm, ob, b1, b2, b3, b4, b5, b6⟩ := hbm
        have nG : bm ≠ mainGlobals := fun q => by
          obtain ⟨o, es, ep, e, hd, _⟩ := hns
          rw [q, e] at b3
          cases b3
          rw [hd] at b6
          cases b6
        have nP : bm ≠ p.2 := fun q => by
          rw [q, hTp] at b3
          cases b3
          cases b6
        refine ⟨bm, ob, b1, b2, nG, nP, base_of b3 (noD b3 (fun vs n z => ?_) fun z => ?_), b4, b5, b6⟩
        · rw [b6] at z
          cases z
        · rw [b6] at z
          cases z
      · obtain ⟨o, es, ep, e, hd, _⟩ := hns
        rw [z, hTp] at e
        cases e
        cases hd
    have e0 : Env0 P w K mg (hidT s₁.heap H) callerA [] s₁ H := ⟨rfl, hM, fun b o e => of_hidT e, Nat.le_of_eq (hidT_size _ _), trivial, fun b hb => absurd (show b ∈ ([] : List Addr) from hb) (by simp), hok, .of_eq hg⟩
    refine codeAny_mono ((F _ hKb (nsK hns) TB).run callerA [] s₁ H ⟨[.ref a], []⟩ [.ref a] [.ref a] _ _ hr e0 (hbind s₁ (.ref a)) (.cons rfl .nil) (hsp H hH hS)) fun r s' h => ?_
    cases r with
    | error e =>
      obtain ⟨_, _, _, _, _, _, _, _, _, _, _, _, z⟩ := h
      exact z.elim
    | ok fl =>
      cases fl with
      | next => exact False.elim h
      | brk => exact False.elim h
      | cont => exact False.elim h
      | ret u =>
        obtain ⟨v, H', os, bare, un, hok', r', q⟩ := h
        have q' : v = .bl true := q
        subst q'
        obtain rfl : u = Value.bool true := r'
        have key : ∀ b o, b ∉ cs.map (·.2) → s₁.heap.get? b = some o → s'.heap.get? b = some o := fun b o nb e => by
          cases q : H b with
          | none => exact un.keep b o e q (by intro z; exact absurd (show b ∈ ([] : List Addr) from z) (by simp)) (by simp)
          | some u =>
            rcases hO b with z | z | ⟨ob, xs, z⟩
            · rw [q] at z; cases z
            · exact absurd z nb
            · have z2 := un.frzs b ob _ z
              obtain ⟨e1, _⟩ := hok b _ z
              obtain ⟨e2, _⟩ := hok' b _ z2
              rw [e] at e1; cases e1
              exact e2
        have grown : ∀ p ∈ cs, ∃ more : Array Value, s'.heap.get? p.2 = some { cls := .none, data := .fields more } := fun p hp => by
          obtain ⟨more, z⟩ := un.tbls p.2 #[] (hH p hp)
          exact ⟨_, hok' p.2 _ z⟩
        refine ⟨rfl, ⟨fun b o e => ?_, fun b o e => ?_⟩, os, bare⟩
        · by_cases hb : b ∈ cs.map (·.2)
          · obtain ⟨p, hp, ep⟩ := List.mem_map.mp hb
            obtain ⟨more, hm⟩ := grown p hp
            rw [← ep] at e ⊢
            rw [hT p hp] at e
            cases e
            exact .inr (.inl ⟨((C p hp).tab (hT p hp)).isCodeTable, rfl, #[], more, rfl, by rw [Array.empty_append]; exact hm⟩)
          · exact .inl (key b o hb e)
        · by_cases hb : b ∈ cs.map (·.2)
          · obtain ⟨p, hp, ep⟩ := List.mem_map.mp hb
            obtain ⟨more, hm⟩ := grown p hp
            rw [← ep]
            exact ⟨_, hm⟩
          · exact ⟨o, key b o hb e⟩
  cases hk : K.lookup a with
  | some o =>
    have e := KX a o hk
    rw [ha] at e
    cases e
    exact absurd rfl (hnl a _ hk)
  | none =>
    refine core (fun b => if b = a then some (.frz { cls := .type "list", data := .seq vs.toArray } (.lst (ns.map V.int))) else if b ∈ cs.map (·.2) then some (.tbl #[]) else none) (fun p hp => (if_neg (show ¬ p.2 = a from fun z => aT (by rw [← z]; exact memT p hp))).trans (if_pos (memT p hp))) (fun b => ?_)
      ⟨_, if_pos rfl⟩ (fun b u z => ?_) (fun b z => ?_) fun _ => hk
    · by_cases hb : b = a
      · exact .inr (.inr ⟨_, _, if_pos hb⟩)
      · by_cases hb2 : b ∈ cs.map (·.2)
        · exact .inr (.inl hb2)
        · exact .inl ((if_neg hb).trans (if_neg hb2))
    · by_cases hb : b = a
      · have z' := (if_pos hb).symm.trans z
        cases z'
        rw [hb]
        exact ⟨ha, by rw [List.length_map]; exact hl, vs, _, rv, ha⟩
      · have z1 := (if_neg hb).symm.trans z
        by_cases hb2 : b ∈ cs.map (·.2)
        · have z' := (if_pos hb2).symm.trans z1
          cases z'
          exact isT b hb2
        · have z' := (if_neg hb2).symm.trans z1
          cases z'
    · by_cases hb : b = a
      · exact .inl hb
      · by_cases hb2 : b ∈ cs.map (·.2)
        · exact .inr hb2
        · exact absurd ((if_neg hb).trans (if_neg hb2)) z
/-- the defs that make lambdas stand in the top, each with its table, which is not looked at -/
def lamB (K : Fg) : Bool := lamTabs.all fun x => match PySem.W.tabIn K x.1 with
  | some p => decide (p.2 = x.2) && (K.lookup p.2).isNone
  | none => false
def lamQ (q : Program) : Bool := lamTabs.all fun x => ((recsOf q).find? fun e => e.name == x.1).isSome
theorem lamB_at {K : Fg} (h : lamB K = true) {x : Str × Nat} (hx : x ∈ lamTabs) : ∃ c, PySem.W.tabIn K x.1 = some (c, x.2) ∧ K.lookup x.2 = none := by
  have h3 := List.all_eq_true.mp h x hx
  split at h3
  · rename_i p e
    obtain ⟨h4, h5⟩ := Bool.and_eq_true_iff.mp h3
    have h6 := of_decide_eq_true h4
    exact ⟨p.1, by rw [e, ← h6], by rw [← h6]; exact Option.isNone_iff_eq_none.mp h5⟩
  · cases h3
theorem walkH_of {l : PySem.W.OpenLaw} {n k : Nat} {q : Program} {loose : List Str} {XP : (Str → Option Value) → Heap → Prop} {YP : World → Heap → Prop} {d : DefRec} {x : Str}
    (hn : l.most = some n) (hn2 : n ≤ sizeLine) (hdf : d.params.defaults = []) (hr : Rm k callerA) (hq : lamQ q = true)
    (F : ∀ (w : World) (mg : Str → Option Value) (fa : Addr) (h : Heap), YP w h → h.Ns mainGlobals mg → mg d.name = some (.ref fa) →
      ∃ (K : Fg) (fd : FuncData) (sp : Sp), K.In h ∧ (∀ (b : Addr) (o : Obj), K.lookup b = some o → o.cls ≠ .type "list") ∧ lamB K = true ∧ (∀ (s : Shared) (u : Value), BindsTo s fd ⟨[u], []⟩ [(x, u)]) ∧
        (∀ (H : Hp) (a : Addr) (ns : List Int), ns.length ≤ n → LamX.Tabs tbs H → LstZ K H a (ns.map V.int) → sp [.ref a] H (fun v _ => v = .bl true) fun _ _ _ => False) ∧
        ∀ base : Heap, K.In base → base.Ns mainGlobals mg → TBs K mg base → FnG l.prog w K mg base k fa fd [x] sp) :
    PySem.W.WalkO q loose XP YP l.row.toRowW d [] (fun f vs => PySem.call f vs) := by
  refine Att.attach_call hn hdf fun w s₀ s1 mg mb fa o pm cd doc a us ns G Y ho hd hcd hmg hobj hints hlen hg => ?_
  obtain ⟨K, fd, sp, KX, hnl, hlm, hb, hsp, hF⟩ := F w mg fa _ Y G.T.g hmg
  have tb : ∀ p ∈ tcs K, (PySem.W.CodeHd s1.heap p.1 p.2 ∧ s1.heap.get? p.2 = some { cls := .none, data := .fields #[] }) ∧ K.lookup p.2 = none := fun p hp => by
    obtain ⟨y, hy, e⟩ := List.mem_filterMap.mp hp
    have h1 := List.all_eq_true.mp hq y hy
    obtain ⟨dr, h2⟩ := Option.isSome_iff_exists.mp h1
    obtain ⟨c, h3, h4⟩ := lamB_at hlm hy
    have h5 : p = (c, y.2) := Option.some.inj (e.symm.trans h3)
    exact ⟨PySem.W.tab_of G.T KX h2 e, by rw [h5]; exact h4⟩
  have mem : ∀ x ∈ lamTabs, ∃ c, PySem.W.tabIn K x.1 = some (c, x.2) ∧ (c, x.2) ∈ tcs K := fun x hx => by
    obtain ⟨c, h3, _⟩ := lamB_at hlm hx
    exact ⟨c, h3, List.mem_filterMap.mpr ⟨x, hx, h3⟩⟩
  exact lawH_call (cs := tcs K) KX G.T.g G.T.b G.T.builtins G.T.nolimit hg (fun p hp => (tb p hp).1.2) (fun p hp => (tb p hp).2) (fun p hp => (tb p hp).1.1) G.T.bmain hobj hints (Nat.le_trans hlen hn2) hr (fun base h1 h2 h3 => hF base h1 h2 fun x hx => by
    obtain ⟨c, m1, m2⟩ := mem x hx
    exact ⟨c, m1, h3 _ m2⟩) hb hnl fun H hH hS => hsp H a ns hlen (tbs_of fun x hx => by
    obtain ⟨c, m1, m2⟩ := mem x hx
    exact hH _ m2) hS
end

/-! ### a def from the head's facts -/
theorem fun_of {K : Fg} {x qual : Str} {st : Stmt} {f : Addr} {fd : FuncData} (F : FunD K x qual (defArgs st) (defBody st) (defScope st) [] [] f fd) : Fun K x qual st f fd := by
  obtain ⟨⟨oc, od, dV, kV, doc, pm, an, cdv, ct, osl, e, lk, hcd, hD, hK⟩, kp⟩ := F
  rcases hD with ⟨_, rfl⟩ | ⟨z, _⟩
  · exact ⟨⟨oc, od, kV, doc, pm, an, cdv, ct, osl, e, lk, hcd⟩, kp⟩
  · exact absurd rfl z
theorem rep_ints {K : Fg} {H : Hp} : ∀ ns : List Int, RepAll K H (ns.map V.int) (ns.map .int)
  | [] => .nil
  | x :: ns => .cons (.int x) (rep_ints ns)
theorem rep_strs {K : Fg} {H : Hp} : ∀ ns : List Str, RepAll K H (ns.map V.str) (ns.map .str)
  | [] => .nil
  | x :: ns => .cons (.str x) (rep_strs ns)
theorem law_sp {K : Fg} {H : Hp} {a : Addr} {ns : List Int} {fs : FS} (ht : LamX.Tabs tbs H) (h : LstZ K H a (ns.map V.int)) (hf : fs [.pv (.list (ns.map .int))] (fun d _ => d = .bool true) (fun _ _ _ => False)) :
    SpD K 0 1 fs [.ref a] H (fun v _ => v = .bl true) fun _ _ _ => False := by
  refine ⟨rfl, _, [], _, _, hf, ⟨.pv (.lst h (rep_ints ns)) (.nil ht), List.nodup_nil⟩, fun v d fv Γ' H' fp' p o _ _ _ => ?_, fun C dd gs Γ' H' fp' r _ _ _ => r.elim⟩
  obtain ⟨r, _⟩ := o
  subst p
  cases r
  rfl
/-! ### an own exception class, looked at -/
def xclB (K : Fg) (C : Addr) : Bool := match K.lookup C with
  | some ⟨.type "type", _, .cls cd, sl⟩ => (match cd.mro, sl.toList with
    | .ref C' :: bm, [_, _, _, _, some (.builtin n), _] => C' == C && n == "Exception.__new__" && !cd.hasDel && cd.hasDict && DLX.ownRefs bm
    | _, _ => false)
  | _ => false
def xclA (K : Fg) (C : Addr) : Bool := xclB K C && (decide (PySem.W.findIn K (.ref C) "__setattr__" = some (some (.builtin "object.__setattr__"))) && (decide (PySem.W.subIn K (.ref C) (.type "BaseException") = some true) && (decide (PySem.W.typeIn K (.ref C) = some (.type "type")) && PySem.W.keepIn K (.ref C))))
theorem xcl_ok {K : Fg} {C : Addr} (h : xclA K C = true) : XCl K C := by
  obtain ⟨q, h⟩ := Bool.and_eq_true_iff.mp h
  obtain ⟨h2, h⟩ := Bool.and_eq_true_iff.mp h
  obtain ⟨h3, h⟩ := Bool.and_eq_true_iff.mp h
  obtain ⟨h4, h5⟩ := Bool.and_eq_true_iff.mp h
  refine ⟨?_, of_decide_eq_true h2, of_decide_eq_true h3, of_decide_eq_true h4, h5⟩
  unfold xclB at q
  split at q
  · rename_i dd cd sl ho
    split at q
    · rename_i C' bm k0 k1 k2 k3 n k5 hm hs
      simp only [Bool.and_eq_true, beq_iff_eq, Bool.not_eq_true'] at q
      obtain ⟨⟨⟨⟨rfl, rfl⟩, hdel⟩, hdd⟩, ht⟩ := q
      obtain ⟨nm, bs, mro, ns, qn, hd, sn, sub, ab, col, del⟩ := cd
      dsimp only at hm hdel hdd
      subst hm hdel hdd
      have hsl : sl = #[k0, k1, k2, k3, some (.builtin "Exception.__new__"), k5] := by
        obtain ⟨l⟩ := sl
        simp only at hs
        rw [hs]
      subst hsl
      exact ⟨nm, qn, ns, bs, bm, sn, sub, ab, col, dd, k0, k1, k2, k3, k5, ho, ht⟩
    · cases q
  · cases q
/-- no list stands among what is looked at -/
def noLst (K : Fg) : Bool := K.all fun p => match p.2.cls with
  | .type n => !(n == "list")
  | _ => true
theorem lookup_mem {β : Type} : ∀ {l : List (Addr × β)} {a : Addr} {b : β}, l.lookup a = some b → (a, b) ∈ l
  | [], _, _, h => nomatch h
  | (c, d) :: l, a, b, h => by
    rw [List.lookup_cons] at h
    cases q : (a == c) with
    | true =>
      rw [q] at h
      have e : d = b := Option.some.inj h
      rw [beq_iff_eq.mp q, e]
      exact List.mem_cons_self
    | false =>
      rw [q] at h
      exact List.mem_cons_of_mem _ (lookup_mem h)
theorem noLst_ok {K : Fg} (h : noLst K = true) (b : Addr) (o : Obj) (e : K.lookup b = some o) : o.cls ≠ .type "list" := fun z => by
  have := List.all_eq_true.mp h _ (lookup_mem e)
  simp [z] at this
end DL
/-! ### the Hook, with facts of one's own -/
namespace DL
open PySem PySem.Spec PyProof.Rows L2 He
abbrev AlX : Type := AlD × Bool
def obsX (fa : List Fa) (fn : List DefD) (ex : List (PySem.W.Frag → Bool)) (K : PySem.W.Frag) : AlX := (obsD fa fn K, ex.all fun f => f K)
def valX (fn : List DefD) : AlX := (valD fn, true)
def SaysX (fa : List Fa) (fn : List DefD) (ex : List (PySem.W.Frag → Bool)) (K : PySem.W.Frag) : Prop := obsX fa fn ex K = valX fn
/-- an empty table of a code object is not looked at -/
def tabG (g : Addr → Option Obj) (a : Addr) : Bool := match g a with
  | some ⟨.none, none, .fields vs, _⟩ => vs.isEmpty
  | _ => false
def asX (g : Addr → Option Obj) (n : Nat) : List Addr := (asD g n).filter fun a => !tabG g a
def obsXG (n : Nat) (fa : List Fa) (fn : List DefD) (ex : List (PySem.W.Frag → Bool)) (g : Addr → Option Obj) : AlX := obsX fa fn ex (frG g (asX g n))
def hookX (n : Nat) (fa : List Fa) (fn : List DefD) (ex : List (PySem.W.Frag → Bool)) : PySem.W.Hook where
  α := AlX
  obs := fun s => obsXG n fa fn ex s.heap.get?
  val := fun _ => valX fn
  says := fun _ h => ∃ K : PySem.W.Frag, K.In h ∧ SaysX fa fn ex K
  of := fun _ _ e => ⟨_, frG_in, e⟩
  keeps := fun _ _ _ ⟨K, hK, c⟩ k => ⟨K, PySem.W.Frag.In.keeps hK k, c⟩
theorem obsXG_eq {n : Nat} {fa : List Fa} {fn : List DefD} {ex : List (PySem.W.Frag → Bool)} {g : Addr → Option Obj} {s : Shared} (h : ∀ a, g a = s.heap.get? a) : obsXG n fa fn ex g = (hookX n fa fn ex).obs s := by
  have e : g = s.heap.get? := funext h
  rw [e] <;> rfl
section
variable {fa : List Fa} {fn : List DefD} {ex : List (PySem.W.Frag → Bool)} {K : PySem.W.Frag}
theorem SaysX.d (c : SaysX fa fn ex K) : SaysD fa fn K := congrArg (fun z : AlX => z.1) c
theorem SaysX.own (c : SaysX fa fn ex K) (i : Nat) {f : PySem.W.Frag → Bool} (h : ex[i]? = some f := by rfl) : f K = true :=
  List.all_eq_true.mp (show (ex.all fun f => f K) = true from congrArg (fun z : AlX => z.2) c) f (List.mem_of_getElem? h)
end
end DL
set_option Elab.async false
set_option linter.all false
set_option maxRecDepth 100000
set_option maxHeartbeats 1000000
/-! ### enumerate(zip(t, u)), t and u tuples -/
namespace DLZ
open PySem
open PySem.Sem (wp)
section
variable {prog : Program} {w : World} {A : Around} {E : Value → Shared → Prop} {s : Shared} {z TI TO i1 i2 l1 l2 : Addr} {f0 : Value} {f : Bool} {k : Nat} {xs ys : Array Value} {x y : Value}
/-- a zip, whatever it gave out -/
abbrev ZA (h : Heap) (z TI TO : Addr) (v : Value) (b : Bool) : Prop := h.get? z = some { cls := .type "zip", dict := none, data := .fields #[v, .bool b, .bool false, .ref TI, .ref TO], slots := #[] }
def Given (v : Value) : Prop := v = .none ∨ ∃ T : Nat, v = rawInt T
theorem free_zip {Q : Bool → Shared → Prop} (hz : ZA s.heap z TI TO f0 f) (hf : Given f0) (q1 : Q true s) (q2 : ∀ g, ZA g z TI TO f0 true → Heap.SameBut z s.heap g → Q false { s with heap := g }) :
    wpAny (model prog w) A (Builtin.SmallTypes.ownedTupleIsFree (.ref z)) Q E s := by
  unfold Builtin.SmallTypes.ownedTupleIsFree
  rcases hf with rfl | ⟨T, rfl⟩
  · exact wpAny_bind (wpAny_field hz rfl (x := .none) rfl (wpAny_pure q1))
  refine wpAny_bind (wpAny_field hz rfl (x := rawInt T) rfl ?_)
  have al : ∀ {Q' : Option Obj → Shared → Prop}, Q' (s.heap.get? T) s → wpAny (model prog w) A (loadIfAlive T) Q' E s := fun h _ _ _ => h
  show wpAny _ _ (loadIfAlive (T : Int).toNat >>= _) _ _ s
  rw [Int.toNat_natCast]
  refine wpAny_bind (al ?_)
  cases s.heap.get? T with
  | none => exact wpAny_pure q1
  | some oT =>
    show wpAny _ _ (field (.ref z) 1 >>= _) _ _ s
    refine wpAny_bind (wpAny_field hz rfl (x := .bool f) rfl ?_)
    cases f with
    | true => exact wpAny_pure (q2 s.heap hz (Heap.SameBut.refl _ _))
    | false => exact wpAny_bind (wpAny_setField_rec hz (by simp) fun g a b => wpAny_pure (q2 g a b))
/-- what stands between two draws -/
structure ZI (h : Heap) (z TI TO i1 i2 l1 l2 : Addr) (k : Nat) : Prop where
  zp : ∃ v b, ZA h z TI TO v b ∧ Given v
  ti : IsPair h TI (.ref i1) (.ref i2)
  to : ∃ a b, IsPair h TO a b
  j1 : h.IsTupleIter i1 l1 k
  j2 : h.IsTupleIter i2 l2 k
theorem ZI.at {h h' : Heap} (S : ZI h z TI TO i1 i2 l1 l2 k) (kp : ∀ b ∈ [z, TI, TO, i1, i2], ∀ o, h.get? b = some o → h'.get? b = some o) : ZI h' z TI TO i1 i2 l1 l2 k := by
  obtain ⟨⟨v, b, e, g⟩, ti, ⟨p, q, to⟩, j1, j2⟩ := S
  exact ⟨⟨v, b, kp z (by simp) _ e, g⟩, kp TI (by simp) _ ti, ⟨p, q, kp TO (by simp) _ to⟩, j1.at fun o e => kp i1 (by simp) o e, j2.at fun o e => kp i2 (by simp) o e⟩
theorem next_zip {Q : Value → Shared → Prop} (D : ZipApart z TI TO i1 i2 l1 l2) (S : ZI s.heap z TI TO i1 i2 l1 l2 k) (t1 : s.heap.IsTuple l1 xs) (t2 : s.heap.IsTuple l2 ys) (hx : xs[k]? = some x) (hy : ys[k]? = some y)
    (hQ : ∀ g, ZI g z TI TO i1 i2 l1 l2 (k + 1) → IsPair g s.heap.objs.size x y → g.objs.size = s.heap.objs.size + 1 → (∀ c o, c ≠ z → c ≠ TO → c ≠ i1 → c ≠ i2 → s.heap.get? c = some o → g.get? c = some o) → Q (.ref s.heap.objs.size) { s with heap := g }) :
    wpAny (model prog w) A (Builtin.«zip.__next__» ⟨[.ref z], []⟩) (fun r s1 => ∃ v, r = .done (.ret v) ∧ Q v s1) E s := by
  obtain ⟨⟨v0, b0, hz, hg⟩, ti, ⟨p, q, to⟩, j1, j2⟩ := S
  show wpAny _ _ (field (.ref z) 2 >>= _) _ _ s
  refine wpAny_bind (wpAny_field hz rfl (x := .bool false) rfl ?_)
  show wpAny _ _ (field (.ref z) 3 >>= _) _ _ s
  refine wpAny_bind (wpAny_field hz rfl (x := .ref TI) rfl (wpAny_bind (wpAny_seqItems ti rfl ?_)))
  show wpAny _ _ (Builtin.SmallTypes.ownedTupleIsFree (.ref z) >>= _) _ _ s
  refine wpAny_bind (free_zip hz hg ?_ fun g0 a0 sb0 => ?_)
  · -- its own tuple is filled anew
    simp only [if_true]
    refine wpAny_bind (wpAny_rule (wpAny_bind (wpAny_field hz rfl (x := .ref TO) rfl (wpAny_bind (wpAny_setField_rec hz (by simp) fun g1 a1 sb1 => wpAny_bind ?_)))))
    replace a1 : ZA g1 z TI TO .ellipsis b0 := a1
    simp only [List.zipIdx_cons, List.zipIdx_nil, List.forIn_cons, List.forIn_nil]
    refine wpAny_bind (wpAny_bind (wpAny_onRaise ?_))
    show wpAny _ _ (Builtin.SmallTypes.nextOf (.ref i1) >>= _) _ _ _
    refine wpAny_bind (RZ.nextOf_tuple_item (j1.extBut sb1.extBut D.i1z) (t1.extBut sb1.extBut D.l1z) hx fun g2 n1 sb2 => wpAny_pure ?_)
    have to2 : IsPair g2 TO p q := sb2.extBut _ _ D.TOi1 (sb1.extBut _ _ D.TOz to)
    refine wpAny_bind (wpAny_seqItems to2 rfl (wpAny_bind (wpAny_updateSeq_pair to2 fun g3 to3 sb3 => wpAny_bind (wpAny_letGo (wpAny_pure ?_)))))
    replace to3 : IsPair g3 TO x q := to3
    refine wpAny_bind (wpAny_bind (wpAny_onRaise ?_))
    show wpAny _ _ (Builtin.SmallTypes.nextOf (.ref i2) >>= _) _ _ _
    refine wpAny_bind (RZ.nextOf_tuple_item (((j2.extBut sb1.extBut D.i2z).extBut sb2.extBut D.i12.symm).extBut sb3.extBut D.TOi2.symm) (((t2.extBut sb1.extBut D.l2z).extBut sb2.extBut D.l2i1).extBut sb3.extBut D.l2TO) hy fun g4 n2 sb4 => wpAny_pure ?_)
    have to4 : IsPair g4 TO x q := sb4.extBut _ _ D.TOi2 to3
    refine wpAny_bind (wpAny_seqItems to4 rfl (wpAny_bind (wpAny_updateSeq_pair to4 fun g5 to5 sb5 => wpAny_bind (wpAny_letGo (wpAny_pure (wpAny_pure ?_))))))
    replace to5 : IsPair g5 TO x y := to5
    refine wpAny_bind (wpAny_seqItems to5 rfl (wpAny_bind (wpAny_newTuple ?_)))
    have sz : g5.objs.size = s.heap.objs.size := by rw [sb5.1, sb4.1, sb3.1, sb2.1, sb1.1]
    have a5 : ZA g5 z TI TO .ellipsis b0 := sb5.extBut _ _ D.TOz.symm (sb4.extBut _ _ D.i2z.symm (sb3.extBut _ _ D.TOz.symm (sb2.extBut _ _ D.i1z.symm a1)))
    have kp5 : ∀ c o, c ≠ z → c ≠ TO → c ≠ i1 → c ≠ i2 → s.heap.get? c = some o → g5.get? c = some o := fun c o e1 e2 e3 e4 e => sb5.extBut _ _ e2 (sb4.extBut _ _ e4 (sb3.extBut _ _ e2 (sb2.extBut _ _ e3 (sb1.extBut _ _ e1 e))))
    have m1 : g5.IsTupleIter i1 l1 (k + 1) := ((n1.extBut sb3.extBut D.TOi1.symm).extBut sb4.extBut D.i12).extBut sb5.extBut D.TOi1.symm
    have m2 : g5.IsTupleIter i2 l2 (k + 1) := n2.extBut sb5.extBut D.TOi2.symm
    have ti5 : IsPair g5 TI (.ref i1) (.ref i2) := kp5 _ _ D.TIz D.TITO D.TIi1 D.TIi2 ti
    have zl : z < g5.objs.size := Heap.lt_size a5
    show wpAny _ _ (Builtin.SmallTypes.ownedTupleHandOut (.ref z) (.ref g5.objs.size) >>= _) _ _ _
    refine wpAny_bind ?_
    unfold Builtin.SmallTypes.ownedTupleHandOut
    have a6 : ZA (g5.push { cls := .type "tuple", data := .seq #[x, y] }) z TI TO .ellipsis b0 := Heap.get?_push_of_some _ a5
    refine wpAny_bind (wpAny_setField_rec a6 (by simp) fun g7 a7 sb7 => ?_)
    replace a7 : ZA g7 z TI TO (rawInt g5.objs.size) b0 := a7
    refine wpAny_setField_rec a7 (by simp) fun g8 a8 sb8 => ?_
    replace a8 : ZA g8 z TI TO (rawInt g5.objs.size) false := a8
    have up : ∀ c o, c ≠ z → g5.get? c = some o → g8.get? c = some o := fun c o e1 e => sb8.extBut _ _ e1 (sb7.extBut _ _ e1 (Heap.get?_push_of_some _ e))
    have nw : IsPair g8 g5.objs.size x y := sb8.extBut _ _ (Nat.ne_of_gt zl) (sb7.extBut _ _ (Nat.ne_of_gt zl) (Heap.get?_push_size _ rfl))
    have sz8 : g8.objs.size = g5.objs.size + 1 := by rw [sb8.1, sb7.1, Heap.size_push]
    refine wpAny_pure ⟨_, rfl, ?_⟩
    show Q (.ref g5.objs.size) _
    rw [sz] at nw sz8 ⊢
    exact hQ g8 ⟨⟨_, _, a8, .inr ⟨_, rfl⟩⟩, up _ _ D.TIz ti5, ⟨_, _, up _ _ D.TOz to5⟩, m1.at fun o e => up _ o D.i1z e, m2.at fun o e => up _ o D.i2z e⟩ nw sz8 fun c o e1 e2 e3 e4 e => up c o e1 (kp5 c o e1 e2 e3 e4 e)
  · -- its own tuple is still out: a new one
    simp only [Bool.false_eq_true, if_false]
    refine wpAny_bind ?_
    rw [← Array.forIn_toList]
    simp only [List.forIn_cons, List.forIn_nil]
    refine wpAny_bind (wpAny_bind (wpAny_holding ?_))
    show wpAny _ _ (Builtin.SmallTypes.nextOf (.ref i1) >>= _) _ _ _
    refine wpAny_bind (RZ.nextOf_tuple_item (s := { s with heap := g0 }) (j1.extBut sb0.extBut D.i1z) (t1.extBut sb0.extBut D.l1z) hx fun g2 n1 sb2 => wpAny_pure (wpAny_pure ?_))
    refine wpAny_bind (wpAny_bind (wpAny_holding ?_))
    show wpAny _ _ (Builtin.SmallTypes.nextOf (.ref i2) >>= _) _ _ _
    refine wpAny_bind (RZ.nextOf_tuple_item (s := { s with heap := g2 }) ((j2.extBut sb0.extBut D.i2z).extBut sb2.extBut D.i12.symm) ((t2.extBut sb0.extBut D.l2z).extBut sb2.extBut D.l2i1) hy fun g3 n2 sb3 => wpAny_pure (wpAny_pure (wpAny_pure ?_)))
    show wpAny _ _ (newTuple [x, y] >>= _) _ _ _
    refine wpAny_bind (wpAny_newTuple ?_)
    have sz : g3.objs.size = s.heap.objs.size := by rw [sb3.1, sb2.1, sb0.1]
    have a3 : ZA g3 z TI TO v0 true := sb3.extBut _ _ D.i2z.symm (sb2.extBut _ _ D.i1z.symm a0)
    have kp : ∀ c o, c ≠ z → c ≠ i1 → c ≠ i2 → s.heap.get? c = some o → g3.get? c = some o := fun c o e1 e2 e3 e => sb3.extBut _ _ e3 (sb2.extBut _ _ e2 (sb0.extBut _ _ e1 e))
    refine wpAny_pure ⟨_, rfl, ?_⟩
    show Q (.ref g3.objs.size) _
    have nw : IsPair (g3.push { cls := .type "tuple", data := .seq #[x, y] }) g3.objs.size x y := Heap.get?_push_size _ rfl
    have sz4 : (g3.push { cls := .type "tuple", data := .seq #[x, y] }).objs.size = g3.objs.size + 1 := Heap.size_push ..
    rw [sz] at nw sz4 ⊢
    refine hQ _ ⟨⟨v0, true, Heap.get?_push_of_some _ a3, hg⟩, Heap.get?_push_of_some _ (kp _ _ D.TIz D.TIi1 D.TIi2 ti), ⟨p, q, Heap.get?_push_of_some _ (kp _ _ D.TOz D.TOi1 D.TOi2 to)⟩, (n1.extBut sb3.extBut D.i12).at fun o e => Heap.get?_push_of_some _ e, n2.at fun o e => Heap.get?_push_of_some _ e⟩ nw sz4 fun c o e1 _ e3 e4 e => Heap.get?_push_of_some _ (kp c o e1 e3 e4 e)
theorem last_zip {Q : Fin → Shared → Prop} (hh : A.handled = none) (D : ZipApart z TI TO i1 i2 l1 l2) (S : ZI s.heap z TI TO i1 i2 l1 l2 k) (t1 : s.heap.IsTuple l1 xs) (t2 : s.heap.IsTuple l2 ys) (he : xs[k]? = none ∨ ys[k]? = none)
    (hE : ∀ g e, (∀ c o, c ≠ z → c ≠ TO → c ≠ i1 → c ≠ i2 → s.heap.get? c = some o → g.get? c = some o) → (∃ o, g.get? e = some o ∧ o.cls = .type "StopIteration") → E (.ref e) { s with heap := g }) :
    wpAny (model prog w) A (Builtin.«zip.__next__» ⟨[.ref z], []⟩) Q E s := by
  obtain ⟨⟨v0, b0, hz, hg⟩, ti, ⟨p, q, to⟩, j1, j2⟩ := S
  show wpAny _ _ (field (.ref z) 2 >>= _) _ _ s
  refine wpAny_bind (wpAny_field hz rfl (x := .bool false) rfl ?_)
  show wpAny _ _ (field (.ref z) 3 >>= _) _ _ s
  refine wpAny_bind (wpAny_field hz rfl (x := .ref TI) rfl (wpAny_bind (wpAny_seqItems ti rfl ?_)))
  show wpAny _ _ (Builtin.SmallTypes.ownedTupleIsFree (.ref z) >>= _) _ _ s
  refine wpAny_bind (free_zip hz hg ?_ fun g0 a0 sb0 => ?_)
  · simp only [if_true]
    refine wpAny_bind (wpAny_rule (wpAny_bind (wpAny_field hz rfl (x := .ref TO) rfl (wpAny_bind (wpAny_setField_rec hz (by simp) fun g1 a1 sb1 => wpAny_bind ?_)))))
    replace a1 : ZA g1 z TI TO .ellipsis b0 := a1
    simp only [List.zipIdx_cons, List.zipIdx_nil, List.forIn_cons, List.forIn_nil]
    refine wpAny_bind (wpAny_bind (wpAny_onRaise ?_))
    show wpAny _ _ (Builtin.SmallTypes.nextOf (.ref i1) >>= _) _ _ _
    cases hx : xs[k]? with
    | none =>
      refine wpAny_bind (RZ.nextOf_tuple_end hh (j1.extBut sb1.extBut D.i1z) (t1.extBut sb1.extBut D.l1z) hx fun g2 e sb2 ⟨oe, e1, e2⟩ => ?_)
      have a2 : ZA g2 z TI TO .ellipsis b0 := sb2 _ _ D.i1z.symm a1
      have ne : e ≠ z := fun x => by subst x; rw [a2] at e1; cases e1; simp at e2
      exact wpAny_setField_rec a2 (by simp) fun g3 _ sb3 => hE g3 e (fun c o c1 _ c3 _ x => sb3.extBut _ _ c1 (sb2 _ _ c3 (sb1.extBut _ _ c1 x))) ⟨oe, sb3.extBut _ _ ne e1, e2⟩
    | some x =>
      have hy : ys[k]? = none := he.resolve_left (by rw [hx]; exact fun z => nomatch z)
      refine wpAny_bind (RZ.nextOf_tuple_item (j1.extBut sb1.extBut D.i1z) (t1.extBut sb1.extBut D.l1z) hx fun g2 n1 sb2 => wpAny_pure ?_)
      have to2 : IsPair g2 TO p q := sb2.extBut _ _ D.TOi1 (sb1.extBut _ _ D.TOz to)
      refine wpAny_bind (wpAny_seqItems to2 rfl (wpAny_bind (wpAny_updateSeq_pair to2 fun g3 to3 sb3 => wpAny_bind (wpAny_letGo (wpAny_pure ?_)))))
      refine wpAny_bind (wpAny_bind (wpAny_onRaise ?_))
      show wpAny _ _ (Builtin.SmallTypes.nextOf (.ref i2) >>= _) _ _ _
      refine wpAny_bind (RZ.nextOf_tuple_end hh (((j2.extBut sb1.extBut D.i2z).extBut sb2.extBut D.i12.symm).extBut sb3.extBut D.TOi2.symm) (((t2.extBut sb1.extBut D.l2z).extBut sb2.extBut D.l2i1).extBut sb3.extBut D.l2TO) hy fun g4 e sb4 ⟨oe, e1, e2⟩ => ?_)
      have a4 : ZA g4 z TI TO .ellipsis b0 := sb4 _ _ D.i2z.symm (sb3.extBut _ _ D.TOz.symm (sb2.extBut _ _ D.i1z.symm a1))
      have ne : e ≠ z := fun x => by subst x; rw [a4] at e1; cases e1; simp at e2
      exact wpAny_setField_rec a4 (by simp) fun g5 _ sb5 => hE g5 e (fun c o c1 c2 c3 c4 x => sb5.extBut _ _ c1 (sb4 _ _ c4 (sb3.extBut _ _ c2 (sb2.extBut _ _ c3 (sb1.extBut _ _ c1 x))))) ⟨oe, sb5.extBut _ _ ne e1, e2⟩
  · simp only [Bool.false_eq_true, if_false]
    refine wpAny_bind ?_
    rw [← Array.forIn_toList]
    simp only [List.forIn_cons, List.forIn_nil]
    refine wpAny_bind (wpAny_bind (wpAny_holding ?_))
    show wpAny _ _ (Builtin.SmallTypes.nextOf (.ref i1) >>= _) _ _ _
    cases hx : xs[k]? with
    | none => exact wpAny_bind (RZ.nextOf_tuple_end (s := { s with heap := g0 }) hh (j1.extBut sb0.extBut D.i1z) (t1.extBut sb0.extBut D.l1z) hx fun g2 e sb2 st => hE g2 e (fun c o c1 _ c3 _ x => sb2 _ _ c3 (sb0.extBut _ _ c1 x)) st)
    | some x =>
      have hy : ys[k]? = none := he.resolve_left (by rw [hx]; exact fun z => nomatch z)
      refine wpAny_bind (RZ.nextOf_tuple_item (s := { s with heap := g0 }) (j1.extBut sb0.extBut D.i1z) (t1.extBut sb0.extBut D.l1z) hx fun g2 n1 sb2 => wpAny_pure (wpAny_pure ?_))
      refine wpAny_bind (wpAny_bind (wpAny_holding ?_))
      show wpAny _ _ (Builtin.SmallTypes.nextOf (.ref i2) >>= _) _ _ _
      exact wpAny_bind (RZ.nextOf_tuple_end (s := { s with heap := g2 }) hh ((j2.extBut sb0.extBut D.i2z).extBut sb2.extBut D.i12.symm) ((t2.extBut sb0.extBut D.l2z).extBut sb2.extBut D.l2i1) hy fun g3 e sb3 st => hE g3 e (fun c o c1 _ c3 c4 x => sb3 _ _ c4 (sb2.extBut _ _ c3 (sb0.extBut _ _ c1 x))) st)
theorem ZI.ty {h : Heap} (S : ZI h z TI TO i1 i2 l1 l2 k) : ∃ o, h.get? z = some o ∧ o.cls = .type "zip" := by
  obtain ⟨v, b, e, _⟩ := S.zp
  exact ⟨_, e, rfl⟩
/-- one draw from the zip -/
theorem of_zip {Q : Value → Shared → Prop} (D : ZipApart z TI TO i1 i2 l1 l2) (S : ZI s.heap z TI TO i1 i2 l1 l2 k) (t1 : s.heap.IsTuple l1 xs) (t2 : s.heap.IsTuple l2 ys) (hx : xs[k]? = some x) (hy : ys[k]? = some y)
    (hQ : ∀ g, ZI g z TI TO i1 i2 l1 l2 (k + 1) → IsPair g s.heap.objs.size x y → g.objs.size = s.heap.objs.size + 1 → (∀ c o, c ≠ z → c ≠ TO → c ≠ i1 → c ≠ i2 → s.heap.get? c = some o → g.get? c = some o) → Q (.ref s.heap.objs.size) { s with heap := g }) :
    wpAny (model prog w) A (Builtin.SmallTypes.nextOf (.ref z)) Q E s := by
  have ty : s.TypeIs (.ref z) "zip" := S.ty
  unfold Builtin.SmallTypes.nextOf
  exact wpAny_bind (wpAny_callSpecial?_slot (name := Str.ofString "__next__") ty F.slot_zip_next (wpAny_call_entry F.slot_zip_next ty F.entry_zip_next
    (next_zip D S t1 t2 hx hy fun g a b c d => wpAny_pure (hQ g a b c d)) (F.args_zip_next_1 _)))
theorem of_zip_end {Q : Value → Shared → Prop} (hh : A.handled = none) (D : ZipApart z TI TO i1 i2 l1 l2) (S : ZI s.heap z TI TO i1 i2 l1 l2 k) (t1 : s.heap.IsTuple l1 xs) (t2 : s.heap.IsTuple l2 ys) (he : xs[k]? = none ∨ ys[k]? = none)
    (hE : ∀ g e, (∀ c o, c ≠ z → c ≠ TO → c ≠ i1 → c ≠ i2 → s.heap.get? c = some o → g.get? c = some o) → (∃ o, g.get? e = some o ∧ o.cls = .type "StopIteration") → E (.ref e) { s with heap := g }) :
    wpAny (model prog w) A (Builtin.SmallTypes.nextOf (.ref z)) Q E s := by
  have ty : s.TypeIs (.ref z) "zip" := S.ty
  unfold Builtin.SmallTypes.nextOf
  exact wpAny_bind (wpAny_callSpecial?_slot (name := Str.ofString "__next__") ty F.slot_zip_next (wpAny_call_entry F.slot_zip_next ty F.entry_zip_next (last_zip hh D S t1 t2 he hE) (F.args_zip_next_1 _)))
theorem enum_zip {e : Addr} {c : Int} {old : Value} {Q : Value → Shared → Prop} (D : ZipApart z TI TO i1 i2 l1 l2) (he : IsEnum s.heap e z c old) (S : ZI s.heap z TI TO i1 i2 l1 l2 k) (t1 : s.heap.IsTuple l1 xs) (t2 : s.heap.IsTuple l2 ys) (hx : xs[k]? = some x) (hy : ys[k]? = some y)
    (n0 : e ≠ z) (n1 : e ≠ TO) (n2 : e ≠ i1) (n3 : e ≠ i2) (n4 : e ≠ TI)
    (hQ : ∀ g tk, IsEnumOut g e z (c + 1) (.ref s.heap.objs.size) (s.heap.objs.size + 1) → ZI g z TI TO i1 i2 l1 l2 (k + 1) → IsPair g s.heap.objs.size x y → g.get? (s.heap.objs.size + 1) = some { cls := .type "tuple", data := .seq #[.int c tk, .ref s.heap.objs.size] } → g.objs.size = s.heap.objs.size + 2 →
      (∀ b o, b ≠ e → b ≠ z → b ≠ TO → b ≠ i1 → b ≠ i2 → s.heap.get? b = some o → g.get? b = some o) → Q (.ref (s.heap.objs.size + 1)) { s with heap := g, toks := tk + 1 }) :
    wpAny (model prog w) A (Builtin.«enumerate.__next__» ⟨[.ref e], []⟩) (fun r s1 => ∃ v, r = .done (.ret v) ∧ Q v s1) E s := by
  obtain ⟨hp, gg, dd, tk0, os⟩ := s
  have el : e < hp.objs.size := Heap.lt_size he
  show wpAny _ _ (field (.ref e) 2 >>= _) _ _ ⟨hp, gg, dd, tk0, os⟩
  refine wpAny_bind (wpAny_field he rfl (x := .ref z) rfl (wpAny_bind (of_zip D S t1 t2 hx hy fun g1 S1 pr1 sz1 kp1 => ?_)))
  replace pr1 : IsPair g1 hp.objs.size x y := pr1
  replace sz1 : g1.objs.size = hp.objs.size + 1 := sz1
  have he1 : IsEnum g1 e z c old := kp1 _ _ n0 n1 n2 n3 he
  show wpAny _ _ (field (.ref e) 3 >>= _) _ _ ⟨g1, gg, dd, tk0, os⟩
  refine wpAny_bind (wpAny_field he1 rfl (x := rawInt c) rfl ?_)
  show wpAny _ _ (field (.ref e) 4 >>= _) _ _ ⟨g1, gg, dd, tk0, os⟩
  refine wpAny_bind (wpAny_field he1 rfl (x := .none) rfl ?_)
  show wpAny _ _ (mkInt c >>= _) _ _ ⟨g1, gg, dd, tk0, os⟩
  refine wpAny_bind (wpAny_mkInt ?_)
  show wpAny _ _ (setField (.ref e) 3 (rawInt (c + 1)) >>= _) _ _ ⟨g1, gg, dd, tk0 + 1, os⟩
  refine wpAny_bind (wpAny_setField_rec he1 (by simp) fun g2 he2 sb2 => ?_)
  replace he2 : IsEnum g2 e z (c + 1) old := he2
  replace sb2 : Heap.SameBut e g1 g2 := sb2
  show wpAny _ _ (setField (.ref e) 4 .none >>= _) _ _ ⟨g2, gg, dd, tk0 + 1, os⟩
  refine wpAny_bind (wpAny_setField_rec he2 (by simp) fun g3 he3 sb3 => ?_)
  replace he3 : IsEnum g3 e z (c + 1) old := he3
  replace sb3 : Heap.SameBut e g2 g3 := sb3
  show wpAny _ _ (newTuple [.int c tk0, .ref hp.objs.size] >>= _) _ _ ⟨g3, gg, dd, tk0 + 1, os⟩
  refine wpAny_bind (wpAny_newTuple ?_)
  have sz3 : g3.objs.size = hp.objs.size + 1 := by rw [sb3.1, sb2.1, sz1]
  have he4 : IsEnum (g3.push { cls := .type "tuple", data := .seq #[.int c tk0, .ref hp.objs.size] }) e z (c + 1) old := Heap.get?_push_of_some _ he3
  have nw4 := Heap.get?_push_size g3 (o := { cls := .type "tuple", data := .seq #[.int c tk0, .ref hp.objs.size] }) rfl
  have up4 : ∀ b o, b ≠ e → g1.get? b = some o → (g3.push { cls := .type "tuple", data := .seq #[.int c tk0, .ref hp.objs.size] }).get? b = some o := fun b o ne q => Heap.get?_push_of_some _ (sb3.extBut _ _ ne (sb2.extBut _ _ ne q))
  have sz4 : (g3.push { cls := .type "tuple", data := .seq #[.int c tk0, .ref hp.objs.size] }).objs.size = hp.objs.size + 2 := by rw [Heap.size_push, sz3]
  generalize (g3.push { cls := .type "tuple", data := .seq #[.int c tk0, .ref hp.objs.size] }) = g4 at he4 nw4 up4 sz4
  rw [sz3] at nw4
  show wpAny _ _ (Builtin.SmallTypes.ownedTupleIsFree (.ref e) >>= _) _ _ ⟨g4, gg, dd, tk0 + 1, os⟩
  rw [sz3]
  refine wpAny_bind ?_
  unfold Builtin.SmallTypes.ownedTupleIsFree
  refine wpAny_bind (wpAny_field he4 rfl (x := .none) rfl (wpAny_pure ?_))
  simp only [if_true]
  refine wpAny_bind (wpAny_rule (wpAny_bind (wpAny_field he4 rfl (x := old) rfl (wpAny_bind (wpAny_setField_rec he4 (by simp) fun g5 he5 sb5 => ?_)))))
  replace he5 : IsEnum g5 e z (c + 1) (.ref hp.objs.size) := he5
  replace sb5 : Heap.SameBut e g4 g5 := sb5
  show wpAny _ _ (Builtin.SmallTypes.ownedTupleHandOut (.ref e) (.ref (hp.objs.size + 1)) >>= _) _ _ ⟨g5, gg, dd, tk0 + 1, os⟩
  refine wpAny_bind ?_
  unfold Builtin.SmallTypes.ownedTupleHandOut
  refine wpAny_bind (wpAny_setField_rec he5 (by simp) fun g6 he6 sb6 => ?_)
  replace he6 : IsEnumOut g6 e z (c + 1) (.ref hp.objs.size) (hp.objs.size + 1) := he6
  replace sb6 : Heap.SameBut e g5 g6 := sb6
  refine wpAny_setField_rec he6 (by simp) fun g7 he7 sb7 => ?_
  replace he7 : IsEnumOut g7 e z (c + 1) (.ref hp.objs.size) (hp.objs.size + 1) := he7
  replace sb7 : Heap.SameBut e g6 g7 := sb7
  have up7 : ∀ b o, b ≠ e → g4.get? b = some o → g7.get? b = some o := fun b o ne q => sb7.extBut _ _ ne (sb6.extBut _ _ ne (sb5.extBut _ _ ne q))
  have off : ∀ b ∈ [z, TI, TO, i1, i2], b ≠ e := fun b hb => by
    rcases (show b = z ∨ b = TI ∨ b = TO ∨ b = i1 ∨ b = i2 by simpa using hb) with r | r | r | r | r
    · rw [r]; exact n0.symm
    · rw [r]; exact n4.symm
    · rw [r]; exact n1.symm
    · rw [r]; exact n2.symm
    · rw [r]; exact n3.symm
  refine wpAny_bind (wpAny_letGo (wpAny_pure ⟨_, rfl, hQ g7 tk0 he7 ?_ ?_ ?_ ?_ ?_⟩))
  · exact S1.at fun b hb o q => up7 _ _ (off b hb) (up4 _ _ (off b hb) q)
  · exact up7 _ _ (Nat.ne_of_gt el) (up4 _ _ (Nat.ne_of_gt el) pr1)
  · exact up7 _ _ (Nat.ne_of_gt (Nat.lt_succ_of_lt el)) nw4
  · rw [sb7.1, sb6.1, sb5.1, sz4]
  · exact fun b o b0 b1 b2 b3 b4 q => up7 _ _ b0 (up4 _ _ b0 (kp1 _ _ b1 b2 b3 b4 q))
theorem enum_zip_end {e : Addr} {c : Int} {old : Value} {Q : Option Value → Shared → Prop} (hh : A.handled = none) (D : ZipApart z TI TO i1 i2 l1 l2) (he : IsEnum s.heap e z c old) (S : ZI s.heap z TI TO i1 i2 l1 l2 k) (t1 : s.heap.IsTuple l1 xs) (t2 : s.heap.IsTuple l2 ys) (hn : xs[k]? = none ∨ ys[k]? = none)
    (hQ : ∀ g, (∀ c o, c ≠ z → c ≠ TO → c ≠ i1 → c ≠ i2 → s.heap.get? c = some o → g.get? c = some o) → Q none { s with heap := g }) : wpAny (model prog w) A (pyNext (.ref e)) Q E s := by
  have ty : s.TypeIs (.ref e) "enumerate" := ⟨_, he, rfl⟩
  unfold pyNext
  refine wpAny_bind (wpAny_attempt (wpAny_callSpecial?_slot (name := Str.ofString "__next__") ty F.slot_enumerate_next (wpAny_call_entry F.slot_enumerate_next ty F.entry_enumerate_next ?_ (F.args_enumerate_next_1 _))))
  show wpAny _ _ (field (.ref e) 2 >>= _) _ _ s
  refine wpAny_bind (wpAny_field he rfl (x := .ref z) rfl (wpAny_bind (of_zip_end hh D S t1 t2 hn fun g x kp ⟨o, o1, o2⟩ => ?_)))
  refine wpAny_bind (wpAny_isInstance (T := "StopIteration") (b := true) ⟨o, o1, o2⟩ isSubtype_stop ?_)
  exact wpAny_pure (hQ g kp)
end
end DLZ
set_option Elab.async false
set_option linter.all false
set_option maxRecDepth 100000
set_option maxHeartbeats 1000000
namespace PySem
theorem enumNew_zip {z TI TO : Addr} :
    Meets (Builtin.«enumerate.__new__» ⟨[.type "enumerate", .ref z], []⟩) (fun _ R s => IsZip s.heap z TI TO .none ∧
      R (.ok (.ret (.ref s.heap.objs.size))) { s with heap := s.heap.push { cls := .type "enumerate", data := .fields #[.none, .bool false, .ref z, rawInt 0, .none, .none] } }) :=
  .of_wp fun prog w A R s h => by
    obtain ⟨hp, g, d, tk, os⟩ := s; obtain ⟨h1, h⟩ := h
    have hsub := sub_enumerate
    have q1 : ∀ {B' : Around} {E' : Value → Shared → Prop} {Q' : Value → Shared → Prop}, Q' (.ref z) ⟨hp, g, d, tk, os⟩ → wpAny (model prog w) B' (pyIter (.ref z)) Q' E' ⟨hp, g, d, tk, os⟩ :=
      fun q => wpAny_pyIter_zip h1 q
    wp_walk using q1
    refine wpAny_stack_any fun st => wpAny_pure ?_
    split
    · rename_i c _ _ _ _ _
      cases (c == Value.type "enumerate")
      · wp_walk using q1
        exact ⟨_, rfl, h⟩
      · wp_walk using q1
        exact ⟨_, rfl, h⟩
    · wp_walk using q1
      exact ⟨_, rfl, h⟩
theorem enumCall_zip {prog : Program} {w : World} {A : Around} {E : Value → Shared → Prop} {s : Shared} {z TI TO : Addr} {Q : Value → Shared → Prop} (h1 : IsZip s.heap z TI TO .none)
    (h : ∀ g, IsEnum g s.heap.objs.size z 0 .none → (∀ b u, s.heap.get? b = some u → g.get? b = some u) → Q (.ref s.heap.objs.size) { s with heap := g }) :
    wpAny (model prog w) A (call (.type "enumerate") [.ref z]) Q E s := by
  refine callType_new F.called_enumerate (by decide) (F.typeCall_enumerate_1 _) (F.newCall_enumerate_1 _) (fun obj => F.args_object_init_2 obj _) F.entry_enumerate_new (enumNew_zip (TI := TI) (TO := TO)) ⟨h1, ?_⟩
  have he : IsEnum (s.heap.push { cls := .type "enumerate", data := .fields #[.none, .bool false, .ref z, rawInt 0, .none, .none] }) s.heap.objs.size z 0 .none := Heap.get?_push_size _ rfl
  exact ⟨⟨_, he, rfl⟩, h _ he fun b u x => Heap.get?_push_of_some _ x⟩
end PySem
namespace DL
open PySem PySem.Spec PyProof.Rows L2
/-- the tuples at a and b, the items in new pairs, each in a new pair with its number -/
def ItEz (K : Fg) (a b : Addr) : It :=
  ⟨fun i H => ∃ (xs ys : List V) (x y : V), SqT K H a xs ∧ SqT K H b ys ∧ xs[i]? = some x ∧ ys[i]? = some y,
    fun i H v H' => ∃ T T2 x y, v = .ref T2 ∧ H T = none ∧ T2 ≠ T ∧ H T2 = none ∧ H' = upd (upd H T (.tup [x, y])) T2 (.tup [.int (i : Nat), .ref T]) ∧ (∀ xs, SqT K H a xs → xs[i]? = some x) ∧ ∀ ys, SqT K H b ys → ys[i]? = some y,
    fun i H => ∃ xs ys : List V, SqT K H a xs ∧ SqT K H b ys ∧ (xs.length ≤ i ∨ ys.length ≤ i)⟩
theorem fpOk_upd {X : Cx} {pins : List (Addr × Obj)} {H : Hp} {b T : Addr} {o : HO} (h : FpOk X pins H b) (n : b ≠ T) : FpOk X pins (upd H T o) b :=
  ⟨by rw [upd_ne n]; exact h.1, h.2⟩
open DLZ in
theorem turn_enumZip {P : Program} {w : World} {K : Fg} {elts : List Expr} {k0 : Nat} {tpos : Pos} {a b e z TI TO i1 i2 : Addr} (D : ZipApart z TI TO i1 i2 a b)
    (n0 : e ≠ z) (n1 : e ≠ TO) (n2 : e ≠ i1) (n3 : e ≠ i2) (n4 : e ≠ TI) :
    Turn P w K (.Tuple elts k0 tpos) (ItEz K a b) [e, z, TI, TO, i1, i2] e (fun i h => (∃ old, IsEnum h e z ((i : Nat) : Int) old) ∧ ZI h z TI TO i1 i2 a b i) where
  mem := by simp
  obj := fun i h st c hc => by
    obtain ⟨⟨old, he⟩, ⟨v, bb, hz, _⟩, hTI, ⟨x, y, hTO⟩, ⟨o1, e1, _, d1⟩, ⟨o2, e2, _, d2⟩⟩ := st
    have e' : c = e ∨ c = z ∨ c = TI ∨ c = TO ∨ c = i1 ∨ c = i2 := by simpa using hc
    rcases e' with q | q | q | q | q | q
    · rw [q]; exact ⟨_, he, fun v q => nomatch q⟩
    · rw [q]; exact ⟨_, hz, fun v q => nomatch q⟩
    · rw [q]; exact ⟨_, hTI, fun v q => nomatch q⟩
    · rw [q]; exact ⟨_, hTO, fun v q => nomatch q⟩
    · rw [q]; exact ⟨o1, e1, fun v q => by rw [d1] at q; cases q⟩
    · rw [q]; exact ⟨o2, e2, fun v q => by rw [d2] at q; cases q⟩
  keep := fun i h h' st k => by
    obtain ⟨⟨old, he⟩, S⟩ := st
    exact ⟨⟨old, k e (by simp) _ he⟩, S.at fun c hc o q => k c (List.mem_cons_of_mem _ hc) o q⟩
  item := by
    intro X hP hw hK hc i pins s σ H E I hf st hg
    subst hP hw hK
    obtain ⟨⟨old, he⟩, S⟩ := st
    obtain ⟨xs, ys, x, y, hqx, hqy, hx, hy⟩ := hg
    obtain ⟨its, rv, p, _⟩ := I.tuple hqx
    obtain ⟨its2, rv2, p2, _⟩ := I.tuple hqy
    obtain ⟨u, hu, ru⟩ := rv.get hx
    obtain ⟨u2, hu2, ru2⟩ := rv2.get hy
    have ty : s.TypeIs (.ref e) "enumerate" := ⟨_, he, rfl⟩
    have lt : ∀ c ∈ [e, z, TI, TO, i1, i2], c < s.heap.objs.size := fun c hc => by
      obtain ⟨⟨v, bb, hz, _⟩, hTI, ⟨x, y, hTO⟩, ⟨o1, e1, _, d1⟩, ⟨o2, e2, _, d2⟩⟩ := S
      have e' : c = e ∨ c = z ∨ c = TI ∨ c = TO ∨ c = i1 ∨ c = i2 := by simpa using hc
      rcases e' with q | q | q | q | q | q
      · rw [q]; exact Heap.lt_size he
      · rw [q]; exact Heap.lt_size hz
      · rw [q]; exact Heap.lt_size hTI
      · rw [q]; exact Heap.lt_size hTO
      · rw [q]; exact Heap.lt_size e1
      · rw [q]; exact Heap.lt_size e2
    unfold pyNext
    refine wpAny_bind (wpAny_attempt (wpAny_callSpecial?_slot (name := Str.ofString "__next__") ty F.slot_enumerate_next
      (wpAny_call_entry F.slot_enumerate_next ty F.entry_enumerate_next
        (enum_zip D he S p p2 (x := u) (y := u2) (by simpa using hu) (by simpa using hu2) n0 n1 n2 n3 n4 fun g tk ho S1 hp hT sz hk => wpAny_pure ?_) (F.args_enumerate_next_1 _))))
    refine ⟨_, rfl, wpAny_letOwnedTupleGo_enum (s := { s with heap := g, toks := tk + 1 }) ho fun h'' he' sb => ?_⟩
    have ne1 : s.heap.objs.size ≠ e := Nat.ne_of_gt (lt e (by simp))
    have ne2 : s.heap.objs.size + 1 ≠ e := Nat.ne_of_gt (Nat.lt_succ_of_lt (lt e (by simp)))
    have at1 : h''.get? s.heap.objs.size = some { cls := .type "tuple", data := .seq #[u, u2] } := (sb.2 _ ne1).trans hp
    have at2 : h''.get? (s.heap.objs.size + 1) = some { cls := .type "tuple", data := .seq #[.int i tk, .ref s.heap.objs.size] } := (sb.2 _ ne2).trans hT
    -- the inner pair first
    have at0 : (s.heap.push { cls := .type "tuple", data := .seq #[u, u2] }).get? s.heap.objs.size = some { cls := .type "tuple", data := .seq #[u, u2] } := Heap.get?_push_size _ rfl
    have new1 : ObjOk X.prog X.w (upd H s.heap.objs.size (.tup [x, y])) (s.heap.push { cls := .type "tuple", data := .seq #[u, u2] }) s.heap.objs.size (.tup [x, y]) :=
      ⟨by show 2 ≤ sizeLine; decide, [u, u2], .cons ru (.cons ru2 .nil), ⟨_, at0, rfl, _, rfl⟩⟩
    have I1 : Inv X pins σ (upd H s.heap.objs.size (.tup [x, y])) { s with heap := s.heap.push { cls := .type "tuple", data := .seq #[u, u2] }, toks := s.toks } :=
      I.turnedNew (ch := []) (fun c o _ q => Heap.get?_push_of_some _ q) (fun c h => nomatch h) (Nat.le_refl _) new1
    have sz1 : (s.heap.push { cls := .type "tuple", data := .seq #[u, u2] }).objs.size = s.heap.objs.size + 1 := Heap.size_push ..
    have new2 : ObjOk X.prog X.w (upd (upd H s.heap.objs.size (.tup [x, y])) (s.heap.objs.size + 1) (.tup [.int (i : Nat), .ref s.heap.objs.size])) h'' (s.heap.objs.size + 1) (.tup [.int (i : Nat), .ref s.heap.objs.size]) :=
      ⟨by show 2 ≤ sizeLine; decide, [.int i tk, .ref s.heap.objs.size], .cons ⟨_, rfl⟩ (.cons rfl .nil), ⟨_, at2, rfl, _, rfl⟩⟩
    have I2 : Inv X pins σ (upd (upd H s.heap.objs.size (.tup [x, y])) (s.heap.objs.size + 1) (.tup [.int (i : Nat), .ref s.heap.objs.size])) { s with heap := h'', toks := tk + 1 } :=
      I1.turnedNew (ch := [e, z, TI, TO, i1, i2]) (fun c o hb q => by
          by_cases hcs : c = s.heap.objs.size
          · subst hcs
            have := at0.symm.trans q
            rw [← Option.some.inj this]; exact at1
          · have q' : s.heap.get? c = some o := by
              have := Heap.get?_push_ne s.heap c { cls := .type "tuple", data := .seq #[u, u2] } hcs
              rw [← this]; exact q
            exact (sb.2 c (fun z => hb (by simp [z]))).trans (hk c o (fun z => hb (by simp [z])) (fun z => hb (by simp [z])) (fun z => hb (by simp [z])) (fun z => hb (by simp [z])) (fun z => hb (by simp [z])) q'))
        (fun c hcm => fpOk_upd (hf c hcm) (Nat.ne_of_lt (lt c hcm))) (by rw [sz1]; exact Nat.le_refl _) new2
    refine ⟨.ref (s.heap.objs.size + 1), _, I2, rfl, ⟨s.heap.objs.size, s.heap.objs.size + 1, x, y, rfl, I.hok.fresh (Nat.le_refl _), Nat.succ_ne_self _, I.hok.fresh (Nat.le_succ _), rfl, fun l hl => by rw [I.tuple_inj hl hqx]; exact hx, fun l hl => by rw [I.tuple_inj hl hqy]; exact hy⟩, ⟨⟨.ref s.heap.objs.size, ?_⟩, ?_⟩, fun c hcm => ?_⟩
    · rw [show ((i + 1 : Nat) : Int) = (i : Int) + 1 by omega]; exact he'
    · refine S1.at fun c hc o q => (sb.2 c fun z' => ?_).trans q
      have e' : c = z ∨ c = TI ∨ c = TO ∨ c = i1 ∨ c = i2 := by simpa using hc
      rcases e' with r | r | r | r | r
      · exact n0 (z' ▸ r)
      · exact n4 (z' ▸ r)
      · exact n1 (z' ▸ r)
      · exact n2 (z' ▸ r)
      · exact n3 (z' ▸ r)
    · rw [upd_ne (Nat.ne_of_lt (Nat.lt_succ_of_lt (lt c hcm))), upd_ne (Nat.ne_of_lt (lt c hcm))]
      exact (hf c hcm).1
  done := by
    intro X hP hw hK hc i pins s σ H E I hf st hg
    subst hP hw hK
    obtain ⟨⟨old, he⟩, S⟩ := st
    obtain ⟨xs, ys, hqx, hqy, hend⟩ := hg
    obtain ⟨its, rv, p, _⟩ := I.tuple hqx
    obtain ⟨its2, rv2, p2, _⟩ := I.tuple hqy
    have l1 := rv.length
    have l2 := rv2.length
    have hn : its.toArray[i]? = none ∨ its2.toArray[i]? = none := by
      rcases hend with q | q
      · exact .inl (by simp; omega)
      · exact .inr (by simp; omega)
    exact enum_zip_end (I.ok.hd hc) D he S p p2 hn fun g kp => ⟨rfl, I.turnedL (t' := s.toks) (ch := [e, z, TI, TO, i1, i2]) (fun c o hb q =>
      kp c o (fun q' => hb (by simp [q'])) (fun q' => hb (by simp [q'])) (fun q' => hb (by simp [q'])) (fun q' => hb (by simp [q'])) q) hf⟩
  self := fun A i s Q E st h => let ⟨⟨_, he⟩, _⟩ := st; wpAny_pyIter_enum he h
def iEnumZ (K : Fg) (ta : TA) : TI := fun σ H R => ta σ H fun vs H1 => ∃ a b xs ys, vs = [.ref a, .ref b] ∧ SqT K H1 a xs ∧ SqT K H1 b ys ∧ R (ItEz K a b) H1
open DLZ in
theorem pi_enumZ {X : Cx} {e e2 : Expr} {ta : TA} {p pos p2 pos2 tpos : Pos} {elts : List Expr} {kk : Nat} (hg : Gl X "zip") (hm : X.mg "zip" = none) (hgE : Gl X "enumerate") (hmE : X.mg "enumerate" = none) (ha : PA X [e, e2] ta)
    (hs : starEach [e, e2] X.env = (false, eval e X.env) :: starEach [e2] X.env := by rfl) (hpl : (backTo pos2 (starEach [e2] X.env)).any (·.1) = false := by rfl)
    (hsE : starEach [.Call (.Name "zip" p2) [e, e2] [] pos2] X.env = [(false, eval (.Call (.Name "zip" p2) [e, e2] [] pos2) X.env)] := by rfl) :
    PI X (.Tuple elts kk tpos) (.Call (.Name "enumerate" p) [.Call (.Name "zip" p2) [e, e2] [] pos2] [] pos) (iEnumZ X.K ta) := by
  refine ⟨fun pins s σ H R I h => ?_⟩
  refine Call_ (ld_blt I hgE hmE boot_enumerate (PyProof.Rows.callWith_type1 ?_ hsE rfl))
  rw [hsE]
  refine Calls.spliced_cons (Call_ (ld_blt I hg hm PyProof.Rows.boot_zip (PyProof.Rows.callWith_type1 (thn (ha.run pos2 pins s σ H _ I h) fun us s1 ⟨vs, H1, I1, r1, q1⟩ => ?_) hs hpl)))
  obtain ⟨a, b, xs, ys, ex, hqx, hqy, q⟩ := q1
  subst ex
  cases r1 with
  | cons r rr =>
    cases rr with
    | cons r' rr =>
      cases rr
      cases r
      cases r'
      obtain ⟨its, rv, p1, _⟩ := I1.tuple hqx
      obtain ⟨its2, rv2, p2, _⟩ := I1.tuple hqy
      obtain ⟨o1, ho1, _⟩ := id p1
      obtain ⟨o2, ho2, _⟩ := id p2
      refine RZ.call_zipT (show s1.heap.IsTuple a its.toArray from p1) (show s1.heap.IsTuple b its2.toArray from p2) fun h' hz hTI hTO h1 h2 hsz hk => ?_
      have I2 : Inv X pins σ H1 { s1 with heap := h' } := I1.kept (t' := s1.toks) hk
      refine Calls.spliced_nil ?_
      refine enumCall_zip (s := { s1 with heap := h' }) hz fun g he hk2 => wpAny_pyIter_enum he ?_
      have I3 : Inv X pins σ H1 { s1 with heap := g } := I2.kept (t' := s1.toks) hk2
      have fresh6 : ∀ c, c ∈ [h'.objs.size, s1.heap.objs.size + 4, s1.heap.objs.size + 2, s1.heap.objs.size + 3, s1.heap.objs.size, s1.heap.objs.size + 1] → FpOk X pins H1 c := fun c hcm => by
        have e' : c = h'.objs.size ∨ c = s1.heap.objs.size + 4 ∨ c = s1.heap.objs.size + 2 ∨ c = s1.heap.objs.size + 3 ∨ c = s1.heap.objs.size ∨ c = s1.heap.objs.size + 1 := by simpa using hcm
        have hle : s1.heap.objs.size ≤ c := by
          rcases e' with z | z | z | z | z | z
          · rw [z, hsz]; exact Nat.le_add_right _ _
          · rw [z]; exact Nat.le_add_right _ _
          · rw [z]; exact Nat.le_add_right _ _
          · rw [z]; exact Nat.le_add_right _ _
          · rw [z]; exact Nat.le_refl _
          · rw [z]; exact Nat.le_add_right _ _
        exact I1.fpOk hle (I1.hok.fresh hle)
      have nn : ∀ m k : Nat, k < 5 → m + 5 ≠ m + k := fun m k h => by omega
      have ap := PySem.W.ktu_apart s1.heap.objs.size a b (Heap.lt_size ho1) (Heap.lt_size ho2)
      refine ⟨h'.objs.size, [h'.objs.size, s1.heap.objs.size + 4, s1.heap.objs.size + 2, s1.heap.objs.size + 3, s1.heap.objs.size, s1.heap.objs.size + 1], _, _, H1, rfl, I3, turn_enumZip ap ?_ ?_ ?_ ?_ ?_, ⟨⟨_, he⟩, ⟨⟨_, _, hk2 _ _ hz, .inl rfl⟩, hk2 _ _ hTI, ⟨_, _, hk2 _ _ hTO⟩, h1.at fun o q => hk2 _ _ q, h2.at fun o q => hk2 _ _ q⟩⟩, fresh6, q⟩
      all_goals rw [hsz]
      · exact nn _ 4 (by decide)
      · exact nn _ 3 (by decide)
      · exact nn _ 0 (by decide)
      · exact nn _ 1 (by decide)
      · exact nn _ 2 (by decide)
theorem src_enumZ {K : Fg} {H0 : Hp} {a b : Addr} {xs ys : List V} {ds es : List D} (h : TupZ K H0 a xs) (r : RepAll K H0 xs ds) (h' : TupZ K H0 b ys) (r' : RepAll K H0 ys es) : Src K (ItEz K a b) (enumD (zipD ds es)) H0 where
  goes := fun i H z hi => by
    rw [enumD_len, zipD_len] at hi
    obtain ⟨x, e⟩ := lt_get (l := xs) (i := i) (by rw [r.length]; omega)
    obtain ⟨y, e'⟩ := lt_get (l := ys) (i := i) (by rw [r'.length]; omega)
    exact ⟨xs, ys, x, y, (h.mono z).sq, (h'.mono z).sq, e, e'⟩
  stops := fun H z => ⟨xs, ys, (h.mono z).sq, (h'.mono z).sq, by rw [enumD_len, zipD_len, r.length, r'.length]; omega⟩
  yields := fun i H v H' z hi hy => by
    rw [enumD_len, zipD_len] at hi
    obtain ⟨T, T2, x, y, e1, hn, ne, hn2, e2, f1, f2⟩ := hy
    obtain ⟨d, q1, r1⟩ := r.get (f1 xs (h.mono z).sq)
    obtain ⟨e, q2, r2⟩ := r'.get (f2 ys (h'.mono z).sq)
    refine ⟨_, enumD_get (zipD_get q1 q2), ?_⟩
    subst e1
    obtain ⟨p1, g1⟩ := new_pair hn rfl (r1.mono z) (r2.mono z)
    obtain ⟨p2, g2⟩ := new_pair (H := upd H T (.tup [x, y])) (H' := H') (T := T2) (x := .int (i : Nat)) (y := .ref T) (d := .int (i : Nat)) (by rw [upd_ne ne]; exact hn2) e2 (.int _) p1
    exact ⟨p2, g1.trans g2⟩
theorem ei_enumZ {X : Cx} {R : XP} {Γ : Gam} {a b : Expr} {p pos p2 pos2 : Pos} {es : List Expr} {k0 : Nat} {tpos : Pos} {P : List D → Gam → Prop} (hmE : X.mg "enumerate" = none) (hm : X.mg "zip" = none)
    (h : EV X R a Γ fun d Γ1 => EV X R b Γ1 fun d2 Γ2 => ∃ ds es, d = .tuple ds ∧ d2 = .tuple es ∧ P (enumD (zipD ds es)) Γ2) (hgE : Gl X "enumerate" := by rfl) (hg : Gl X "zip" := by rfl)
    (hs : starEach [a, b] X.env = (false, eval a X.env) :: starEach [b] X.env := by rfl) (hs2 : starEach [b] X.env = [(false, eval b X.env)] := by rfl) (hpl : (backTo pos2 (starEach [b] X.env)).any (·.1) = false := by rfl)
    (hsE : starEach [.Call (.Name "zip" p2) [a, b] [] pos2] X.env = [(false, eval (.Call (.Name "zip" p2) [a, b] [] pos2) X.env)] := by rfl) :
    EI X R (.Tuple es k0 tpos) (.Call (.Name "enumerate" p) [.Call (.Name "zip" p2) [a, b] [] pos2] [] pos) Γ P := fun W tk =>
  pi_weak (pi_enumZ hg hm hgE hmE (pa_cons (pe_any (n := 0) tk) (pa_cons (pe_any (n := 0) tk) pa_nil hs2) hs) hs hpl hsE) fun σ H Q ⟨fp, hE, k, x⟩ => Any.go h hE x (Kt.of0 fun v d Γ1 H1 fp1 h1 r E1 f1 =>
    Any.go h1 E1 (x.trans f1) (Kt.of0 fun v2 d2 Γ2 H2 fp2 ⟨ds, es, e1, e2, q⟩ r2 E2 f2 => by
      have r := r.mono f2.ez
      subst e1
      subst e2
      cases r with
      | tup z1 z2 =>
        cases r2 with
        | tup y1 y2 => exact ⟨_, _, _, _, rfl, z1.sq, y1.sq, k _ _ Γ2 H2 fp2 q (src_enumZ z1 z2 y1 y2) E2 (f1.trans f2)⟩))
end DL
set_option Elab.async false
set_option linter.all false
set_option maxRecDepth 100000
set_option maxHeartbeats 1000000
namespace DL
open PySem PySem.Spec PyProof.Rows L2
section
variable {X : Cx} {R : XP} {W : WX} {Γ : Gam} {m n : Nat} {tg iter elt o e a b c d4 : Expr} {es : List Expr} {kws : List Keyword} {pos p p2 : Pos} {P : D → Gam → Prop} {scope : Scope} {ifs : List Expr} {vs : List Nat}
/-! ### calls, argument by argument -/
theorem eg_callB1 {id : String} {x : Str} (hm : X.mg x = none) (hv : bootBuiltins x = some (.builtin id)) (h : EV X R a Γ fun d1 Γ1 => ∃ d, CallG X (.builtin id) n [d1] d ∧ P d Γ1)
    (hg : Gl X x := by rfl) (hn : x ≠ "__name__" := by decide) (hdb : (x == ("__debug__" : Str)) = false := by decide) (he : starEach [a] X.env = (false, eval a X.env) :: starEach [] X.env := by rfl)
    (hpl : (backTo pos (starEach [] X.env)).any (·.1) = false := by rfl) : EG X R n (.Call (.Name x p) [a] [] pos) Γ P :=
  eg_callB hm hv (ea_cons (EG.imp h fun d1 Γ1 ⟨d, c, q⟩ => ea_nil ⟨[d1], d, rfl, c, q⟩) he) hg hn hdb he hpl
theorem eg_callB2 {id : String} {x : Str} (hm : X.mg x = none) (hv : bootBuiltins x = some (.builtin id)) (h : EV X R a Γ fun d1 Γ1 => EV X R b Γ1 fun d2 Γ2 => ∃ d, CallG X (.builtin id) n [d1, d2] d ∧ P d Γ2)
    (hg : Gl X x := by rfl) (hn : x ≠ "__name__" := by decide) (hdb : (x == ("__debug__" : Str)) = false := by decide) (he : starEach [a, b] X.env = (false, eval a X.env) :: starEach [b] X.env := by rfl) (he2 : starEach [b] X.env = (false, eval b X.env) :: starEach [] X.env := by rfl)
    (hpl : (backTo pos (starEach [b] X.env)).any (·.1) = false := by rfl) : EG X R n (.Call (.Name x p) [a, b] [] pos) Γ P :=
  eg_callB hm hv (ea_cons (EG.imp h fun d1 Γ1 h1 => ea_cons (EG.imp h1 fun d2 Γ2 ⟨d, c, q⟩ => ea_nil ⟨[d1, d2], d, rfl, c, q⟩) he2) he) hg hn hdb he hpl
theorem eg_callT1 {T : String} {x : Str} (hm : X.mg x = none) (hv : bootBuiltins x = some (.type T)) (h : EV X R a Γ fun d1 Γ1 => ∃ d, CallG X (.type T) n [d1] d ∧ P d Γ1)
    (hg : Gl X x := by rfl) (hn : x ≠ "__name__" := by decide) (hdb : (x == ("__debug__" : Str)) = false := by decide) (he : starEach [a] X.env = (false, eval a X.env) :: starEach [] X.env := by rfl)
    (hpl : (backTo pos (starEach [] X.env)).any (·.1) = false := by rfl) : EG X R n (.Call (.Name x p) [a] [] pos) Γ P :=
  eg_callTy hm hv (ea_cons (EG.imp h fun d1 Γ1 ⟨d, c, q⟩ => ea_nil ⟨[d1], d, rfl, c, q⟩) he) hg hn hdb he hpl
/-- arguments that are data, one behind the other -/
def EAs (X : Cx) (R : XP) : List Expr → Gam → (List D → Gam → Prop) → Prop
  | [], Γ, P => P [] Γ
  | e :: es, Γ, P => EV X R e Γ fun d Γ1 => EAs X R es Γ1 fun ds Γ2 => P (d :: ds) Γ2
theorem EAs.imp {P P' : List D → Gam → Prop} : ∀ {es : List Expr} {Γ : Gam}, EAs X R es Γ P → (∀ d Γ', P d Γ' → P' d Γ') → EAs X R es Γ P'
  | [], _, h, i => i _ _ h
  | _ :: es, _, h, i => EG.imp h fun d Γ1 h1 => EAs.imp (es := es) h1 fun ds Γ2 q => i _ _ q
def StarOk (X : Cx) : List Expr → Prop
  | [] => True
  | e :: es => starEach (e :: es) X.env = (false, eval e X.env) :: starEach es X.env ∧ StarOk X es
theorem ea_of {P : List AV → Gam → Prop} : ∀ {es : List Expr} {Γ : Gam}, StarOk X es → EAs X R es Γ (fun ds Γ1 => P (ds.map .pv) Γ1) → EA X R es Γ P
  | [], _, _, h => ea_nil h
  | e :: es, _, s, h => ea_cons (EG.imp h fun d Γ1 h1 => ea_of (es := es) (P := fun as Γ2 => P (.pv d :: as) Γ2) s.2 h1) s.1
theorem ev_tups {x1 : Nat} (hl : es.length ≤ 1000) (h : EAs X R es Γ fun ds Γ1 => P (.tuple ds) Γ1) (hs : StarOk X es) : EV X R (.Tuple es x1 pos) Γ P := by
  refine ev_tup (ea_of hs ?_)
  have : ∀ {es : List Expr} {Γ : Gam} {Q : List D → Gam → Prop}, EAs X R es Γ Q → EAs X R es Γ fun ds Γ1 => ds.length = es.length ∧ Q ds Γ1 := by
    intro es
    induction es with
    | nil => intro Γ Q h; exact ⟨rfl, h⟩
    | cons e es ih =>
      intro Γ Q h
      refine EG.imp (show EV X R e Γ _ from h) fun d Γ1 h1 => ?_
      exact EAs.imp (es := es) (ih (show EAs X R es Γ1 _ from h1)) fun ds Γ2 ⟨q1, q2⟩ => ⟨by simp [q1], q2⟩
  exact EAs.imp (this h) fun ds Γ1 ⟨q1, q2⟩ => ⟨ds, rfl, by omega, q2⟩
theorem eg_lsts (hl : es.length ≤ 1000) (h : EAs X R es Γ fun ds Γ1 => P (.list ds) Γ1) (hs : StarOk X es) : EG X R 1 (.List es pos) Γ P := by
  refine eg_lst (ea_of hs ?_)
  have : ∀ {es : List Expr} {Γ : Gam} {Q : List D → Gam → Prop}, EAs X R es Γ Q → EAs X R es Γ fun ds Γ1 => ds.length = es.length ∧ Q ds Γ1 := by
    intro es
    induction es with
    | nil => intro Γ Q h; exact ⟨rfl, h⟩
    | cons e es ih =>
      intro Γ Q h
      refine EG.imp (show EV X R e Γ _ from h) fun d Γ1 h1 => ?_
      exact EAs.imp (es := es) (ih (show EAs X R es Γ1 _ from h1)) fun ds Γ2 ⟨q1, q2⟩ => ⟨by simp [q1], q2⟩
  exact EAs.imp (this h) fun ds Γ1 ⟨q1, q2⟩ => ⟨ds, rfl, by omega, q2⟩
section
variable {k j : Nat} {x : Str} {st : Stmt} {ps : List Str} {S : List D → D → Prop} {Sx : List D → Addr → List (Str × D) → Prop} {Pre : List D → Prop} {Post : List D → D → Prop}
theorem eg_callS (F : Df X.prog X.w X.K X.mg X.base k x st ps n (pfs S)) (hr : Rm j X.A) (hk : k ≤ j) (h : EAs X R (e :: es) Γ fun ds Γ1 => ds.length = ps.length ∧ ∃ d, S ds d ∧ P d Γ1) (hs : StarOk X (e :: es))
    (hg : Gl X x := by rfl) (hdb : (x == ("__debug__" : Str)) = false := by decide) (hpl : (backTo pos (starEach es X.env)).any (·.1) = false := by rfl) : EG X R n (.Call (.Name x p) (e :: es) [] pos) Γ P :=
  eg_callP F hr hk (ea_of hs (EAs.imp h fun ds Γ1 ⟨q1, d, q2, q3⟩ => ⟨ds, d, rfl, q1, q2, q3⟩)) hg hdb hs.1 hpl
theorem eg_callSX (F : Df X.prog X.w X.K X.mg X.base k x st ps n (pfx S Sx)) (hr : Rm j X.A) (hk : k ≤ j) (h : EAs X R (e :: es) Γ fun ds Γ1 => ds.length = ps.length ∧ ((∃ d, S ds d ∧ P d Γ1) ∨ ∃ C fs, Sx ds C fs ∧ R C fs Γ1)) (hs : StarOk X (e :: es))
    (hg : Gl X x := by rfl) (hdb : (x == ("__debug__" : Str)) = false := by decide) (hpl : (backTo pos (starEach es X.env)).any (·.1) = false := by rfl) : EG X R n (.Call (.Name x p) (e :: es) [] pos) Γ P :=
  eg_callX F hr hk (ea_of hs (EAs.imp h fun ds Γ1 ⟨q1, q2⟩ => ⟨ds, rfl, q1, q2⟩)) hg hdb hs.1 hpl
theorem eg_callSQ (F : Df X.prog X.w X.K X.mg X.base k x st ps n (pfq Pre Post)) (hr : Rm j X.A) (hk : k ≤ j) (h : EAs X R (e :: es) Γ fun ds Γ1 => ds.length = ps.length ∧ Pre ds ∧ ∀ d, Post ds d → P d Γ1) (hs : StarOk X (e :: es))
    (hg : Gl X x := by rfl) (hdb : (x == ("__debug__" : Str)) = false := by decide) (hpl : (backTo pos (starEach es X.env)).any (·.1) = false := by rfl) : EG X R n (.Call (.Name x p) (e :: es) [] pos) Γ P :=
  eg_callQ F hr hk (ea_of hs (EAs.imp h fun ds Γ1 ⟨q1, q2, q3⟩ => ⟨ds, rfl, q1, q2, q3⟩)) hg hdb hs.1 hpl
end
theorem EG.cut {R : XP} {e : Expr} {Γ : Gam} {P : D → Gam → Prop} (d0 : D) (h : EG X R n e Γ fun d Γ1 => d = d0 ∧ Γ1 = Γ) (k : P d0 Γ) : EG X R n e Γ P :=
  h.imp fun d Γ1 ⟨e1, e2⟩ => by
    subst e1
    subst e2
    exact k
/-! ### comprehensions over what a list is made of -/
theorem lci_mapL {α : Type} {ds : List D} {Γ1 Γw : Gam} (L : List α) (e : α → D) (g : α → D) (hds : ds = L.map e) (hl : L.length ≤ 16777216) (hw : wipeG Γ1 vs = Γw) (hP : P (.list (L.map g)) (restore Γ1 Γw vs))
    (h : ∀ x ∈ L, ∀ s H C cl fp, GT (bx X scope s H C cl fp) vs tg (e x) Γw fun Γ3 => ∀ s H C cl fp, EG (bx X scope s H C cl fp) noX n elt Γ3 fun e' Γ5 => e' = g x ∧ wipeG Γ5 vs = Γw) :
    LcI X scope vs n tg elt [] P ds Γ1 := by
  subst hds
  refine ⟨fun i acc Γ => acc = (L.take i).map g ∧ Γ = Γw, by simpa using hl, ⟨by simp, hw⟩, ?_, ?_⟩
  · rintro i d acc Γ2 hd ha ⟨rfl, rfl⟩ s H C cl fp
    obtain ⟨x, hx, rfl⟩ : ∃ x, L[i]? = some x ∧ e x = d := by simpa using hd
    refine pg_weak (h x (List.mem_of_getElem? hx) s H C cl fp) fun v σ H Q ⟨r, fp, hE, k⟩ => ⟨r, fp, hE, fun σ' Γ' H' fp' hP' => k σ' Γ' H' fp' ?_⟩
    intro s H C cl fp
    refine ⟨fun _ s H C cl fp => EG.imp (hP' s H C cl fp) fun e' Γ5 ⟨q1, q2⟩ => ⟨?_, q2⟩, fun z => nomatch z⟩
    rw [q1, List.take_add_one, hx]
    simp
  · rintro acc Γ2 ⟨rfl, rfl⟩
    have : (L.map e).length = L.length := by simp
    rw [this, List.take_length]
    exact hP
theorem lci_filterL {α : Type} {ds : List D} {Γ1 Γw : Gam} {c : Expr} (L : List α) (e : α → D) (g : α → D) (t : α → Bool) (hds : ds = L.map e) (hl : L.length ≤ 16777216) (hw : wipeG Γ1 vs = Γw) (hP : P (.list ((L.filter t).map g)) (restore Γ1 Γw vs))
    (h : ∀ x ∈ L, ∀ s H C cl fp, GT (bx X scope s H C cl fp) vs tg (e x) Γw fun Γ3 => ∀ s H C cl fp, ET (bx X scope s H C cl fp) noX c Γ3 fun b Γ4 => b = t x ∧ wipeG Γ4 vs = Γw ∧ (b = true → ∀ s H C cl fp, EG (bx X scope s H C cl fp) noX n elt Γ4 fun e' Γ5 => e' = g x ∧ wipeG Γ5 vs = Γw)) :
    LcI X scope vs n tg elt [c] P ds Γ1 := by
  subst hds
  refine ⟨fun i acc Γ => acc = ((L.take i).filter t).map g ∧ Γ = Γw, by simpa using hl, ⟨by simp, hw⟩, ?_, ?_⟩
  · rintro i d acc Γ2 hd ha ⟨rfl, rfl⟩ s H C cl fp
    obtain ⟨x, hx, rfl⟩ : ∃ x, L[i]? = some x ∧ e x = d := by simpa using hd
    refine pg_weak (h x (List.mem_of_getElem? hx) s H C cl fp) fun v σ H Q ⟨r, fp, hE, k⟩ => ⟨r, fp, hE, fun σ' Γ' H' fp' hP' => k σ' Γ' H' fp' ?_⟩
    intro s H C cl fp
    have hT : (L.take (i + 1)).filter t = (L.take i).filter t ++ if t x then [x] else [] := by
      rw [List.take_add_one, hx, List.filter_append]
      cases h : t x <;> simp [h]
    refine ET.imp (show ET _ noX c _ _ from hP' s H C cl fp) fun b Γ4 ⟨e1, e2, e3⟩ => ⟨fun hb s H C cl fp => EG.imp (e3 hb s H C cl fp) fun e' Γ5 ⟨q1, q2⟩ => ⟨?_, q2⟩, fun hb => ⟨?_, e2⟩⟩
    · rw [hT, ← e1, hb, q1]; simp
    · rw [hT, ← e1, hb]; simp
  · rintro acc Γ2 ⟨rfl, rfl⟩
    have : (L.map e).length = L.length := by simp
    rw [this, List.take_length]
    exact hP
/-! ### loops over what a list is made of -/
theorem s1_forL {α : Type} {ix : List Nat} {body : List Stmt} {Po' : Po} (hp : PassesOwn (model X.prog X.w) X.A X.env X.xe) (hc : X.calm = true)
    (h : EI X R tg iter Γ fun ds Γ1 => ∃ (L : List α) (f : α → D) (I : List α → Gam → Prop), ds = L.map f ∧ I [] Γ1 ∧ (∀ pre x post Γ2, L = pre ++ x :: post → I pre Γ2 → GT X ix tg (f x) Γ2 fun Γ3 => SS X R m body Γ3 { Po' with nx := I (pre ++ [x]), ct := I (pre ++ [x]), bk := Po'.nx }) ∧ ∀ Γ2, I L Γ2 → Po'.nx Γ2)
    (hs : ∀ x, foldedSetIterable iter X.env x = pure x := by intro _; rfl) : S1 X R m (.For tg iter body [] pos) Γ Po' := by
  refine s1_for (ix := ix) hp hc ?_ hs
  refine EI.imp h fun ds Γ1 ⟨L, f, I, e, h0, h1, h2⟩ => ?_
  subst e
  refine ⟨fun i Γ => I (L.take i) Γ, by simpa using h0, ?_, ?_⟩
  · intro i d Γ2 hd hI
    obtain ⟨x, hx, rfl⟩ : ∃ x, L[i]? = some x ∧ f x = d := by simpa using hd
    have e1 : L.take (i + 1) = L.take i ++ [x] := by rw [List.take_add_one, hx]; rfl
    have e2 : L = L.take i ++ x :: L.drop (i + 1) := by
      have hi := (List.getElem?_eq_some_iff.mp hx)
      obtain ⟨hlt, rfl⟩ := hi
      rw [List.getElem_cons_drop]
      exact (List.take_append_drop i L).symm
    have h3 := h1 _ x _ Γ2 e2 hI
    rw [← e1] at h3
    exact h3
  · intro Γ2 hI
    have : (L.map f).length = L.length := by simp
    rw [this, List.take_length] at hI
    exact h2 _ hI
end
end DL
set_option Elab.async false
set_option linter.all false
set_option maxRecDepth 100000
set_option maxHeartbeats 1000000
namespace DL
open PySem PySem.Spec PyProof.Rows L2
/-! ### values of any kind -/
def keyOk : D → Bool
  | .int _ => true
  | .str _ => true
  | _ => false
/-- the code of a house -/
def isHsK : List (D × D) → Bool
  | [(.bool false, .none)] => true
  | _ => false
def isHsD : D → Bool
  | .dict kvs => isHsK kvs
  | _ => false
theorem isHsK_eq {kvs : List (D × D)} (h : isHsK kvs = true) : kvs = [(.bool false, .none)] := by
  unfold isHsK at h
  split at h
  · rfl
  · cases h
theorem isHsD_eq {d : D} (h : isHsD d = true) : d = hsD := by
  cases d <;> first | (rw [isHsK_eq h]) | cases h
/-- not one of the codes for ranges and caught exceptions -/
def realD : D → Bool
  | .dict kvs => isHsK kvs || kvs.all fun p => keyOk p.1
  | _ => true
/-- a value's type, houses too -/
def TyH (K : Fg) (H : Hp) (v : V) (t : Value) : Prop := TyX K H v t ∨ ∃ a dx o fs, v = .ref a ∧ H a = some (.frz o (.ins (hsA K) dx fs)) ∧ HsC K ∧ t = .ref (hsA K)
def tyV (K : Fg) (d : D) : Value := if isHsD d = true then .ref (hsA K) else .type (tyD d)
theorem ty_repH {K : Fg} {H : Hp} {v : V} {d : D} (h : Rep K H v d) (r : realD d = true) : TyH K H v (tyV K d) := by
  cases h with
  | non => exact .inl (.base .non)
  | bl b => exact .inl (.base (.bl b))
  | int i => exact .inl (.base (.int i))
  | str x => exact .inl (.base (.str x))
  | lst h _ => obtain ⟨o, h⟩ := h; exact .inl (.base (.frz h))
  | tup h _ =>
    rcases h.sq with (h | ⟨o, h⟩) | ⟨o, us, n, h1, h2, _⟩
    · exact .inl (.base (.tup h))
    · exact .inl (.fTuple h)
    · exact .inl (.kTuple h1 h2)
  | @dct a o ks kvs h rk =>
    have e : isHsK kvs = false := by
      cases q : isHsK kvs with
      | false => rfl
      | true =>
        rw [isHsK_eq q] at rk
        generalize hk : (PyData.bool false : D) = kk at rk
        cases rk with
        | @cons k1 _ _ _ _ _ _ => cases k1 <;> cases hk
    have e2 : tyV K (.dict kvs) = .type "dict" := by
      unfold tyV
      rw [show isHsD (.dict kvs) = false from e]; rfl
    rw [e2]
    exact .inl (.fDict h)
  | rng h => exact absurd r (by simp [realD, keyOk, isHsK])
  | xv h _ => exact absurd r (by simp [realD, keyOk, isHsK])
  | hs h c => exact .inr ⟨_, _, _, _, rfl, h, c, rfl⟩
theorem hs_rep {K : Fg} {H : Hp} {v : V} (h : Rep K H v hsD) : HsC K := by
  generalize e : hsD = d0 at h
  cases h with
  | dct h1 r1 =>
    cases e
    generalize hk : (PyData.bool false : D) = kk at r1
    cases r1 with
    | @cons k1 _ _ _ _ _ _ => cases k1 <;> cases hk
  | rng h => simp at e
  | xv h _ => simp at e
  | hs h c => exact c
  | _ => cases e
theorem kit_ofH {X : Cx} {pins : List (Addr × Obj)} {σ : L2.St} {H : Hp} {s : Shared} {x : V} {u t : Value} (I : Inv X pins σ H s) (rx : RelV x u) (ty : TyH X.K H x t) : ∃ P : Heap → Prop, PySem.W.KitX X.K u t P ∧ P s.heap ∧ u ≠ .builtin "__main__.__loader__#opaque" := by
  rcases ty with ty | ⟨a, dx, o, fs, rfl, e, c, rfl⟩
  · exact kit_of I rx ty
  · cases (show u = Value.ref a from rx)
    obtain ⟨_, q⟩ := (show ObjOk X.prog X.w H s.heap a (.frz o (.ins (hsA X.K) dx fs)) from I.hok a _ e)
    obtain ⟨d, z, ne, ob, mA, n, r, q⟩ := (show ObjOk X.prog X.w H s.heap a (.ins (hsA X.K) dx fs) from q)
    have O : ObjM s.heap a dx (hsA X.K) mA := ⟨ob, n, ne⟩
    obtain ⟨od, J, _⟩ := O.look
    exact ⟨_, PySem.W.kitx_own (c.cl.get _) c.cl.hd c.ha c.hn c.htk c.hm, J, fun z => nomatch z⟩
def rIsiH (K : Fg) : List V → Hp → VK → Prop := fun xs H Q => ∃ (x c : V) (t u : Value) (b : Bool), xs = [x, c] ∧ ClsV c u ∧ TyH K H x t ∧ PySem.W.kitOne K t u = some b ∧ Q (.bl b) H
theorem call_isiH {X : Cx} : CallR X (.builtin "isinstance") (rIsiH X.K) := by
  intro pins s σ H xs us Q I r h
  obtain ⟨x, c, t, u, b, rfl, k, ty, e, q⟩ := h
  obtain ⟨u1, u2, rfl, r1, r2⟩ := vals2 r
  have e2 := k.eq r2
  subst e2
  obtain ⟨P, Z, p, hx⟩ := kit_ofH I r1 ty
  exact PySem.W.kia_one Z I.kIn p e hx fun tk => ⟨.bl b, H, I.tok tk, rfl, q⟩
def rIsiHT (K : Fg) : List V → Hp → VK → Prop := fun xs H Q => ∃ (x : V) (tp : Addr) (cs : List V) (t : Value) (us : List Value) (b : Bool), xs = [x, .ref tp] ∧ H tp = some (.tup cs) ∧ Paired ClsV cs us ∧ TyH K H x t ∧ PySem.W.kitAny K t us = some b ∧ Q (.bl b) H
theorem call_isiHT {X : Cx} : CallR X (.builtin "isinstance") (rIsiHT X.K) := by
  intro pins s σ H xs us Q I r h
  obtain ⟨x, tp, cs, t, ws, b, rfl, hT, k, ty, e, q⟩ := h
  obtain ⟨u1, u2, rfl, r1, r2⟩ := vals2 r
  cases (show u2 = Value.ref tp from r2)
  obtain ⟨P, Z, p, hx⟩ := kit_ofH I r1 ty
  obtain ⟨_, its, rv, o, h1, h2, n, h3⟩ := (show ObjOk X.prog X.w H s.heap tp (.tup cs) from I.hok tp _ hT)
  have e3 := ClsV.all k rv
  subst e3
  obtain ⟨oc, od, dt, sl⟩ := o
  simp only at h2 h3
  subst h2 h3
  exact PySem.W.kia_tup Z I.kIn p h1 e hx fun tk => ⟨.bl b, H, I.tok tk, rfl, q⟩
mutual
/-- a value of any kind, not too long -/
def okD : D → Bool
  | .list ds => decide (ds.length ≤ 10000) && okAll ds
  | .tuple ds => decide (ds.length ≤ 10000) && okAll ds
  | .dict kvs => isHsK kvs || decide (kvs.length ≤ 10000) && okKV kvs
  | _ => true
def okAll : List D → Bool
  | [] => true
  | d :: ds => okD d && okAll ds
def okKV : List (D × D) → Bool
  | [] => true
  | (k, d) :: kvs => keyOk k && okD d && okKV kvs
end
theorem okAll_iff : ∀ {ds : List D}, okAll ds = true ↔ ∀ d ∈ ds, okD d = true
  | [] => by simp [okAll]
  | d :: ds => by simp [okAll, okAll_iff (ds := ds)]
theorem okKV_iff : ∀ {ds : List (D × D)}, okKV ds = true ↔ ∀ p ∈ ds, keyOk p.1 = true ∧ okD p.2 = true
  | [] => by simp [okKV]
  | (k, d) :: ds => by simp [okKV, okKV_iff (ds := ds)]
theorem ok_real {d : D} (h : okD d = true) : realD d = true := by
  cases d <;> try rfl
  rename_i kvs
  simp only [okD, Bool.or_eq_true, Bool.and_eq_true, okKV_iff] at h
  simp only [realD, Bool.or_eq_true, List.all_eq_true]
  exact h.imp id fun h p m => (h.2 p m).1
theorem ok_tup {ds : List D} (h : okD (.tuple ds) = true) : ds.length ≤ 10000 ∧ ∀ d ∈ ds, okD d = true := by
  simpa [okD, okAll_iff] using h
theorem ok_lst {ds : List D} (h : okD (.list ds) = true) : ds.length ≤ 10000 ∧ ∀ d ∈ ds, okD d = true := by
  simpa [okD, okAll_iff] using h
theorem okD_tup {ds : List D} (h : ds.length ≤ 10000) (h2 : ∀ d ∈ ds, okD d = true) : okD (.tuple ds) = true := by
  simpa [okD, okAll_iff] using ⟨h, h2⟩
theorem okD_lst {ds : List D} (h : ds.length ≤ 10000) (h2 : ∀ d ∈ ds, okD d = true) : okD (.list ds) = true := by
  simpa [okD, okAll_iff] using ⟨h, h2⟩
def isTupD : D → Bool
  | .tuple _ => true
  | _ => false
def isIntD : D → Bool
  | .int _ => true
  | .bool _ => true
  | _ => false
def isStrD : D → Bool
  | .str _ => true
  | _ => false
section
variable {X : Cx} {R : XP} {W : WX} {Γ : Gam} {m n : Nat} {o e a b c i : Expr} {es : List Expr} {pos pos' p : Pos} {P : D → Gam → Prop}
/-- the answer about a built-in type other than dict -/
theorem kitH {K : Fg} {H : Hp} {v : V} {d : D} {T : String} {b : Bool} (h : Rep K H v d) (hT : T ∈ ["int", "bool", "str", "tuple", "list"]) (k : kitB (tyD d) T = some b) : PySem.W.kitOne K (tyV K d) (.type T) = some b := by
  unfold tyV
  split
  · rename_i e
    have e := isHsD_eq e
    subst e
    have c := hs_rep h
    have k2 : kitB "dict" T = some b := k
    have hf : kitB "dict" T = some false := by
      simp only [List.mem_cons, List.not_mem_nil, or_false] at hT
      rcases hT with rfl | rfl | rfl | rfl | rfl <;> decide +kernel
    rw [hf] at k2
    cases k2
    refine c.ty T ?_
    simp only [List.mem_cons, List.not_mem_nil, or_false] at hT
    rcases hT with rfl | rfl | rfl | rfl | rfl <;> decide
  · exact kit_ty k
theorem ev_isi {T : Str} {Tn : String} {p2 : Pos} (hm : X.mg "isinstance" = none) (hmT : X.mg T = none) (hvT : bootBuiltins T = some (.type Tn)) (h : EV X R e Γ fun d Γ1 => realD d = true ∧ ∃ b, kitB (tyD d) Tn = some b ∧ P (.bool b) Γ1)
    (hTn : Tn ∈ ["int", "bool", "str", "tuple", "list"] := by decide)
    (hg : Gl X "isinstance" := by rfl) (hgT : Gl X T := by rfl) (hv : bootBuiltins "isinstance" = some (.builtin "isinstance") := by decide +kernel) (hnT : T ≠ "__name__" := by decide) (hdT : (T == ("__debug__" : Str)) = false := by decide)
    (he : starEach [e, .Name T p2] X.env = (false, eval e X.env) :: starEach [.Name T p2] X.env := by rfl) (he2 : starEach [.Name T p2] X.env = (false, eval (.Name T p2) X.env) :: starEach [] X.env := by rfl) (hpl : (backTo pos (starEach [.Name T p2] X.env)).any (·.1) = false := by rfl) :
    EV X R (.Call (.Name "isinstance" p) [e, .Name T p2] [] pos) Γ P := fun W tk =>
  pe_weak (pe_callB call_isiH hg hm hv (pa_cons (pe_any (n := 0) tk) (pa_cons (pe_bltn (v := .ty Tn) hgT hmT hvT rfl hnT hdT) pa_nil he2) he) (by decide) (by decide) he hpl) fun σ H Q ⟨fp, hE, k, x⟩ => Any.go h hE x (Kt.of0 fun v d Γ1 H1 fp1 ⟨nd, b, kb, q⟩ r E1 f1 =>
    ⟨v, .ty Tn, _, _, b, rfl, .ty Tn, ty_repH r nd, kitH r hTn kb, k.to0 q (.bl b) E1 f1⟩)
def isDctD : D → Bool
  | .dict kvs => !isHsK kvs
  | _ => false
theorem kitHd {K : Fg} {H : Hp} {v : V} {d : D} (h : Rep K H v d) : PySem.W.kitOne K (tyV K d) (.type "dict") = some (isDctD d) := by
  unfold tyV
  split
  · rename_i e
    have e := isHsD_eq e
    subst e
    have c := hs_rep h
    exact c.ty "dict" (by decide)
  · rename_i e
    cases d with
    | dict kvs =>
      have e2 : isHsK kvs = false := by cases q : isHsK kvs with | false => rfl | true => exact absurd q e
      show kitB "dict" "dict" = some (!isHsK kvs)
      rw [e2]; decide +kernel
    | none => exact show kitB "NoneType" "dict" = some false by decide +kernel
    | bool _ => exact show kitB "bool" "dict" = some false by decide +kernel
    | int _ => exact show kitB "int" "dict" = some false by decide +kernel
    | str _ => exact show kitB "str" "dict" = some false by decide +kernel
    | list _ => exact show kitB "list" "dict" = some false by decide +kernel
    | tuple _ => exact show kitB "tuple" "dict" = some false by decide +kernel
theorem kitHo {K : Fg} {H : Hp} {v : V} {d : D} (h : Rep K H v d) (c : HsC K) : PySem.W.kitOne K (tyV K d) (.ref (hsA K)) = some (isHsD d) := by
  unfold tyV
  split
  · rename_i e
    rw [e]; exact c.own
  · rename_i e
    have e : isHsD d = false := by cases q : isHsD d with | false => rfl | true => exact absurd q e
    rw [e]
    exact c.no (tyD d) (by cases d <;> simp [tyD, hsTs])
theorem ev_isiD {p2 : Pos} (hm : X.mg "isinstance" = none) (hmT : X.mg "dict" = none) (h : EV X R e Γ fun d Γ1 => realD d = true ∧ P (.bool (isDctD d)) Γ1)
    (hg : Gl X "isinstance" := by rfl) (hgT : Gl X "dict" := by rfl) (hv : bootBuiltins "isinstance" = some (.builtin "isinstance") := by decide +kernel) (hvT : bootBuiltins "dict" = some (.type "dict") := by decide +kernel)
    (he : starEach [e, .Name "dict" p2] X.env = (false, eval e X.env) :: starEach [.Name "dict" p2] X.env := by rfl) (he2 : starEach [.Name "dict" p2] X.env = (false, eval (.Name "dict" p2) X.env) :: starEach [] X.env := by rfl) (hpl : (backTo pos (starEach [.Name "dict" p2] X.env)).any (·.1) = false := by rfl) :
    EV X R (.Call (.Name "isinstance" p) [e, .Name "dict" p2] [] pos) Γ P := fun W tk =>
  pe_weak (pe_callB call_isiH hg hm hv (pa_cons (pe_any (n := 0) tk) (pa_cons (pe_bltn (v := .ty "dict") hgT hmT hvT rfl (by decide) (by decide)) pa_nil he2) he) (by decide) (by decide) he hpl) fun σ H Q ⟨fp, hE, k, x⟩ => Any.go h hE x (Kt.of0 fun v d Γ1 H1 fp1 ⟨nd, q⟩ r E1 f1 =>
    ⟨v, .ty "dict", _, _, _, rfl, .ty "dict", ty_repH r nd, kitHd r, k.to0 q (.bl _) E1 f1⟩)
theorem ev_isiO {p2 : Pos} (c : HsC X.K) (hm : X.mg "isinstance" = none) (hmT : X.mg "House" = some (.ref (hsA X.K))) (h : EV X R e Γ fun d Γ1 => realD d = true ∧ P (.bool (isHsD d)) Γ1)
    (hg : Gl X "isinstance" := by rfl) (hgT : Gl X "House" := by rfl) (hv : bootBuiltins "isinstance" = some (.builtin "isinstance") := by decide +kernel)
    (he : starEach [e, .Name "House" p2] X.env = (false, eval e X.env) :: starEach [.Name "House" p2] X.env := by rfl) (he2 : starEach [.Name "House" p2] X.env = (false, eval (.Name "House" p2) X.env) :: starEach [] X.env := by rfl) (hpl : (backTo pos (starEach [.Name "House" p2] X.env)).any (·.1) = false := by rfl) :
    EV X R (.Call (.Name "isinstance" p) [e, .Name "House" p2] [] pos) Γ P := fun W tk =>
  pe_weak (pe_callB call_isiH hg hm hv (pa_cons (pe_any (n := 0) tk) (pa_cons (pe_glob (v := .ref (hsA X.K)) hgT hmT rfl (by decide)) pa_nil he2) he) (by decide) (by decide) he hpl) fun σ H Q ⟨fp, hE, k, x⟩ => Any.go h hE x (Kt.of0 fun v d Γ1 H1 fp1 ⟨nd, q⟩ r E1 f1 =>
    ⟨v, .ref (hsA X.K), _, _, _, rfl, .own _, ty_repH r nd, kitHo r c, k.to0 q (.bl _) E1 f1⟩)
theorem kit_tup' (d : D) : kitB (tyD d) "tuple" = some (isTupD d) := by rw [kit_tuple]; cases d <;> rfl
theorem kit_int' (d : D) : kitB (tyD d) "int" = some (isIntD d) := by rw [kit_int]; cases d <;> rfl
theorem kit_str' (d : D) : kitB (tyD d) "str" = some (isStrD d) := by rw [kit_str]; cases d <;> rfl
end
/-! ### what is looked at without raising: len, and so on, of a tuple; equality of any value with a flat one -/
end DL
set_option Elab.async false
set_option linter.all false
set_option maxRecDepth 100000
set_option maxHeartbeats 4000000
set_option pp.maxSteps 600
namespace KX
open PySem PySem.Spec PyProof.Rows L2 DL
def top (i : Nat) : Stmt := PySem.Challenge.pw_otherpace_k03_whole_powers_obey_the_bott.main.body.getD i (.Pass ⟨0, 0, 0, 0⟩)
theorem boot_isi : bootBuiltins "isinstance" = some (.builtin "isinstance") := by decide +kernel
theorem boot_bool : bootBuiltins "bool" = some (.type "bool") := by decide +kernel
theorem boot_all : bootBuiltins "all" = some (.builtin "all") := by decide +kernel
theorem boot_sorted : bootBuiltins "sorted" = some (.builtin "sorted") := by decide +kernel
theorem boot_max : bootBuiltins "max" = some (.builtin "max") := by decide +kernel
theorem boot_min : bootBuiltins "min" = some (.builtin "min") := by decide +kernel
theorem boot_sum : bootBuiltins "sum" = some (.builtin "sum") := by decide +kernel
theorem boot_abs : bootBuiltins "abs" = some (.builtin "abs") := by decide +kernel
theorem boot_repr : bootBuiltins "repr" = some (.builtin "repr") := by decide +kernel
theorem boot_str : bootBuiltins "str" = some (.type "str") := by decide +kernel
theorem boot_tuple : bootBuiltins "tuple" = some (.type "tuple") := by decide +kernel
theorem boot_list : bootBuiltins "list" = some (.type "list") := by decide +kernel
theorem boot_range : bootBuiltins "range" = some (.type "range") := by decide +kernel
/-- the names that stand for the world's own -/
structure Fre (mg : Str → Option Value) : Prop where
  isi : mg "isinstance" = none
  int : mg "int" = none
  bool : mg "bool" = none
  tuple : mg "tuple" = none
  list : mg "list" = none
  str : mg "str" = none
  len : mg "len" = none
  all : mg "all" = none
  sorted : mg "sorted" = none
  range : mg "range" = none
  enum : mg "enumerate" = none
  zip : mg "zip" = none
  sum : mg "sum" = none
  max : mg "max" = none
  min : mg "min" = none
  abs : mg "abs" = none
  repr : mg "repr" = none
  dict : mg "dict" = none
section
variable {P : Program} {w : World} {K : Fg} {mg : Str → Option Value} {base : Heap} (G : Fre mg)
include G
/-! ### checks, of any value -/
def isI : D → Bool
  | .int _ => true
  | _ => false
omit G in
theorem isI_of {x : D} (h : isI x = true) : ∃ i, x = .int i := by cases x <;> first | (cases h; done) | exact ⟨_, rfl⟩
def S_is_integer : List D → D → Prop := fun ds d => ∃ x, ds = [x] ∧ realD x = true ∧ d = .bool (isI x)
abbrev n_is_integer : List Str := ["thing"]
omit G in
theorem nd_is_integer : n_is_integer.Nodup := by decide
theorem b_is_integer {k : Nat} {ds : List D} {d0 : D} (S : S_is_integer ds d0) : BodyP P w K mg base k n_is_integer ["thing"] (top 16) 0 ds (fun d' => d' = d0) (fun _ _ => False) := by
  obtain ⟨x, rfl, hx, rfl⟩ := S
  intro qual f cdv A outer s H E
  conv in (occs := *) defScope _ => all_goals whnf
  conv in defBody _ => whnf
  intro hr
  show SS _ _ _ _ [.pv x] _
  refine (ss_one (s1_ret (ev_and (ev_isi (Tn := "int") G.isi G.int boot_int (ev_var 0 rfl ⟨hx, _, kit_int' _, ⟨_, rfl, fun h1 => (ev_one (ev_not (ev_isi (Tn := "bool") G.isi G.bool boot_bool (ev_var 0 rfl ⟨hx, _, kit_bool _, ⟨_, rfl, ⟨le_ok rfl, ?_⟩⟩⟩)))), fun h2 => ⟨le_ok rfl, ?_⟩⟩⟩)))))
  · cases x <;> first | rfl | cases h1
  · cases x <;> first | rfl | cases h2
def isBet (a b : Int) : D → Bool
  | .int i => decide (a ≤ i ∧ i ≤ b)
  | _ => false
def S_is_between : List D → D → Prop := fun ds d => ∃ x a b, ds = [x, .int a, .int b] ∧ realD x = true ∧ d = .bool (isBet a b x)
abbrev n_is_between : List Str := ["thing", "least", "most"]
omit G in
theorem nd_is_between : n_is_between.Nodup := by decide
theorem b_is_between (F1 : Df P w K mg base 1 "is_integer" (top 16) ["thing"] 0 (pfs S_is_integer)) {k : Nat} (hk : 1 ≤ k) {ds : List D} {d0 : D} (S : S_is_between ds d0) : BodyP P w K mg base k n_is_between ["thing", "least", "most"] (top 18) 0 ds (fun d' => d' = d0) (fun _ _ => False) := by
  obtain ⟨x, a, b, rfl, hx, rfl⟩ := S
  intro qual f cdv A outer s H E
  conv in (occs := *) defScope _ => all_goals whnf
  conv in defBody _ => whnf
  intro hr
  show SS _ _ _ _ [.pv x, .pv (.int a), .pv (.int b)] _
  refine (ss_one (s1_ret (ev_and (eg_callS F1 hr hk (ev_var 0 rfl ⟨rfl, _, ⟨_, rfl, hx, rfl⟩, ⟨_, rfl, fun h1 => ?_, fun h2 => ⟨le_ok rfl, ?_⟩⟩⟩) ⟨rfl, trivial⟩))))
  · obtain ⟨i, rfl⟩ := isI_of h1
    refine ev_one (ev_chain (ev_var 1 rfl (ev_var 0 rfl ⟨_, c_le, fun z1 => (ev_var 2 rfl ⟨_, c_le, ⟨le_ok rfl, ?_⟩⟩), fun z2 => ⟨le_ok rfl, ?_⟩⟩)))
    · simp only [decide_eq_true_eq] at z1
      simp [isBet, z1]
    · simp only [decide_eq_false_iff_not] at z2
      simp [isBet, z2]
  · cases x <;> first | rfl | cases h2
def isRow (m : Int) : D → Bool
  | .tuple ds => decide ((ds.length : Int) = m) && ds.all isI
  | _ => false
def S_is_row : List D → D → Prop := fun ds d => ∃ x m, ds = [x, .int m] ∧ okD x = true ∧ d = .bool (isRow m x)
abbrev n_is_row : List Str := ["thing", "many", "item"]
omit G in
theorem nd_is_row : n_is_row.Nodup := by decide
omit G in
theorem isTup_of {x : D} (h : isTupD x = true) : ∃ ds, x = .tuple ds := by cases x <;> first | (cases h; done) | exact ⟨_, rfl⟩
theorem b_is_row (F1 : Df P w K mg base 1 "is_integer" (top 16) ["thing"] 0 (pfs S_is_integer)) {k : Nat} (hk : 1 ≤ k) {ds : List D} {d0 : D} (S : S_is_row ds d0) : BodyP P w K mg base k n_is_row ["thing", "many"] (top 19) 0 ds (fun d' => d' = d0) (fun _ _ => False) := by
  obtain ⟨x, m, rfl, hx, rfl⟩ := S
  intro qual f cdv A outer s H E
  conv in (occs := *) defScope _ => all_goals whnf
  conv in defBody _ => whnf
  intro hr
  show SS _ _ _ _ [.pv x, .pv (.int m), .no] _
  refine (ss_one (s1_ret (ev_and (ev_isi (Tn := "tuple") G.isi G.tuple boot_tuple (ev_var 0 rfl ⟨(ok_real hx), _, kit_tup' _, ⟨_, rfl, fun h1 => ?_, fun h2 => ⟨le_ok rfl, ?_⟩⟩⟩)))))
  · obtain ⟨ds, rfl⟩ := isTup_of h1
    obtain ⟨hl, ho⟩ := ok_tup hx
    refine (ev_and (ev_cmp (eg_callB1 G.len boot_len (ev_var 0 rfl ⟨_, q_len rfl, (ev_var 1 rfl ⟨_, c_eqI, ⟨_, rfl, fun z1 => (ev_one (eg_callB1 G.all boot_all (EG.cut (d0 := .list ((ds.map isI).map .bool)) (eg_freeze (eg_lc (n := 0) (own := [("item", 2)]) rfl nd_is_row (ei_seq (ev_var 0 rfl ⟨_, rfl, ?_⟩)) (blkOk_by (by rfl)))) ⟨_, q_all rfl, ⟨le_ok rfl, ?_⟩⟩))), fun z2 => ⟨le_ok rfl, ?_⟩⟩⟩)⟩))))
    · refine lci_mapL ds id (fun d => .bool (isI d)) (by simp) (by omega) rfl ⟨by simp [Function.comp_def], rfl⟩ fun d hd s H C cl fp => gt_name 2 nd_is_row (lt_ok rfl) fun s H C cl fp => ?_
      exact (eg_callS F1 hr hk (ev_var 2 rfl ⟨rfl, _, ⟨_, rfl, ok_real (ho d hd), rfl⟩, ⟨rfl, rfl⟩⟩) ⟨rfl, trivial⟩)
    · simp only [decide_eq_true_eq] at z1
      simp [isRow, z1, Function.comp_def]
    · simp only [decide_eq_false_iff_not] at z2
      simp [isRow, z2]
  · cases x <;> first | rfl | cases h2
def isFrom (a : Int) : D → Bool
  | .int i => decide (a ≤ i)
  | _ => false
def isRowFrom (m a : Int) : D → Bool
  | .tuple ds => decide ((ds.length : Int) = m) && ds.all (isFrom a)
  | _ => false
omit G in
theorem isFrom_I {a : Int} {x : D} (h : isFrom a x = true) : isI x = true := by cases x <;> first | rfl | cases h
omit G in
theorem all_ints {ds : List D} (h : ds.all isI = true) : ∃ r : List Int, ds = r.map .int := by
  induction ds with
  | nil => exact ⟨[], rfl⟩
  | cons x ds ih =>
    simp only [List.all_cons, Bool.and_eq_true] at h
    obtain ⟨i, rfl⟩ := isI_of h.1
    obtain ⟨r, rfl⟩ := ih h.2
    exact ⟨i :: r, rfl⟩
omit G in
theorem isRow_of {m : Int} {x : D} (h : isRow m x = true) : ∃ r : List Int, x = rowD r ∧ (r.length : Int) = m := by
  cases x <;> try (cases h; done)
  simp only [isRow, Bool.and_eq_true, decide_eq_true_eq] at h
  obtain ⟨r, rfl⟩ := all_ints h.2
  exact ⟨r, rfl, by simpa using h.1⟩
omit G in
theorem isRow_row (r : List Int) : isRow r.length (rowD r) = true := by
  simp [isRow, rowD, Function.comp_def, isI]
omit G in
theorem isRowFrom_row (m a : Int) (r : List Int) : isRowFrom m a (rowD r) = (decide ((r.length : Int) = m) && r.all fun x => decide (a ≤ x)) := by
  simp [isRowFrom, rowD, Function.comp_def, isFrom, List.all_map]
omit G in
theorem isRowFrom_no {m a : Int} {x : D} (h : isRow m x = false) : isRowFrom m a x = false := by
  cases x <;> try rfl
  rename_i ds
  simp only [isRow, Bool.and_eq_false_iff] at h
  simp only [isRowFrom, Bool.and_eq_false_iff]
  refine h.imp id fun h => ?_
  rw [Bool.eq_false_iff] at h ⊢
  intro z
  rw [List.all_eq_true] at z
  exact h (List.all_eq_true.mpr fun d m => isFrom_I (z d m))
def S_is_row_from : List D → D → Prop := fun ds d => ∃ x m a, ds = [x, .int m, .int a] ∧ okD x = true ∧ d = .bool (isRowFrom m a x)
abbrev n_is_row_from : List Str := ["thing", "many", "least", "item"]
omit G in
theorem nd_is_row_from : n_is_row_from.Nodup := by decide
theorem b_is_row_from (F1 : Df P w K mg base 2 "is_row" (top 19) ["thing", "many"] 0 (pfs S_is_row)) {k : Nat} (hk : 2 ≤ k) {ds : List D} {d0 : D} (S : S_is_row_from ds d0) : BodyP P w K mg base k n_is_row_from ["thing", "many", "least"] (top 20) 0 ds (fun d' => d' = d0) (fun _ _ => False) := by
  obtain ⟨x, m, a, rfl, hx, rfl⟩ := S
  intro qual f cdv A outer s H E
  conv in (occs := *) defScope _ => all_goals whnf
  conv in defBody _ => whnf
  intro hr
  show SS _ _ _ _ [.pv x, .pv (.int m), .pv (.int a), .no] _
  refine (ss_one (s1_ret (ev_and (eg_callS F1 hr hk (ev_var 0 rfl (ev_var 1 rfl ⟨rfl, _, ⟨_, _, rfl, hx, rfl⟩, ⟨_, rfl, fun h1 => ?_, fun h2 => ⟨le_ok rfl, ?_⟩⟩⟩)) ⟨rfl, rfl, trivial⟩))))
  · obtain ⟨r, rfl, hl⟩ := isRow_of h1
    have hr1 := (ok_tup hx).1
    refine ev_one (eg_callB1 G.all boot_all (EG.cut (d0 := .list ((r.map fun x => decide (a ≤ x)).map .bool)) (eg_freeze (eg_lc (n := 0) (own := [("item", 3)]) rfl nd_is_row_from (ei_seq (ev_var 0 rfl ⟨_, rfl, ?_⟩)) (blkOk_by (by rfl)))) ⟨_, q_all rfl, ⟨le_ok rfl, ?_⟩⟩))
    · refine lci_mapL r .int (fun x => .bool (decide (a ≤ x))) rfl (by simp at hr1; omega) rfl ⟨by simp [Function.comp_def], rfl⟩ fun d hd s H C cl fp => gt_name 3 nd_is_row_from (lt_ok rfl) fun s H C cl fp => ?_
      exact (ev_cmp (ev_var 3 rfl (ev_var 2 rfl ⟨_, c_ge, ⟨rfl, rfl⟩⟩)))
    · rw [isRowFrom_row]; simp [hl, Function.comp_def]
  · rw [isRowFrom_no h2]
/-- a tuple with each integer below m once -/
def isOrd (m : Int) (x : D) : Prop := ∃ o : List Nat, (o.length : Int) = m ∧ x = rowD (o.map Int.ofNat) ∧ ((List.range o.length).map Int.ofNat).Perm (o.map Int.ofNat)
end
end KX
set_option Elab.async false
set_option linter.all false
set_option maxRecDepth 100000
set_option maxHeartbeats 4000000
set_option pp.maxSteps 600
namespace KX
open PySem PySem.Spec PyProof.Rows L2 DL
/-! ### tables, webs -/
structure Tbl (n : Nat) (T : List (List Int)) : Prop where
  len : T.length = n
  rows : ∀ r ∈ T, r.length = n
  pos : ∀ r ∈ T, ∀ x ∈ r, 0 ≤ x
  n1 : 1 ≤ n
  n8 : n ≤ 8
def row (T : List (List Int)) (i : Nat) : List Int := (T[i]?).getD []
def ent (T : List (List Int)) (i j : Nat) : Int := ((row T i)[j]?).getD 0
inductive Rch (T : List (List Int)) : Nat → Nat → Prop
  | one {i j : Nat} : 0 < ent T i j → Rch T i j
  | step {i j k : Nat} : 0 < ent T i j → Rch T j k → Rch T i k
theorem Rch.snoc {T : List (List Int)} {i j k : Nat} (h : Rch T i j) (e : 0 < ent T j k) : Rch T i k := by
  induction h with
  | one e1 => exact .step e1 (.one e)
  | step e1 _ ih => exact .step e1 (ih e)
theorem Rch.trans {T : List (List Int)} {i j k : Nat} (h : Rch T i j) (h' : Rch T j k) : Rch T i k := by
  induction h with
  | one e1 => exact .step e1 h'
  | step e1 _ ih => exact .step e1 (ih h')
open Classical in
noncomputable def rchB (T : List (List Int)) (i j : Nat) : Bool := decide (Rch T i j)
theorem rchB_iff {T : List (List Int)} {i j : Nat} : rchB T i j = true ↔ Rch T i j := by simp [rchB]
structure Web (n : Nat) (T : List (List Int)) : Prop where
  tbl : Tbl n T
  sc : ∀ i j, i < n → j < n → Rch T i j
  big : ∃ i, i < n ∧ (row T i).sum ≠ 1
theorem row_get {T : List (List Int)} {i : Nat} (h : i < T.length) : (T.map rowD)[i]? = some (rowD (row T i)) := by
  simp [row, h]
theorem ent_get {T : List (List Int)} {i j : Nat} (h : j < (row T i).length) : ((row T i).map PyData.int)[j]? = some (.int (ent T i j)) := by
  simp [ent, h]
theorem row_mem {T : List (List Int)} {i : Nat} (h : i < T.length) : row T i ∈ T := by
  simp only [row, List.getElem?_eq_getElem h, Option.getD_some]
  exact List.getElem_mem h
theorem at_nat {α : Type} {l : List α} {i : Nat} {x : α} (h : l[i]? = some x) : L2.atI l ((i : Nat) : Int) = some x := atI_nat h
theorem row_len {n : Nat} {T : List (List Int)} (hT : Tbl n T) {i : Nat} (hi : i < n) : (row T i).length = n := hT.rows _ (row_mem (by rw [hT.len]; exact hi))
theorem ent_get' {n : Nat} {T : List (List Int)} (hT : Tbl n T) {i j : Nat} (hi : i < n) (hj : j < n) : ((row T i).map PyData.int)[j]? = some (.int (ent T i j)) :=
  ent_get (by rw [row_len hT hi]; exact hj)
theorem row_get' {n : Nat} {T : List (List Int)} (hT : Tbl n T) {i : Nat} (hi : i < n) : (T.map rowD)[i]? = some (rowD (row T i)) := row_get (by rw [hT.len]; exact hi)
theorem ent_pos {n : Nat} {T : List (List Int)} (hT : Tbl n T) (i j : Nat) : 0 ≤ ent T i j := by
  unfold ent
  cases h : (row T i)[j]? with
  | none => simp
  | some x =>
    have hm := List.mem_of_getElem? h
    have hi : i < T.length := by
      rcases Nat.lt_or_ge i T.length with z | z
      · exact z
      · simp [row, List.getElem?_eq_none z] at hm
    exact hT.pos _ (row_mem hi) x hm
theorem row_eq {n : Nat} {T : List (List Int)} (hT : Tbl n T) {i : Nat} (hi : i < n) : row T i = (List.range n).map fun j => ent T i j := by
  apply List.ext_getElem?
  intro j
  rcases Nat.lt_or_ge j n with z | z
  · have hl := row_len hT hi
    simp [ent, z, hl]
  · rw [List.getElem?_eq_none (by rw [row_len hT hi]; exact z), List.getElem?_eq_none (by simpa using z)]
theorem tab_eq {n : Nat} {T : List (List Int)} (hT : Tbl n T) : T = (List.range n).map fun i => row T i := by
  apply List.ext_getElem?
  intro i
  rcases Nat.lt_or_ge i n with z | z
  · have hl := hT.len
    simp [row, z, hl]
  · rw [List.getElem?_eq_none (by rw [hT.len]; exact z), List.getElem?_eq_none (by simpa using z)]
theorem ent_lt {n : Nat} {T : List (List Int)} (hT : Tbl n T) {i j : Nat} (h : 0 < ent T i j) : i < n ∧ j < n := by
  have hi : i < n := by
    rcases Nat.lt_or_ge i n with z | z
    · exact z
    · have := hT.len
      simp [ent, row, List.getElem?_eq_none (show T.length ≤ i by omega)] at h
  refine ⟨hi, ?_⟩
  have hl := row_len hT hi
  rcases Nat.lt_or_ge j n with z | z
  · exact z
  · unfold ent at h
    rw [List.getElem?_eq_none (by omega)] at h
    simp at h
theorem rch_lt {n : Nat} {T : List (List Int)} (hT : Tbl n T) {i j : Nat} (h : Rch T i j) : j < n := by
  induction h with
  | one e => exact (ent_lt hT e).2
  | step _ _ ih => exact ih
def isTableB : D → Bool
  | .tuple ds => (decide (1 ≤ ds.length) && decide (ds.length ≤ 8)) && ds.all (isRowFrom ds.length 0)
  | _ => false
theorem isTable_tb {n : Nat} {T : List (List Int)} (hT : Tbl n T) : isTableB (tb T) = true := by
  have := hT.len
  have := hT.n1
  have := hT.n8
  simp only [isTableB, tb, List.length_map, List.all_map, Bool.and_eq_true, decide_eq_true_eq, List.all_eq_true]
  refine ⟨by omega, fun r m => ?_⟩
  show isRowFrom _ 0 (rowD r) = true
  rw [isRowFrom_row]
  simp only [Bool.and_eq_true, decide_eq_true_eq, List.all_eq_true]
  exact ⟨by have := hT.rows r m; omega, hT.pos r m⟩
theorem isRowFrom_of {m a : Int} {x : D} (h : isRowFrom m a x = true) : ∃ r : List Int, x = rowD r ∧ (r.length : Int) = m ∧ ∀ y ∈ r, a ≤ y := by
  have h0 : isRow m x = true := by
    cases q : isRow m x with
    | true => rfl
    | false => rw [isRowFrom_no q] at h; cases h
  obtain ⟨r, rfl, hl⟩ := isRow_of h0
  rw [isRowFrom_row] at h
  simp only [Bool.and_eq_true, decide_eq_true_eq, List.all_eq_true] at h
  exact ⟨r, rfl, hl, h.2⟩
theorem isTable_of {x : D} (h : isTableB x = true) : ∃ n T, Tbl n T ∧ x = tb T := by
  cases x <;> try (cases h; done)
  rename_i ds
  simp only [isTableB, Bool.and_eq_true, decide_eq_true_eq, List.all_eq_true] at h
  obtain ⟨⟨h1, h2⟩, h3⟩ := h
  have : ∀ (es : List D), (∀ x ∈ es, isRowFrom ds.length 0 x = true) → ∃ T : List (List Int), es = T.map rowD ∧ ∀ r ∈ T, (r.length : Int) = ds.length ∧ ∀ y ∈ r, 0 ≤ y := by
    intro es
    induction es with
    | nil => exact fun _ => ⟨[], rfl, fun r m => nomatch m⟩
    | cons e es ih =>
      intro h
      obtain ⟨r, rfl, q1, q2⟩ := isRowFrom_of (h e List.mem_cons_self)
      obtain ⟨T, rfl, q3⟩ := ih fun x m => h x (List.mem_cons_of_mem _ m)
      refine ⟨r :: T, rfl, fun r' m => ?_⟩
      rcases List.mem_cons.mp m with rfl | m
      · exact ⟨q1, q2⟩
      · exact q3 r' m
  obtain ⟨T, rfl, q⟩ := this ds h3
  exact ⟨T.length, T, ⟨rfl, fun r m => by have := (q r m).1; simp at this; omega, fun r m => (q r m).2, by simpa using h1, by simpa using h2⟩, rfl⟩
theorem rowD_inj {r r' : List Int} (h : rowD r = rowD r') : r = r' := by
  have := PyData.tuple.inj h
  exact List.map_inj_right (fun a b e => PyData.int.inj e) |>.mp this
theorem tb_inj {T T' : List (List Int)} (h : tb T = tb T') : T = T' := by
  have := PyData.tuple.inj h
  exact List.map_inj_right (fun a b e => rowD_inj e) |>.mp this
def pairs (n : Nat) : List (Nat × Nat) := (List.range n).flatMap fun i => (List.range n).map fun j => (i, j)
noncomputable def faultD (n : Nat) (T : List (List Int)) : D := match (pairs n).find? fun p => !rchB T p.1 p.2 with
  | some p => .tuple [.str "apart", .int (p.1 : Nat), .int (p.2 : Nat)]
  | none => if T.all (fun r => decide (r.sum = 1)) = true then .tuple [.str "ring"] else .none
theorem mem_pairs {n : Nat} {p : Nat × Nat} : p ∈ pairs n ↔ p.1 < n ∧ p.2 < n := by
  obtain ⟨i, j⟩ := p
  simp only [pairs, List.mem_flatMap, List.mem_map, List.mem_range, Prod.mk.injEq]
  exact ⟨fun ⟨a, h1, b, h2, e1, e2⟩ => by omega, fun ⟨h1, h2⟩ => ⟨i, h1, j, h2, rfl, rfl⟩⟩
theorem fault_none {n : Nat} {T : List (List Int)} (hT : Tbl n T) : faultD n T = .none ↔ Web n T := by
  unfold faultD
  constructor
  · intro h
    split at h
    · cases h
    · rename_i hn
      split at h
      · cases h
      · rename_i hs
        refine ⟨hT, fun i j hi hj => ?_, ?_⟩
        · have := List.find?_eq_none.mp hn (i, j) (mem_pairs.mpr ⟨hi, hj⟩)
          simp at this
          exact rchB_iff.mp this
        · rw [tab_eq hT] at hs
          simp only [List.all_map, List.all_eq_true, List.mem_range] at hs
          have := Classical.not_forall.mp hs
          obtain ⟨i, hi⟩ := this
          have := Classical.not_imp.mp hi
          exact ⟨i, this.1, by simpa using this.2⟩
  · intro h
    have hn : ((pairs n).find? fun p => !rchB T p.1 p.2) = none := List.find?_eq_none.mpr fun p m => by
      have := mem_pairs.mp m
      have := rchB_iff.mpr (h.sc _ _ this.1 this.2)
      simp [this]
    rw [hn]
    obtain ⟨i, hi, hs⟩ := h.big
    simp only
    rw [if_neg]
    intro z
    have := List.all_eq_true.mp z (row T i) (row_mem (by rw [hT.len]; exact hi))
    exact hs (by simpa using this)
theorem fault_at {n : Nat} {T : List (List Int)} {i j : Nat} {p1 p2 q1 q2 : List Nat} (e1 : List.range n = p1 ++ i :: p2) (e2 : List.range n = q1 ++ j :: q2) (h1 : ∀ x ∈ p1, ∀ y, y < n → rchB T x y = true) (h2 : ∀ y ∈ q1, rchB T i y = true) (h3 : rchB T i j = false) :
    faultD n T = .tuple [.str "apart", .int (i : Nat), .int (j : Nat)] := by
  have : ((pairs n).find? fun p => !rchB T p.1 p.2) = some (i, j) := by
    unfold pairs
    conv => lhs; arg 2; arg 2; rw [e1]
    rw [List.flatMap_append, List.find?_append, List.flatMap_cons, List.find?_append]
    have a1 : (List.flatMap (fun i => (List.range n).map fun j => (i, j)) p1).find? (fun p => !rchB T p.1 p.2) = none := List.find?_eq_none.mpr fun p m => by
      simp only [List.mem_flatMap, List.mem_map, List.mem_range] at m
      obtain ⟨a, ha, b, hb, rfl⟩ := m
      simp [h1 a ha b hb]
    have a2 : ((List.range n).map fun j => (i, j)).find? (fun p => !rchB T p.1 p.2) = some (i, j) := by
      rw [e2, List.map_append, List.find?_append]
      have a3 : (q1.map fun j => (i, j)).find? (fun p => !rchB T p.1 p.2) = none := List.find?_eq_none.mpr fun p m => by
        obtain ⟨b, hb, rfl⟩ := List.mem_map.mp m
        simp [h2 b hb]
      rw [a3]
      simp [h3]
    rw [a1, a2]
    rfl
  unfold faultD
  rw [this]
theorem fault_end {n : Nat} {T : List (List Int)} (h : ∀ i, i < n → ∀ j, j < n → rchB T i j = true) : faultD n T = if T.all (fun r => decide (r.sum = 1)) = true then .tuple [.str "ring"] else .none := by
  have hn : ((pairs n).find? fun p => !rchB T p.1 p.2) = none := List.find?_eq_none.mpr fun p m => by
    have := mem_pairs.mp m
    simp [h _ this.1 _ this.2]
  unfold faultD
  rw [hn]
open Classical in
noncomputable def isWebB (x : D) : Bool := decide (∃ n T, Web n T ∧ x = tb T)
theorem isWeb_of {x : D} (h : isWebB x = true) : ∃ n T, Web n T ∧ x = tb T := by simpa [isWebB] using h
theorem isWeb_tb {n : Nat} {T : List (List Int)} (h : Web n T) : isWebB (tb T) = true := by simp only [isWebB, decide_eq_true_eq]; exact ⟨n, T, h, rfl⟩
theorem isWeb_no {x : D} (h : isTableB x = false) : isWebB x = false := by
  rw [Bool.eq_false_iff]
  intro z
  obtain ⟨n, T, hw, rfl⟩ := isWeb_of z
  rw [isTable_tb hw.tbl] at h
  cases h
theorem isWeb_fault {n : Nat} {T : List (List Int)} (hT : Tbl n T) : isWebB (tb T) = isN (faultD n T) := by
  cases h : isWebB (tb T) with
  | true =>
    obtain ⟨m, T', hw, e⟩ := isWeb_of h
    have := tb_inj e
    subst this
    have e2 : m = n := hw.tbl.len.symm.trans hT.len
    subst e2
    rw [(fault_none hT).mpr hw]; rfl
  | false =>
    cases q : faultD n T with
    | none => rw [isWeb_tb ((fault_none hT).mp q)] at h; cases h
    | _ => rfl
section
variable {P : Program} {w : World} {K : Fg} {mg : Str → Option Value} {base : Heap} (G : Fre mg)
include G
def S_is_table_thing : List D → D → Prop := fun ds d => ∃ x, ds = [x] ∧ okD x = true ∧ d = .bool (isTableB x)
abbrev n_is_table_thing : List Str := ["thing", "row"]
omit G in
theorem nd_is_table_thing : n_is_table_thing.Nodup := by decide
theorem b_is_table_thing (F1 : Df P w K mg base 3 "is_row_from" (top 20) ["thing", "many", "least"] 0 (pfs S_is_row_from)) (hM : ∃ t, mg "MOST_ROOMS" = some (.int 8 t)) {k : Nat} (hk : 3 ≤ k) {ds : List D} {d0 : D} (S : S_is_table_thing ds d0) : BodyP P w K mg base k n_is_table_thing ["thing"] (top 21) 0 ds (fun d' => d' = d0) (fun _ _ => False) := by
  obtain ⟨x, rfl, hx, rfl⟩ := S
  obtain ⟨t, hM⟩ := hM
  intro qual f cdv A outer s H E
  conv in (occs := *) defScope _ => all_goals whnf
  conv in defBody _ => whnf
  intro hr
  show SS _ _ _ _ [.pv x, .no] _
  refine (ss_cons (s1_if (et_of_w (ew_or (et_not (et_val (ev_isi (Tn := "tuple") G.isi G.tuple boot_tuple (ev_var 0 rfl ⟨(ok_real hx), _, kit_tup' _, ⟨_, rfl, fun h1 => (ew_or1 ?_), fun h2 => ⟨fun _ => (ss_one (s1_ret (ev_bl ⟨le_ok rfl, ?_⟩))), fun z => nomatch z⟩⟩⟩))))))))
  · obtain ⟨ds, rfl⟩ := isTup_of (x := x) (by simpa using h1)
    obtain ⟨hl, ho⟩ := ok_tup hx
    refine (et_not (et_chain (ev_int (eg_callB1 G.len boot_len (ev_var 0 rfl ⟨_, q_len rfl, ⟨_, c_le, fun z1 => (ev_glob (v := .int 8) (d := .int 8) hM ⟨t, rfl⟩ (fun _ => .int 8) ⟨_, c_le, fun z2 => ?_, fun z3 => ?_⟩), fun z4 => ⟨fun _ => ?_, fun z => nomatch z⟩⟩⟩)))))
    · simp at z1 z2
      refine ss_one (s1_ret (ev_bl ⟨le_ok rfl, ?_⟩))
      have : ¬ ds.length ≤ 8 := by omega
      simp [isTableB, this]
    · simp at z1 z3
      refine ss_nil (ss_one (s1_ret (eg_callB1 G.all boot_all (EG.cut (d0 := .list ((ds.map (isRowFrom ds.length 0)).map .bool)) (eg_freeze (eg_lc (n := 0) (own := [("row", 1)]) rfl nd_is_table_thing (ei_seq (ev_var 0 rfl ⟨_, rfl, ?_⟩)) (blkOk_by (by rfl)))) ⟨_, q_all rfl, ⟨le_ok rfl, ?_⟩⟩))))
      · refine lci_mapL ds id (fun d => .bool (isRowFrom ds.length 0 d)) (by simp) (by omega) rfl ⟨by simp [Function.comp_def], rfl⟩ fun d hd s H C cl fp => gt_name 1 nd_is_table_thing (lt_ok rfl) fun s H C cl fp => ?_
        exact (eg_callS F1 hr hk (ev_var 1 rfl (eg_callB1 G.len boot_len (ev_var 0 rfl ⟨_, q_len rfl, (ev_int ⟨rfl, _, ⟨_, _, _, rfl, ho d hd, rfl⟩, ⟨rfl, rfl⟩⟩)⟩))) ⟨rfl, rfl, rfl, trivial⟩)
      · have : 1 ≤ ds.length ∧ ds.length ≤ 8 := by omega
        simp [isTableB, this, Function.comp_def]
    · simp at z4
      refine ss_one (s1_ret (ev_bl ⟨le_ok rfl, ?_⟩))
      have : ¬ 1 ≤ ds.length := by omega
      simp [isTableB, this]
  · cases x <;> first | rfl | (simp at h2; done) | cases h2
end
end KX
set_option Elab.async false
set_option linter.all false
set_option maxRecDepth 100000
set_option maxHeartbeats 4000000
set_option pp.maxSteps 600
namespace KX
open PySem PySem.Spec PyProof.Rows L2 DL
/-! ### what is reached -/
/-- the state of the search: what is found, what waits -/
structure Srch (n : Nat) (T : List (List Int)) (r0 : Nat) (F : List Bool) (Wt : List Nat) : Prop where
  len : F.length = n
  wait : ∀ x ∈ Wt, x < n
  closed : ∀ x, x < n → (x = r0 ∨ F[x]? = some true) → x ∈ Wt ∨ ∀ y, y < n → 0 < ent T x y → F[y]? = some true
  sound : ∀ y : Nat, F[y]? = some true → Rch T r0 y
  waitS : ∀ x ∈ Wt, x = r0 ∨ Rch T r0 x
def unf (F : List Bool) : Nat := (F.filter (! ·)).length
/-- while the row of `here` is walked, up to place k -/
structure Srch2 (n : Nat) (T : List (List Int)) (r0 here : Nat) (m0 : Nat) (F : List Bool) (Wt : List Nat) (k : Nat) : Prop where
  len : F.length = n
  wait : ∀ x ∈ Wt, x < n
  closed : ∀ x, x < n → (x = r0 ∨ F[x]? = some true) → x ∈ Wt ∨ x = here ∨ ∀ y, y < n → 0 < ent T x y → F[y]? = some true
  sound : ∀ y : Nat, F[y]? = some true → Rch T r0 y
  waitS : ∀ x ∈ Wt, x = r0 ∨ Rch T r0 x
  hereS : here = r0 ∨ Rch T r0 here
  done : ∀ y, y < k → 0 < ent T here y → F[y]? = some true
  mu : 2 * unf F + Wt.length + 1 ≤ m0
theorem unf_set {F : List Bool} {i : Nat} (h : F[i]? = some false) : unf (F.set i true) + 1 = unf F := by
  induction F generalizing i with
  | nil => simp at h
  | cons b F ih =>
    cases i with
    | zero =>
      simp at h
      subst h
      simp [unf]
    | succ i =>
      have := ih (i := i) (by simpa using h)
      cases b <;> simp [unf] at this ⊢ <;> omega
theorem unf_le (F : List Bool) : unf F ≤ F.length := List.length_filter_le _ _
theorem srch_all {n : Nat} {T : List (List Int)} {r0 : Nat} {F : List Bool} (hT : Tbl n T) (hr : r0 < n) (hS : Srch n T r0 F []) : F = (List.range n).map (rchB T r0) := by
  have all : ∀ i j, Rch T i j → i < n → (i = r0 ∨ F[i]? = some true) → F[j]? = some true := by
    intro i j h
    induction h with
    | one e =>
      intro hi q
      rcases hS.closed _ hi q with z | z
      · cases z
      · exact z _ (ent_lt hT e).2 e
    | step e _ ih =>
      intro hi q
      have hj := (ent_lt hT e).2
      rcases hS.closed _ hi q with z | z
      · cases z
      · exact ih hj (.inr (z _ hj e))
  apply List.ext_getElem?
  intro j
  rcases Nat.lt_or_ge j n with z | z
  · have hj : j < F.length := by rw [hS.len]; exact z
    have e : F[j]? = some F[j] := List.getElem?_eq_getElem hj
    rw [e]
    simp only [List.getElem?_map, List.getElem?_range z, Option.map_some, Option.some.injEq]
    cases q : F[j] with
    | true =>
      rw [q] at e
      exact (rchB_iff.mpr (hS.sound j e)).symm
    | false =>
      cases q2 : rchB T r0 j with
      | false => rfl
      | true =>
        have := all r0 j (rchB_iff.mp q2) hr (.inl rfl)
        rw [e, q] at this
        cases this
  · rw [List.getElem?_eq_none (by rw [hS.len]; exact z), List.getElem?_eq_none (by simpa using z)]
theorem srch_start {n : Nat} {T : List (List Int)} {r0 x : Nat} {F : List Bool} {Ws : List Nat} (h : Srch n T r0 F (Ws ++ [x])) : Srch2 n T r0 x (2 * unf F + (Ws ++ [x]).length) F Ws 0 :=
  ⟨h.len, fun y m => h.wait y (List.mem_append_left _ m), fun y hy q => by
    rcases h.closed y hy q with z | z
    · rcases List.mem_append.mp z with z | z
      · exact .inl z
      · exact .inr (.inl (List.mem_singleton.mp z))
    · exact .inr (.inr z), h.sound, fun y m => h.waitS y (List.mem_append_left _ m), h.waitS x (by simp), fun y hy => absurd hy (Nat.not_lt_zero y), by simp; omega⟩
theorem srch_end {n : Nat} {T : List (List Int)} {r0 x m0 : Nat} {F : List Bool} {Ws : List Nat} (h : Srch2 n T r0 x m0 F Ws n) : Srch n T r0 F Ws ∧ 2 * unf F + Ws.length < m0 :=
  ⟨⟨h.len, h.wait, fun y hy q => by
    rcases h.closed y hy q with z | z | z
    · exact .inl z
    · subst z; exact .inr fun u hu e => h.done u hu e
    · exact .inr z, h.sound, h.waitS⟩, h.mu⟩
theorem srch_skip {n : Nat} {T : List (List Int)} {r0 x m0 k : Nat} {F : List Bool} {Ws : List Nat} (h : Srch2 n T r0 x m0 F Ws k) (q : 0 < ent T x k → F[k]? = some true) : Srch2 n T r0 x m0 F Ws (k + 1) :=
  ⟨h.len, h.wait, h.closed, h.sound, h.waitS, h.hereS, fun y hy e => by
    rcases Nat.lt_succ_iff_lt_or_eq.mp hy with z | z
    · exact h.done y z e
    · subst z; exact q e, h.mu⟩
theorem srch_mark {n : Nat} {T : List (List Int)} {r0 x m0 k : Nat} {F : List Bool} {Ws : List Nat} (h : Srch2 n T r0 x m0 F Ws k) (hk : k < n) (he : 0 < ent T x k) (q : F[k]? = some false) : Srch2 n T r0 x m0 (F.set k true) (Ws ++ [k]) (k + 1) := by
  have up : ∀ y : Nat, F[y]? = some true → (F.set k true)[y]? = some true := fun y e => by
    rw [List.getElem?_set]
    split
    · rename_i z; subst z; rw [e] at q; cases q
    · exact e
  have at_ : (F.set k true)[k]? = some true := by rw [List.getElem?_set_self (by rw [h.len]; exact hk)]
  have rk : Rch T r0 k := by
    rcases h.hereS with z | z
    · subst z; exact .one he
    · exact z.snoc he
  refine ⟨by rw [List.length_set]; exact h.len, fun y m => ?_, fun y hy z => ?_, fun y e => ?_, fun y m => ?_, h.hereS, fun y hy e => ?_, ?_⟩
  · rcases List.mem_append.mp m with m | m
    · exact h.wait y m
    · rw [List.mem_singleton.mp m]; exact hk
  · by_cases c : y = k
    · subst c; exact .inl (by simp)
    · have z' : y = r0 ∨ F[y]? = some true := z.imp id fun e => by
        rw [List.getElem?_set_ne (fun z => c z.symm)] at e; exact e
      rcases h.closed y hy z' with e | e | e
      · exact .inl (List.mem_append_left _ e)
      · exact .inr (.inl e)
      · exact .inr (.inr fun u hu e2 => up u (e u hu e2))
  · by_cases c : y = k
    · subst c; exact rk
    · rw [List.getElem?_set_ne (fun z => c z.symm)] at e; exact h.sound y e
  · rcases List.mem_append.mp m with m | m
    · exact h.waitS y m
    · rw [List.mem_singleton.mp m]; exact .inr rk
  · rcases Nat.lt_succ_iff_lt_or_eq.mp hy with z | z
    · exact up y (h.done y z e)
    · subst z; exact at_
  · have := unf_set q
    have := h.mu
    simp
    omega
theorem nil_eq (Wt : List Nat) : PyData.eqv (.list (Wt.map fun x => .int (x : Nat))) (.list []) = Wt.isEmpty := by
  cases Wt <;> simp [PyData.eqv, PyData.eqvAll]
section
variable {P : Program} {w : World} {K : Fg} {mg : Str → Option Value} {base : Heap} (G : Fre mg)
include G
noncomputable def reachL (n : Nat) (T : List (List Int)) (r0 : Nat) : List D := ((List.range n).filter (rchB T r0)).map fun (x : Nat) => .int (x : Nat)
def S_reached_from : List D → D → Prop := fun ds d => ∃ n T r0, Tbl n T ∧ r0 < n ∧ ds = [tb T, .int (r0 : Nat)] ∧ d = .list (reachL n T r0)
abbrev n_reached_from : List Str := ["table", "room", "found", "waiting", "here", "other", "many", "is_found"]
omit G in
theorem nd_reached_from : n_reached_from.Nodup := by decide
theorem b_reached_from {k : Nat} {ds : List D} {d0 : D} (S : S_reached_from ds d0) : BodyP P w K mg base k n_reached_from ["table", "room"] (top 11) 1 ds (fun d' => d' = d0) (fun _ _ => False) := by
  obtain ⟨n, T, r0, hT, hr0, rfl, rfl⟩ := S
  have l1 := hT.len
  have l2 := hT.n8
  intro qual f cdv A outer s H E
  conv in (occs := *) defScope _ => all_goals whnf
  conv in defBody _ => whnf
  intro hr
  show SS _ _ _ _ [.pv (tb T), .pv (.int r0), .no, .no, .no, .no, .no, .no] _
  -- found, waiting = [False] * len(table), [room]
  refine ss_cons (s1_par2 2 3 1 1 rfl nd_reached_from (eg_bin (eg_freeze (eg_lst (ea_cons (ev_bl (ea_nil ⟨[.bool false], rfl, le_ok rfl, ?_⟩)))))))
  refine eg_callB G.len boot_len (ea_cons (ev_var 0 rfl (ea_nil ⟨[tb T], _, rfl, q_len (ds := T.map rowD) rfl, _, b_rep (by omega) (by simp; omega) (le_ok rfl), ?_⟩)))
  refine eg_lst (ea_cons (ev_var 1 rfl (ea_nil ⟨[.int r0], rfl, le_ok rfl, lt_ok rfl, lt_ok rfl, fun v2 v3 => ?_⟩)))
  have e0 : ∀ m : Nat, (List.replicate m [PyData.bool false]).flatten = (List.replicate m false).map .bool := fun m => by
    induction m with
    | zero => rfl
    | succ m ih => simp [List.replicate_succ, ih]
  rw [e0]
  -- the loop
  refine ss_cons (s1_while (passes_of rfl) (fun m Γ => ∃ (F : List Bool) (Wt : List Nat), Srch n T r0 F Wt ∧ m = 2 * unf F + Wt.length ∧ m ≤ 2 * n + 1 ∧ ∃ v2 v3 s4 s5 s6, Γ = [.pv (tb T), .pv (.int r0), .ow v2 1 (.list (F.map .bool)), .ow v3 1 (.list (Wt.map fun x => .int (x : Nat))), s4, s5, s6, .no]) ?_ ?_)
  · refine ⟨_, List.replicate n false, [r0], ⟨by simp, by simpa using hr0, fun x hx h => ?_, fun y h => ?_, fun x h => .inl (by simpa using h)⟩, rfl, ?_, v2, v3, .no, .no, .no, ?_⟩
    · rcases h with h | h
      · exact .inl (by simp [h])
      · rw [List.getElem?_replicate] at h
        split at h <;> simp at h
    · rw [List.getElem?_replicate] at h
      split at h <;> simp at h
    · have := unf_le (List.replicate n false)
      simp at this ⊢
      omega
    · simp [l1, sv]
  · rintro m Γ ⟨F, Wt, hS, rfl, hm, v2, v3, s4, s5, s6, rfl⟩
    refine et_lock (et_cmp (ev_var 3 rfl (eg_freeze (eg_lst (ea_nil ⟨[], rfl, le_ok rfl, !PyData.eqv (.list (Wt.map fun x => .int (x : Nat))) (.list []), c_neD hr.rm.units ?_ (by decide), fun h => ?_, fun h => ?_⟩)))))
    · have := shaped_ints (Wt.map fun x => Int.ofNat x)
      rw [List.map_map] at this
      exact this
    · rw [nil_eq] at h
      obtain ⟨Ws, x, rfl⟩ : ∃ Ws x, Wt = Ws ++ [x] := by
        rcases List.eq_nil_or_concat Wt with z | ⟨Ws, x, z⟩
        · subst z; simp at h
        · exact ⟨Ws, x, by simpa using z⟩
      have hx : x < n := hS.wait x (by simp)
      have hrl : (row T x).length = n := row_len hT hx
      refine ss_cons (s1_set 4 (ev_pop0 (epl_name 3 rfl ⟨0, Ws.map (fun x => .int (x : Nat)), .int (x : Nat), rfl, by simp, .inl rfl, lt_ok rfl, ?_⟩)) nd_reached_from)
      refine ss_one (s1_for (ix := [5, 6]) (passes_of rfl) rfl (ei_enum G.enum (ev_sub (ev_var 0 rfl (ev_var 4 rfl ⟨_, sub_tup (at_nat (row_get (by omega))), _, rfl, ?_⟩)))))
      refine ⟨fun k Γ => ∃ F' Wt', Srch2 n T r0 x (2 * unf F + (Ws ++ [x]).length) F' Wt' k ∧ ∃ v2 v3 s5 s6, Γ = [.pv (tb T), .pv (.int r0), .ow v2 1 (.list (F'.map .bool)), .ow v3 1 (.list (Wt'.map fun x => .int (x : Nat))), .pv (.int x), s5, s6, .no], ⟨F, Ws, srch_start hS, v2, v3, s5, s6, rfl⟩, ?_, ?_⟩
      · rintro k d Γ hd ⟨F', Wt', hS', v2, v3, s5, s6, rfl⟩
        have hk : k < n := by
          have := (List.getElem?_eq_some_iff.mp hd).1
          rw [enumD_len] at this
          simpa [hrl] using this
        have hd2 : d = .tuple [.int (k : Nat), .int (ent T x k)] := by
          rw [enumD_get (ent_get (by omega))] at hd
          exact (Option.some.inj hd).symm
        subst hd2
        refine gt_tup rfl (gts_cons (gt_name 5 nd_reached_from (lt_ok rfl) (gts_cons (gt_name 6 nd_reached_from (lt_ok rfl) (gts_nil ?_)))))
        refine ss_one (s1_if (et_lock (et_of_w (ew_and (et_cmp (ev_var 6 rfl (ev_int ⟨_, c_gt, fun h1 => ?_, fun h1 => ?_⟩)))))))
        · refine ew_and1 (et_not (et_val (ev_sub (ev_var 2 rfl (ev_var 5 rfl ?_)))))
          have hF : k < F'.length := by rw [hS'.len]; exact hk
          refine ⟨.bool (F'[k]), sub_lst (at_nat (by simp [hF])), F'[k], rfl, fun h2 => ?_, fun h2 => ?_⟩
          · have h2' : F'[k]? = some false := by simpa [hF] using h2
            refine ss_cons (s1_store (ev_bl (epl_name 2 rfl ⟨0, F'.map .bool, rfl, rfl, ev_var 5 rfl ⟨_, k, rfl, ?_, .inl rfl, ?_⟩⟩)))
            · simp [ixN, hF]
            refine ss_one (s1_expr (ev_append 3 rfl (ev_var 5 rfl ⟨v3, 0, Wt'.map fun x => .int (x : Nat), rfl, .inl rfl, ?_, ?_⟩)))
            · have := hS'.mu
              simp
              omega
            · refine ⟨F'.set k true, Wt' ++ [k], srch_mark hS' hk (of_decide_eq_true h1) h2', v2, v3, .pv (.int k), .pv (.int (ent T x k)), ?_⟩
              simp [List.map_set]
          · have h2' : F'[k]? = some true := by simpa [hF] using h2
            exact ss_nil ⟨F', Wt', srch_skip hS' fun _ => h2', v2, v3, .pv (.int k), .pv (.int (ent T x k)), rfl⟩
        · refine ⟨fun z => (nomatch z), fun _ => ss_nil ⟨F', Wt', srch_skip hS' fun z => ?_, v2, v3, .pv (.int k), .pv (.int (ent T x k)), rfl⟩⟩
          have := of_decide_eq_false h1
          omega
      · rintro Γ ⟨F', Wt', hS', v2, v3, s5, s6, rfl⟩
        rw [enumD_len] at hS'
        have e1 : (List.map PyData.int (row T x)).length = n := by simpa using hrl
        rw [e1] at hS'
        obtain ⟨q1, q2⟩ := srch_end hS'
        exact ⟨_, q2, F', Wt', q1, rfl, by omega, v2, v3, _, s5, s6, rfl⟩
    · rw [nil_eq] at h
      have : Wt = [] := by simpa using h
      subst this
      have eF := srch_all hT hr0 hS
      subst eF
      refine ss_one (s1_ret (eg_lc (n := 0) (own := [("other", 5), ("is_found", 7)]) rfl nd_reached_from (ei_enum G.enum (ev_varZ 2 rfl ⟨_, rfl, ?_⟩)) (blkOk_by (by rfl))))
      refine lci_filterL (List.range n) (fun i => .tuple [.int (i : Nat), .bool (rchB T r0 i)]) (fun i => .int (i : Nat)) (rchB T r0) ?_ (by simp; omega) rfl ⟨le_ok rfl, rfl⟩ fun i hi s H C cl fp => ?_
      · apply List.ext_getElem?
        intro i
        simp only [enumD, List.getElem?_mapIdx, List.getElem?_map]
        rcases Nat.lt_or_ge i n with z | z
        · simp [z]
        · simp [Nat.not_lt.mpr z]
      refine gt_tup rfl (gts_cons (gt_name 5 nd_reached_from (lt_ok rfl) (gts_cons (gt_name 7 nd_reached_from (lt_ok rfl) (gts_nil fun s H C cl fp => ?_)))))
      exact et_val (ev_var 7 rfl ⟨_, rfl, rfl, rfl, fun _ s H C cl fp => ev_var 5 rfl ⟨rfl, rfl⟩⟩)
/-! ### the fault -/
abbrev rgD (n : Nat) : D := .dict [(.none, .tuple [.int 0, .int (n : Nat)])]
omit G in
theorem walk_rg (n : Nat) (h : n ≤ 1000) : walkD (rgD n) = some ((List.range n).map fun (x : Nat) => .int (x : Nat)) := by
  have : rngD 0 (n : Nat) = (List.range n).map fun (x : Nat) => .int (x : Nat) := by rw [rngD_eq, List.map_map]; rfl
  simp only [rgD, walkD]
  rw [if_pos (by omega), this]
omit G in
theorem ints_flat (l : List Nat) : (l.map fun (x : Nat) => PyData.int (x : Nat)).all flatD = true := by
  simp [List.all_eq_true, flatD]
omit G in
theorem ints_has {l : List Nat} {j : Nat} : ((l.map fun (x : Nat) => PyData.int (x : Nat)).any fun z => eqF z (.int (j : Nat))) = decide (j ∈ l) := by
  rw [List.any_map]
  simp only [Function.comp_def, eqF]
  induction l with
  | nil => rfl
  | cons x l ih =>
    rw [List.any_cons, ih]
    have : ((x : Int) == (j : Int)) = decide (x = j) := by
      simp [Bool.beq_eq_decide_eq]
      omega
    rw [this]
    by_cases h : j = x
    · subst h; simp
    · simp [h, Ne.symm h]
def S_fault_of : List D → D → Prop := fun ds d => ∃ n T, Tbl n T ∧ ds = [tb T] ∧ d = faultD n T
abbrev n_fault_of : List Str := ["table", "rooms", "i", "reached", "j", "row"]
omit G in
theorem nd_fault_of : n_fault_of.Nodup := by decide
theorem b_fault_of (F1 : Df P w K mg base 1 "reached_from" (top 11) ["table", "room"] 1 (pfs S_reached_from)) {k : Nat} (hk : 1 ≤ k) {ds : List D} {d0 : D} (S : S_fault_of ds d0) : BodyP P w K mg base k n_fault_of ["table"] (top 12) 0 ds (fun d' => d' = d0) (fun _ _ => False) := by
  obtain ⟨n, T, hT, rfl, rfl⟩ := S
  have l1 := hT.len
  have l2 := hT.n8
  intro qual f cdv A outer s H E
  conv in (occs := *) defScope _ => all_goals whnf
  conv in defBody _ => whnf
  intro hr
  show SS _ _ _ _ [.pv (tb T), .no, .no, .no, .no, .no] _
  refine ss_cons (s1_set 1 (eg_callT1 G.range boot_range (eg_callB1 G.len boot_len (ev_var 0 rfl ⟨_, q_len (ds := T.map rowD) rfl, _, q_range1, lt_ok rfl, ?_⟩))) nd_fault_of)
  have e1 : (((List.map rowD T).length : Nat) : Int) = (n : Nat) := by simp [l1]
  rw [e1]
  refine ss_cons (s1_forL (α := Nat) (ix := [2]) (passes_of rfl) rfl (ei_seq (ev_var 1 rfl ⟨_, walk_rg n (by omega), ?_⟩)))
  refine ⟨List.range n, fun (x : Nat) => .int (x : Nat), fun pre Γ => (∀ i ∈ pre, ∀ j, j < n → rchB T i j = true) ∧ ∃ s2 s3 s4, Γ = [.pv (tb T), .pv (rgD n), s2, s3, s4, .no], rfl, ⟨(fun i h => nomatch h), _, _, _, rfl⟩, ?_, ?_⟩
  · rintro pre i post Γ hL ⟨hp, s2, s3, s4, rfl⟩
    have hi : i < n := List.mem_range.mp (by rw [hL]; simp)
    refine gt_name 2 nd_fault_of (lt_ok rfl) (ss_cons (s1_set 3 (eg_freeze (eg_callS F1 hr hk (ev_var 0 rfl (ev_var 2 rfl ⟨rfl, _, ⟨n, T, i, hT, hi, rfl, rfl⟩, lt_ok rfl, ?_⟩)) ⟨rfl, rfl, trivial⟩)) nd_fault_of))
    refine ss_one (s1_forL (α := Nat) (ix := [4]) (passes_of rfl) rfl (ei_seq (ev_var 1 rfl ⟨_, walk_rg n (by omega), ?_⟩)))
    refine ⟨List.range n, fun (x : Nat) => .int (x : Nat), fun pre' Γ => (∀ j ∈ pre', rchB T i j = true) ∧ ∃ s4, Γ = [.pv (tb T), .pv (rgD n), .pv (.int i), .pv (.list (reachL n T i)), s4, .no], rfl, ⟨(fun i h => nomatch h), _, rfl⟩, ?_, fun Γ ⟨hq, s4, e⟩ => ⟨fun i' m j hj => ?_, _, _, s4, e⟩⟩
    · rintro pre' j post' Γ hL' ⟨hp', s4, rfl⟩
      have hj : j < n := List.mem_range.mp (by rw [hL']; simp)
      refine gt_name 4 nd_fault_of (lt_ok rfl) (ss_one (s1_if (et_cmp (ev_var 4 rfl (ev_var 3 rfl ⟨_, c_notIn (ds := reachL n T i) rfl rfl (ints_flat _), fun h => ?_, fun h => ss_nil ⟨fun j' m => ?_, _, rfl⟩⟩)))))
      · have h3 : rchB T i j = false := by
          unfold reachL at h
          rw [ints_has] at h
          simpa [hj] using h
        refine ss_one (s1_ret (ev_tups (le_ok rfl) (ev_str (ev_var 2 rfl (ev_var 4 rfl ⟨le_ok rfl, (fault_at hL hL' hp hp' h3).symm⟩))) ⟨rfl, rfl, rfl, trivial⟩))
      · rcases List.mem_append.mp m with m | m
        · exact hp' j' m
        · rw [List.mem_singleton.mp m]
          unfold reachL at h
          rw [ints_has] at h
          simpa [hj] using h
    · rcases List.mem_append.mp m with m | m
      · exact hp i' m j hj
      · rw [List.mem_singleton.mp m]; exact hq j (List.mem_range.mpr hj)
  · rintro Γ ⟨hp, s2, s3, s4, rfl⟩
    rw [fault_end fun i hi j hj => hp i (List.mem_range.mpr hi) j hj]
    refine (ss_one (s1_ret (eg_if (et_val (eg_callB1 G.all boot_all (EG.cut (d0 := .list ((T.map fun r => decide (r.sum = 1)).map .bool)) (eg_freeze (eg_lc (n := 0) (own := [("row", 5)]) rfl nd_fault_of (ei_seq (ev_var 0 rfl ⟨_, rfl, ?_⟩)) (blkOk_by (by rfl)))) ⟨_, q_all rfl, ⟨_, rfl, fun h1 => (ev_tups (le_ok rfl) (ev_str ⟨le_ok rfl, ?_⟩) ⟨rfl, trivial⟩), fun h2 => (ev_non ⟨le_ok rfl, ?_⟩)⟩⟩))))))
    · refine lci_mapL T rowD (fun r => .bool (decide (r.sum = 1))) rfl (by omega) rfl ⟨by simp [Function.comp_def], rfl⟩ fun r hr1 s H C cl fp => gt_name 5 nd_fault_of (lt_ok rfl) fun s H C cl fp => ?_
      exact (ev_cmp (eg_callB1 G.sum boot_sum (ev_var 5 rfl ⟨_, q_sumT rfl, (ev_int ⟨_, c_eqI, ⟨rfl, rfl⟩⟩)⟩)))
    · rw [if_pos]
      simpa [Function.comp_def] using h1
    · rw [if_neg]
      simpa [Function.comp_def] using h2
end
end KX
set_option Elab.async false
set_option linter.all false
set_option maxRecDepth 100000
set_option maxHeartbeats 1000000
namespace DL
open PySem PySem.Spec PyProof.Rows L2
/-! ### one answer or one error -/
inductive Out where
  | ret (d : D)
  | exn (C : Addr) (fs : List (Str × D))
abbrev pfo (S : List D → Out → Prop) : FS := pfx (fun ds d => S ds (.ret d)) (fun ds C fs => S ds (.exn C fs))
section
variable {P : Program} {w : World} {K : Fg} {mg : Str → Option Value} {base : Heap}
theorem df_o {x qual : Str} {st : Stmt} {f : Addr} {fd : FuncData} {N ps : List Str} {k n : Nat} {S : List D → Out → Prop} (F : Fun K x qual st f fd) (S0 : FnScope N ps (defScope st)) (hm : mg x = some (.ref f))
    (bd : ∀ (qual : Str) (kV doc pm : Value) (an : Option Addr) (cdv ct : Value) (us : List Value), us.length = ps.length → bindArgs (PySem.W.fnOf x qual (defArgs st) (defBody st) (defScope st) .none kV doc pm an cdv ct) ⟨us, []⟩ = pure (ps.zip us))
    (hl : ∀ ds o, S ds o → ds.length = ps.length) (hb : ∀ ds o, S ds o → BodyP P w K mg base k N ps st n ds (fun d' => o = .ret d') (fun C fs => o = .exn C fs)) : Df P w K mg base (k + 1) x st ps n (pfo S) := by
  refine df_x F S0 hm bd (fun ds d h => hl _ _ h) (fun ds C fs h => hl _ _ h) (fun ds d h => ?_) (fun ds C fs h => ?_)
  · intro qual f cdv A outer s H E hr
    refine SS.imp (SS.xim (hb ds _ h qual f cdv A outer s H E hr) fun C fs Γ' q => ?_) ?_ ?_ ?_ ?_
    · exact ⟨q.1, nomatch q.2⟩
    · exact fun Γ' q => ⟨q.1, (Out.ret.inj q.2).symm⟩
    · exact fun d Γ' q => ⟨q.1, (Out.ret.inj q.2).symm⟩
    · exact fun Γ' q => q
    · exact fun Γ' q => q
  · intro qual f cdv A outer s H E hr
    refine SS.imp (SS.xim (hb ds _ h qual f cdv A outer s H E hr) fun C' fs' Γ' q => ?_) ?_ ?_ ?_ ?_
    · exact ⟨q.1, (Out.exn.inj q.2).1.symm, (Out.exn.inj q.2).2.symm⟩
    · exact fun Γ' q => ⟨q.1, nomatch q.2⟩
    · exact fun d Γ' q => ⟨q.1, nomatch q.2⟩
    · exact fun Γ' q => q
    · exact fun Γ' q => q
/-- an own exception class x, whose one argument is kept as f -/
structure Exn (P : Program) (w : World) (K : Fg) (mg : Str → Option Value) (base : Heap) (x f : Str) (C : Addr) : Prop where
  T : XCl K C
  m : mg x = some (.ref C)
  hno : PySem.W.findIn K (.ref C) f = some none
  ini : ∃ fI fd, PySem.W.findIn K (.ref C) "__init__" = some (some (.ref fI)) ∧ PySem.W.typeIn K (.ref fI) = some (.type "function") ∧ FnG P w K mg base 1 fI fd ["self", f] (spI K f) ∧ ∀ (s : Shared) (u v : Value), BindsTo s fd ⟨[u, v], []⟩ ((["self", f] : List Str).zip [u, v])
  xf : XfC K C
  exm : PySem.W.exmOne K (.ref C) (.ref C) = some true
end
section
variable {X : Cx} {R : XP} {W : WX} {Γ : Gam} {m n : Nat} {o e a b c : Expr} {es : List Expr} {pos pos' p np : Pos} {P : Po}
theorem s1_rs {x f : Str} {C : Addr} {j : Nat} (N : Exn X.prog X.w X.K X.mg X.base x f C) (hr : Rm j X.A) (hj : 2 ≤ j) (h : EV X R e Γ fun d Γ1 => R C [(f, d)] Γ1) (hc : X.calm = true := by rfl) (hg : Gl X x := by rfl)
    (hdb : (x == ("__debug__" : Str)) = false := by decide) (he : starEach [e] X.env = (false, eval e X.env) :: starEach [] X.env := by rfl) (hpl : (backTo pos (starEach [] X.env)).any (·.1) = false := by rfl) : S1 X R m (.Raise (some (.Call (.Name x p) [e] [] pos)) none pos') Γ P := by
  obtain ⟨fI, fd, i1, i2, i3, i4⟩ := N.ini
  exact s1_raise hc N.T i1 i2 N.hno i3 hr hj i4 N.m h hg hdb he hpl
end
theorem c_eqNil {X : Cx} {ds : List D} (hu : X.A.units + 64 < cLine) : CmpG X .Eq (.tuple ds) (.tuple []) ds.isEmpty :=
  fun pins s σ H _ _ v u Q I rx ry ⟨r1, r2, q⟩ => by
    cases r1 with
    | tup h1 q1 =>
      cases r2 with
      | tup h2 q2 =>
        cases q2
        cases rx
        cases ry
        obtain ⟨its, rv, p, _⟩ := I.tuple h1.sq
        obtain ⟨its2, rv2, p2, _⟩ := I.tuple h2.sq
        cases rv2
        refine SeqAt.eq_tupleAt (e := fun _ => true) p p2 (by omega) (fun j _ h => by simp at h) ?_
        refine ⟨.bl ds.isEmpty, H, I, ?_, q⟩
        have e1 := rv.length
        have e2 := q1.length
        show Value.bool _ = Value.bool _
        congr 1
        cases ds with
        | nil =>
          have : its = [] := List.eq_nil_of_length_eq_zero (by rw [← e1, e2]; rfl)
          subst this
          rfl
        | cons d ds =>
          cases its with
          | nil =>
            exfalso
            have : (d :: ds).length = 0 := by rw [← e2, e1]; rfl
            simp at this
          | cons _ _ => simp
theorem eqvAll_ints2 : ∀ l l' : List Int, PyData.eqvAll (l.map .int) (l'.map .int) = decide (l = l')
  | [], [] => rfl
  | [], _ :: _ => rfl
  | _ :: _, [] => rfl
  | x :: l, y :: l' => by
    show (PyData.eqv (.int x) (.int y) && PyData.eqvAll (l.map .int) (l'.map .int)) = _
    rw [eqvAll_ints2 l l']
    have : PyData.eqv (.int x) (.int y) = decide (x = y) := by simp [PyData.eqv, Bool.beq_eq_decide_eq]
    rw [this]
    by_cases h : x = y <;> by_cases h' : l = l' <;> simp [h, h']
theorem eqv_lists (l l' : List Int) : PyData.eqv (.list (l.map .int)) (.list (l'.map .int)) = decide (l = l') := eqvAll_ints2 l l'
end DL
set_option Elab.async false
set_option linter.all false
set_option maxRecDepth 100000
set_option maxHeartbeats 4000000
set_option pp.maxSteps 600
namespace KX
open PySem PySem.Spec PyProof.Rows L2 DL
open Classical in
noncomputable def isOrdB (m : Nat) (x : D) : Bool := decide (∃ o : List Nat, o.length = m ∧ (List.range m).Perm o ∧ x = rowD (o.map Int.ofNat))
theorem isOrd_of {m : Nat} {x : D} (h : isOrdB m x = true) : ∃ o : List Nat, o.length = m ∧ (List.range m).Perm o ∧ x = rowD (o.map Int.ofNat) := by simpa [isOrdB] using h
theorem isOrd_no {m : Nat} {x : D} (h : isRow m x = false) : isOrdB m x = false := by
  rw [Bool.eq_false_iff]
  intro z
  obtain ⟨o, h1, h2, rfl⟩ := isOrd_of z
  have := isRow_row (o.map Int.ofNat)
  rw [List.length_map, h1] at this
  rw [this] at h
  cases h
theorem sort_ex (r : List Int) : ∃ ms : List Int, ms.Perm r ∧ ms.Pairwise (· ≤ ·) := by
  refine ⟨r.mergeSort (fun a b => decide (a ≤ b)), List.mergeSort_perm r _, ?_⟩
  have := List.pairwise_mergeSort (le := fun a b : Int => decide (a ≤ b)) (fun a b c h1 h2 => by simp at h1 h2 ⊢; omega) (fun a b => by simp; omega) r
  exact this.imp fun h => by simpa using h
theorem map_ofNat_inj {a b : List Nat} (h : a.map Int.ofNat = b.map Int.ofNat) : a = b := List.map_inj_right (fun a b e => Int.ofNat.inj e) |>.mp h
theorem isOrd_row {m : Nat} {r ms : List Int} (hl : r.length = m) (hp : ms.Perm r) (hs : ms.Pairwise (· ≤ ·)) : decide (ms = (List.range m).map Int.ofNat) = isOrdB m (rowD r) := by
  rw [Bool.eq_iff_iff]
  simp only [isOrdB, decide_eq_true_eq]
  constructor
  · rintro rfl
    have hpos : ∀ x ∈ r, 0 ≤ x := fun x m => by
      have := hp.symm.subset m
      obtain ⟨a, _, rfl⟩ := List.mem_map.mp this
      exact Int.ofNat_nonneg a
    have e : r = (r.map Int.toNat).map Int.ofNat := by
      rw [List.map_map]
      conv => lhs; rw [← List.map_id r]
      refine List.map_congr_left fun x m => ?_
      have := hpos x m
      simp
      omega
    refine ⟨r.map Int.toNat, by simp [hl], ?_, by rw [← e]⟩
    have := hp.map Int.toNat
    simp only [List.map_map] at this
    have e2 : (Int.toNat ∘ Int.ofNat) = id := by funext x; simp
    rw [e2, List.map_id] at this
    exact this
  · rintro ⟨o, h1, h2, h3⟩
    have e := rowD_inj h3
    subst e
    have hp2 : ((List.range m).map Int.ofNat).Perm ms := (h2.map Int.ofNat).trans hp.symm
    refine (List.Perm.eq_of_pairwise (le := fun a b : Int => a ≤ b) (fun a b _ _ h1 h2 => Int.le_antisymm h1 h2) hs (sorted_range m) hp2.symm)
section
variable {P : Program} {w : World} {K : Fg} {mg : Str → Option Value} {base : Heap} (G : Fre mg)
include G
def S_is_order : List D → D → Prop := fun ds d => ∃ x m, ds = [x, .int (m : Nat)] ∧ okD x = true ∧ m ≤ 1000 ∧ d = .bool (isOrdB m x)
def S_is_web_thing : List D → D → Prop := fun ds d => ∃ x, ds = [x] ∧ okD x = true ∧ d = .bool (isWebB x)
abbrev n_is_web_thing : List Str := ["thing"]
omit G in
theorem nd_is_web_thing : n_is_web_thing.Nodup := by decide
theorem b_is_web_thing (F1 : Df P w K mg base 4 "is_table_thing" (top 21) ["thing"] 0 (pfs S_is_table_thing)) (F2 : Df P w K mg base 2 "fault_of" (top 12) ["table"] 0 (pfs S_fault_of)) {k : Nat} (hk : 4 ≤ k) {ds : List D} {d0 : D} (S : S_is_web_thing ds d0) : BodyP P w K mg base k n_is_web_thing ["thing"] (top 22) 0 ds (fun d' => d' = d0) (fun _ _ => False) := by
  obtain ⟨x, rfl, hx, rfl⟩ := S
  intro qual f cdv A outer s H E
  conv in (occs := *) defScope _ => all_goals whnf
  conv in defBody _ => whnf
  intro hr
  show SS _ _ _ _ [.pv x] _
  refine (ss_one (s1_ret (ev_and (eg_callS F1 hr hk (ev_var 0 rfl ⟨rfl, _, ⟨_, rfl, hx, rfl⟩, ⟨_, rfl, fun h1 => ?_, fun h2 => ⟨le_ok rfl, ?_⟩⟩⟩) ⟨rfl, trivial⟩))))
  · obtain ⟨n, T, hT, rfl⟩ := isTable_of h1
    rw [isWeb_fault hT]
    exact ev_one (ev_cmp (eg_callS F2 hr (by omega) (ev_var 0 rfl ⟨rfl, _, ⟨n, T, hT, rfl, rfl⟩, (ev_non ⟨_, c_isN, ⟨le_ok rfl, rfl⟩⟩)⟩) ⟨rfl, trivial⟩))
  · rw [isWeb_no h2]
/-! ### what is asked of arguments -/
def S_need_web (C : Addr) : List D → Out → Prop := fun ds o => ∃ x, ds = [x] ∧ okD x = true ∧ o = if isWebB x = true then .ret .none else .exn C [(Str.ofString "thing", x)]
abbrev n_need_web : List Str := ["web"]
omit G in
theorem nd_need_web : n_need_web.Nodup := by decide
theorem b_need_web {C : Addr} (NBadWeb : Exn P w K mg base "BadWeb" "thing" C) (F1 : Df P w K mg base 5 "is_web_thing" (top 22) ["thing"] 0 (pfs S_is_web_thing)) {k : Nat} (hk : 5 ≤ k) {ds : List D} {o : Out} (S : S_need_web C ds o) :
    BodyP P w K mg base k n_need_web ["web"] (top 23) 0 ds (fun d' => o = .ret d') (fun C fs => o = .exn C fs) := by
  obtain ⟨x, rfl, hx, rfl⟩ := S
  intro qual f cdv A outer s H E
  conv in (occs := *) defScope _ => all_goals whnf
  conv in defBody _ => whnf
  intro hr
  show SS _ _ _ _ [.pv x] _
  refine (ss_one (s1_if (et_not (et_val (eg_callS F1 hr hk (ev_var 0 rfl ⟨rfl, _, ⟨_, rfl, hx, rfl⟩, ⟨_, rfl, fun h1 => (ss_one (s1_rs NBadWeb hr (by omega) (ev_var 0 rfl ⟨le_ok rfl, ?_⟩))), fun h2 => (ss_nil ?_)⟩⟩) ⟨rfl, trivial⟩)))))
  · rw [if_neg (by simpa using h1)]
  · rw [if_pos (by simpa using h2)]
    exact ⟨le_ok rfl, rfl⟩
omit G in
theorem need_ok {C : Addr} {n : Nat} {T : List (List Int)} (hw : Web n T) (hx : okD (tb T) = true) : S_need_web C [tb T] (.ret .none) := ⟨tb T, rfl, hx, by rw [if_pos (isWeb_tb hw)]⟩
omit G in
theorem ok_tb {n : Nat} {T : List (List Int)} (hT : Tbl n T) : okD (tb T) = true := by
  have h1 := hT.len
  have h2 := hT.n8
  refine okD_tup (by simp; omega) fun d m => ?_
  obtain ⟨r, hr, rfl⟩ := List.mem_map.mp m
  have := hT.rows r hr
  refine okD_tup (by simp; omega) fun d m => ?_
  obtain ⟨i, _, rfl⟩ := List.mem_map.mp m
  rfl
end
end KX
set_option Elab.async false
set_option linter.all false
set_option maxRecDepth 100000
set_option maxHeartbeats 4000000
set_option pp.maxSteps 600
namespace KX
open PySem PySem.Spec PyProof.Rows L2 DL
def renT (T : List (List Int)) (o : List Nat) : List (List Int) := o.map fun i => o.map fun j => ent T i j
theorem rng_get {n i : Nat} {d : D} (h : (rngD 0 (n : Nat))[i]? = some d) : i < n ∧ d = .int (i : Nat) := by
  have hl := (List.getElem?_eq_some_iff.mp h).1
  rw [rngD_len] at hl
  have hi : i < n := by simpa using hl
  refine ⟨hi, ?_⟩
  simp [rngD, hi] at h
  exact h.symm
section
variable {P : Program} {w : World} {K : Fg} {mg : Str → Option Value} {base : Heap} (G : Fre mg)
include G
/-! ### renamed_table -/
def S_renamed_table : List D → D → Prop := fun ds d => ∃ (n : Nat) (T : List (List Int)) (o : List Nat), Tbl n T ∧ o.length ≤ 1000 ∧ (∀ i ∈ o, i < n) ∧ ds = [tb T, rowD (o.map Int.ofNat)] ∧ d = tb (renT T o)
abbrev n_renamed_table : List Str := ["table", "order", "i", "j"]
omit G in
theorem nd_renamed_table : n_renamed_table.Nodup := by decide
/-- the entries are small -/
def Sm (T : List (List Int)) : Prop := ∀ i j, ent T i j ≤ 1000000
def others (n r : Nat) : List Nat := (List.range n).filter fun x => x != r
def passT (n : Nat) (T : List (List Int)) (r : Nat) : List (List Int) := (others n r).map fun i => (others n r).map fun k => ent T i k + ent T i r * ent T r k
def S_pass_table : List D → D → Prop := fun ds d => ∃ n T r, Tbl n T ∧ Sm T ∧ r < n ∧ ds = [tb T, .int (r : Nat)] ∧ d = if 0 < ent T r r ∨ n = 1 then .none else tb (passT n T r)
abbrev n_pass_table : List Str := ["web", "r", "rooms", "room", "i", "k"]
omit G in
theorem nd_pass_table : n_pass_table.Nodup := by decide
omit G in
theorem others_lt {n r x : Nat} (h : x ∈ others n r) : x < n := by
  unfold others at h
  exact List.mem_range.mp (List.mem_filter.mp h).1
def isN0 (r : Nat) : D → Bool
  | .int i => decide (i = (r : Nat))
  | _ => false
omit G in
theorem others_D (n r : Nat) : ((rngD 0 (n : Nat)).filter fun d => !isN0 r d) = (others n r).map fun x => .int (x : Nat) := by
  unfold others
  rw [rngD_eq, List.map_map, List.filter_map]
  have : ((fun d => !isN0 r d) ∘ (PyData.int ∘ Int.ofNat)) = fun x : Nat => x != r := by
    funext x
    simp [isN0, bne, Bool.beq_eq_decide_eq]
    omega
  rw [this]
  rfl
end
end KX
set_option Elab.async false
set_option linter.all false
set_option maxRecDepth 100000
set_option maxHeartbeats 4000000
set_option pp.maxSteps 600
namespace KX
open PySem PySem.Spec PyProof.Rows L2 DL
theorem shaped_tints (l : List Int) : SeqAt.shaped (.tuple (l.map .int)) = true := by
  unfold SeqAt.shaped
  rw [show PyData.canLay0 (.tuple (l.map .int)) = PyData.canLayAll0 (l.map .int) from by simp [PyData.canLay0], canLay_ints, show PyData.depth (.tuple (l.map .int)) = PyData.depthAll (l.map .int) + 1 from by simp [PyData.depth], depth_ints]
  rfl
def strR (n : Nat) (T : List (List Int)) (i j a : Nat) : List Int := ((List.range n).map fun k => if a = i ∧ k = j then ent T a k - 1 else ent T a k) ++ [if a = i then 1 else 0]
def strT (n : Nat) (T : List (List Int)) (i j : Nat) : List (List Int) := (List.range n).map (strR n T i j) ++ [((List.range n).map fun k => if k = j then 1 else 0) ++ [0]]
theorem row_eqQ {n : Nat} {T : List (List Int)} (hT : Tbl n T) {a : Nat} (ha : a < n) : row T a = (List.range n).map fun k => ent T a k := by
  have hl : (row T a).length = n := hT.rows _ (row_mem (by rw [hT.len]; exact ha))
  apply List.ext_getElem?
  intro q
  by_cases hq : q < n
  · simp [hq, ent, hl]
  · rw [List.getElem?_eq_none (by omega), List.getElem?_eq_none (by simp; omega)]
section
variable {P : Program} {w : World} {K : Fg} {mg : Str → Option Value} {base : Heap} (G : Fre mg)
include G
def S_stretch_table : List D → D → Prop := fun ds d => ∃ n T i j, Tbl n T ∧ i < n ∧ j < n ∧ ds = [tb T, .int (i : Nat), .int (j : Nat)] ∧ d = if ent T i j < 1 ∨ 8 ≤ n then .none else tb (strT n T i j)
abbrev n_stretch_table : List Str := ["web", "i", "j", "n", "rows", "room", "row", "items", "item", "k"]
omit G in
theorem nd_stretch_table : n_stretch_table.Nodup := by decide
end
end KX
set_option Elab.async false
set_option linter.all false
set_option maxRecDepth 100000
set_option maxHeartbeats 1000000
namespace DL
open PySem PySem.Spec PyProof.Rows L2
open PySem.W (AlikeAll minD maxD minD_ints maxD_ints)
theorem alike_ints (l : List Int) : AlikeAll (l.map PyData.int) := by
  refine ⟨fun x hx y hy => ?_, fun x hx => ?_⟩
  · obtain ⟨i, _, rfl⟩ := List.mem_map.mp hx
    obtain ⟨j, _, rfl⟩ := List.mem_map.mp hy
    rfl
  · obtain ⟨i, _, rfl⟩ := List.mem_map.mp hx
    exact fun z => nomatch z
theorem hasDict_mem : ∀ {ds : List D} {d : D}, PyData.hasDictAll ds = false → d ∈ ds → d.hasDict = false
  | [], _, _, m => nomatch m
  | e :: ds, d, h, m => by
    rw [PyData.hasDictAll, Bool.or_eq_false_iff] at h
    rcases List.mem_cons.mp m with rfl | m
    · exact h.1
    · exact hasDict_mem h.2 m
section
variable {X : Cx}
theorem q_minD (hc : X.calm = true) (hu : X.A.units + 64 < cLine) {d x : D} {xs : List D} (hs : seqD d = some (x :: xs)) (nd : PyData.hasDictAll (x :: xs) = false) (ha : AlikeAll (x :: xs)) (hd : PyData.depthAll (x :: xs) ≤ 60) : CallG X (.builtin "min") 0 [d] (minD x xs) := fun pins s σ H vs us Q I rv ⟨r, q⟩ => by
  obtain ⟨v, rfl, h⟩ := rep1 r
  have fin : ∀ {ws : List V} {its : List Value} {i : Nat} {u : Value} {h' : Heap} {tk : Nat} {bs : List Addr}, RepAll X.K H ws (x :: xs) → Vals ws its → its.toArray[i]? = some u → Reads h' u (minD x xs) bs → (∀ b o, s.heap.get? b = some o → h'.get? b = some o) → EP X pins σ Q u { s with heap := h', toks := tk } := by
    intro ws its i u h' tk bs r1 rr hi rd hk
    have hi : its[i]? = some u := by simpa using hi
    have hil := (List.getElem?_eq_some_iff.mp hi).1
    obtain ⟨w, hw⟩ := lt_get (l := ws) (i := i) (by rw [rr.length]; exact hil)
    obtain ⟨e, he, re⟩ := r1.get hw
    obtain ⟨u', hu', ru⟩ := rr.get hw
    rw [hi] at hu'
    obtain rfl := Option.some.inj hu'
    obtain ⟨as, rd0⟩ := Rep.reads I e w u re ru (hasDict_mem nd (List.mem_of_getElem? he))
    obtain ⟨rfl, _⟩ := Reads.unique (Reads.keeps hk rd0) _ _ rd
    exact ⟨w, H, I.kept hk, ru, q w H [] ⟨re, rfl⟩ List.nodup_nil .refl⟩
  cases h with
  | lst h1 r1 =>
    cases hs
    obtain ⟨its, rr, hl, _⟩ := I.list h1.sq
    rw [Vals.ref1 rv]
    obtain ⟨as, hr⟩ := Rep.readsAll I (x :: xs) _ its r1 rr nd
    exact PySem.W.min_list_data (I.ok.hd hc) hl.isList hr ha (by omega) fun i u h' tk bs hi rd hk => fin r1 rr hi rd hk
  | tup h1 r1 =>
    cases hs
    obtain ⟨its, rr, hl, _⟩ := I.tuple h1.sq
    rw [Vals.ref1 rv]
    obtain ⟨as, hr⟩ := Rep.readsAll I (x :: xs) _ its r1 rr nd
    exact PySem.W.min_tuple_data (I.ok.hd hc) (show s.heap.IsTuple _ its.toArray from hl) hr ha (by omega) fun i u h' tk bs hi rd hk => fin r1 rr hi rd hk
  | _ => cases hs
theorem q_maxD (hc : X.calm = true) (hu : X.A.units + 64 < cLine) {d x : D} {xs : List D} (hs : seqD d = some (x :: xs)) (nd : PyData.hasDictAll (x :: xs) = false) (ha : AlikeAll (x :: xs)) (hd : PyData.depthAll (x :: xs) ≤ 60) : CallG X (.builtin "max") 0 [d] (maxD x xs) := fun pins s σ H vs us Q I rv ⟨r, q⟩ => by
  obtain ⟨v, rfl, h⟩ := rep1 r
  have fin : ∀ {ws : List V} {its : List Value} {i : Nat} {u : Value} {h' : Heap} {tk : Nat} {bs : List Addr}, RepAll X.K H ws (x :: xs) → Vals ws its → its.toArray[i]? = some u → Reads h' u (maxD x xs) bs → (∀ b o, s.heap.get? b = some o → h'.get? b = some o) → EP X pins σ Q u { s with heap := h', toks := tk } := by
    intro ws its i u h' tk bs r1 rr hi rd hk
    have hi : its[i]? = some u := by simpa using hi
    have hil := (List.getElem?_eq_some_iff.mp hi).1
    obtain ⟨w, hw⟩ := lt_get (l := ws) (i := i) (by rw [rr.length]; exact hil)
    obtain ⟨e, he, re⟩ := r1.get hw
    obtain ⟨u', hu', ru⟩ := rr.get hw
    rw [hi] at hu'
    obtain rfl := Option.some.inj hu'
    obtain ⟨as, rd0⟩ := Rep.reads I e w u re ru (hasDict_mem nd (List.mem_of_getElem? he))
    obtain ⟨rfl, _⟩ := Reads.unique (Reads.keeps hk rd0) _ _ rd
    exact ⟨w, H, I.kept hk, ru, q w H [] ⟨re, rfl⟩ List.nodup_nil .refl⟩
  cases h with
  | lst h1 r1 =>
    cases hs
    obtain ⟨its, rr, hl, _⟩ := I.list h1.sq
    rw [Vals.ref1 rv]
    obtain ⟨as, hr⟩ := Rep.readsAll I (x :: xs) _ its r1 rr nd
    exact PySem.W.max_list_data (I.ok.hd hc) hl.isList hr ha (by omega) fun i u h' tk bs hi rd hk => fin r1 rr hi rd hk
  | tup h1 r1 =>
    cases hs
    obtain ⟨its, rr, hl, _⟩ := I.tuple h1.sq
    rw [Vals.ref1 rv]
    obtain ⟨as, hr⟩ := Rep.readsAll I (x :: xs) _ its r1 rr nd
    exact PySem.W.max_tuple_data (I.ok.hd hc) (show s.heap.IsTuple _ its.toArray from hl) hr ha (by omega) fun i u h' tk bs hi rd hk => fin r1 rr hi rd hk
  | _ => cases hs
end
theorem noDict_ints : ∀ l : List Int, PyData.hasDictAll (l.map PyData.int) = false
  | [] => rfl
  | x :: l => by rw [List.map_cons, PyData.hasDictAll, noDict_ints l]; rfl
theorem fold_min : ∀ (l : List Int) (n m : Int), (m = n ∨ m ∈ l) → m ≤ n → (∀ y ∈ l, m ≤ y) → l.foldl min n = m
  | [], n, m, h, _, _ => by
    rcases h with rfl | h
    · rfl
    · cases h
  | x :: l, n, m, h, hn, hl => by
    rw [List.foldl_cons]
    refine fold_min l _ m ?_ ?_ fun y hy => hl y (List.mem_cons_of_mem _ hy)
    · have hx := hl x List.mem_cons_self
      rcases h with rfl | h
      · left; omega
      · rcases List.mem_cons.mp h with rfl | h
        · left; omega
        · exact .inr h
    · have hx := hl x List.mem_cons_self
      omega
theorem fold_max : ∀ (l : List Int) (n m : Int), (m = n ∨ m ∈ l) → n ≤ m → (∀ y ∈ l, y ≤ m) → l.foldl max n = m
  | [], n, m, h, _, _ => by
    rcases h with rfl | h
    · rfl
    · cases h
  | x :: l, n, m, h, hn, hl => by
    rw [List.foldl_cons]
    refine fold_max l _ m ?_ ?_ fun y hy => hl y (List.mem_cons_of_mem _ hy)
    · have hx := hl x List.mem_cons_self
      rcases h with rfl | h
      · left; omega
      · rcases List.mem_cons.mp h with rfl | h
        · left; omega
        · exact .inr h
    · have hx := hl x List.mem_cons_self
      omega
theorem depthA_ints (l : List Int) : PyData.depthAll (l.map PyData.int) ≤ 60 := by rw [depth_ints]; omega
theorem q_minT {X : Cx} (hc : X.calm = true) (hu : X.A.units + 64 < cLine) {ns : List Int} {m : Int} (hm : m ∈ ns) (hx : ∀ y ∈ ns, m ≤ y) : CallG X (.builtin "min") 0 [.tuple (ns.map .int)] (.int m) := by
  cases ns with
  | nil => cases hm
  | cons n ns =>
    have := q_minD hc hu (d := .tuple ((n :: ns).map .int)) (x := .int n) (xs := ns.map .int) rfl (noDict_ints (n :: ns)) (alike_ints (n :: ns)) (depthA_ints (n :: ns))
    rw [minD_ints, fold_min ns n m (List.mem_cons.mp hm) (hx n List.mem_cons_self) fun y hy => hx y (List.mem_cons_of_mem _ hy)] at this
    exact this
theorem q_maxT {X : Cx} (hc : X.calm = true) (hu : X.A.units + 64 < cLine) {ns : List Int} {m : Int} (hm : m ∈ ns) (hx : ∀ y ∈ ns, y ≤ m) : CallG X (.builtin "max") 0 [.tuple (ns.map .int)] (.int m) := by
  cases ns with
  | nil => cases hm
  | cons n ns =>
    have := q_maxD hc hu (d := .tuple ((n :: ns).map .int)) (x := .int n) (xs := ns.map .int) rfl (noDict_ints (n :: ns)) (alike_ints (n :: ns)) (depthA_ints (n :: ns))
    rw [maxD_ints, fold_max ns n m (List.mem_cons.mp hm) (hx n List.mem_cons_self) fun y hy => hx y (List.mem_cons_of_mem _ hy)] at this
    exact this
end DL
namespace DL
open PySem PySem.Spec PyProof.Rows L2
section
variable {X : Cx} {R : XP} {Γ : Gam} {n : Nat} {es : List Expr} {pos p p0 : Pos} {P : D → Gam → Prop}
def putH (Γ : Gam) (i : Nat) : Gam → Gam
  | s :: _ => Γ.set i s
  | [] => Γ
theorem updA_putH {Γ : Gam} {i : Nat} {ds : List D} : ∀ Γ' : Gam, updA Γ (.sl i :: ds.map .pv) Γ' = putH Γ i Γ'
  | [] => rfl
  | _ :: _ => updA_sl
/-- f(deck, e, ..): the first argument is a slot whose object is handed on -/
theorem eg_deck {k j : Nat} {x y : Str} {st : Stmt} {ps : List Str} {fs : FS} (F : Df X.prog X.w X.K X.mg X.base k x st ps n fs) (hr : Rm j X.A) (hk : k ≤ j) (i : Nat) {v0 : V} {n0 : Nat} {d0 : D} (hd : Γ[i]? = some (.ow v0 n0 d0))
    (h : EAs X R es Γ fun ds Γ1 => ds.length + 1 = ps.length ∧ ∃ v m d, Γ1[i]? = some (.ow v m d) ∧ fs (.ow v m d :: ds.map .pv) (fun r Γ' => P r (putH Γ1 i Γ')) fun C gs Γ' => R C gs (putH Γ1 i Γ'))
    (hs : StarOk X (.Name y p0 :: es)) (hN : X.N[i]? = some y := by rfl) (hv : Vis X.env.scope y := by first | exact Or.inl rfl | exact Or.inr (Or.inl rfl) | exact Or.inr (Or.inr rfl)) (hdb : (y == ("__debug__" : Str)) = false := by decide) (hcd : (y == ("__classdict__" : Str)) = false := by decide)
    (hg : Gl X x := by rfl) (hdx : (x == ("__debug__" : Str)) = false := by decide) (hpl : (backTo pos (starEach es X.env)).any (·.1) = false := by rfl) :
    EG X R n (.Call (.Name x p) (.Name y p0 :: es) [] pos) Γ P := by
  refine eg_call F hr hk (ea_slot i hd (ea_of (P := fun as Γ2 => _) hs.2 (EAs.imp h fun ds Γ1 ⟨l1, v, m, d, e, q⟩ => ?_)) hN hv hdb hcd hs.1) hg hdx hs.1 hpl
  refine ⟨by simpa using l1, .ow v m d :: ds.map .pv, resA_sl e, ?_⟩
  simp only [updA_putH]
  exact q
end
end DL
namespace DL
open PySem PySem.Spec PyProof.Rows L2
theorem c_isB {X : Cx} {a b : Bool} : CmpG X .Is (.bool a) (.bool b) (a == b) :=
  fun pins s σ H _ _ v u Q I rx ry ⟨r1, r2, q⟩ => by
    cases r1
    cases r2
    cases rx
    cases ry
    refine wpAny_is_plain (by cases a <;> cases b <;> rfl) ⟨.bl (a == b), H, I, ?_, q⟩
    show Value.bool _ = Value.bool _
    congr 1
    cases a <;> cases b <;> rfl
end DL
set_option Elab.async false
set_option linter.all false
set_option maxRecDepth 100000
set_option maxHeartbeats 1000000
namespace DL
open PySem PySem.Spec PyProof.Rows L2
def isLstD : D → Bool
  | .list _ => true
  | _ => false
theorem kit_lst' (d : D) : kitB (tyD d) "list" = some (isLstD d) := by rw [kit_list]; cases d <;> rfl
section
variable {X : Cx} {R : XP} {W : WX} {Γ : Gam} {m n : Nat} {o e a b c i : Expr} {es : List Expr} {pos pos' p : Pos} {P : D → Gam → Prop}
/-! ### isinstance of a tuple of built-in types -/
theorem kitLT {K : Fg} {H : Hp} {v : V} {d : D} (h : Rep K H v d) : PySem.W.kitAny K (tyV K d) [.type "list", .type "tuple"] = some (isLstD d || isTupD d) := by
  refine kitAny_cons (kitH h (by decide) (kit_lst' d)) (fun q => ?_) fun q => by rw [q]; rfl
  rw [q, Bool.false_or]
  refine kitAny_cons (kitH h (by decide) (kit_tup' d)) (fun q => ?_) fun q => q
  rw [q]; rfl
theorem kitLTD {K : Fg} {H : Hp} {v : V} {d : D} (h : Rep K H v d) : PySem.W.kitAny K (tyV K d) [.type "list", .type "tuple", .type "dict"] = some (isLstD d || isTupD d || isDctD d) := by
  refine kitAny_cons (kitH h (by decide) (kit_lst' d)) (fun q => ?_) fun q => by rw [q]; rfl
  rw [q, Bool.false_or]
  refine kitAny_cons (kitH h (by decide) (kit_tup' d)) (fun q => ?_) fun q => by rw [q]; rfl
  rw [q, Bool.false_or]
  refine kitAny_cons (kitHd h) (fun q => ?_) fun q => q
  rw [q]; rfl
theorem ev_isiLT {p2 q1 q2 : Pos} {kt : Nat} (hm : X.mg "isinstance" = none) (hm1 : X.mg "list" = none) (hm2 : X.mg "tuple" = none) (h : EV X R e Γ fun d Γ1 => realD d = true ∧ P (.bool (isLstD d || isTupD d)) Γ1)
    (hg : Gl X "isinstance" := by rfl) (hg1 : Gl X "list" := by rfl) (hg2 : Gl X "tuple" := by rfl) (hv : bootBuiltins "isinstance" = some (.builtin "isinstance") := by decide +kernel) (hv1 : bootBuiltins "list" = some (.type "list") := by decide +kernel) (hv2 : bootBuiltins "tuple" = some (.type "tuple") := by decide +kernel)
    (he : starEach [e, .Tuple [.Name "list" q1, .Name "tuple" q2] kt p2] X.env = (false, eval e X.env) :: starEach [.Tuple [.Name "list" q1, .Name "tuple" q2] kt p2] X.env := by rfl)
    (he2 : starEach [.Tuple [.Name "list" q1, .Name "tuple" q2] kt p2] X.env = (false, eval (.Tuple [.Name "list" q1, .Name "tuple" q2] kt p2) X.env) :: starEach [] X.env := by rfl) (hpl : (backTo pos (starEach [.Tuple [.Name "list" q1, .Name "tuple" q2] kt p2] X.env)).any (·.1) = false := by rfl)
    (hs1 : starEach [.Name "list" q1, .Name "tuple" q2] X.env = (false, eval (.Name "list" q1) X.env) :: starEach [.Name "tuple" q2] X.env := by rfl) (hs2 : starEach [.Name "tuple" q2] X.env = (false, eval (.Name "tuple" q2) X.env) :: starEach [] X.env := by rfl) :
    EV X R (.Call (.Name "isinstance" p) [e, .Tuple [.Name "list" q1, .Name "tuple" q2] kt p2] [] pos) Γ P := fun W tk =>
  pe_weak (pe_callB call_isiHT hg hm hv (pa_cons (pe_any (n := 0) tk) (pa_cons (pe_tup (pa_cons (pe_bltn (v := .ty "list") hg1 hm1 hv1 rfl (by decide) (by decide)) (pa_cons (pe_bltn (v := .ty "tuple") hg2 hm2 hv2 rfl (by decide) (by decide)) pa_nil hs2) hs1)) pa_nil he2) he) (by decide) (by decide) he hpl) fun σ H Q ⟨fp, hE, k, x⟩ => Any.go h hE x (Kt.of0 fun v d Γ1 H1 fp1 ⟨nd, q⟩ r E1 f1 =>
    ⟨by rw [sizeLine_eq]; decide, fun tp ht => ⟨v, tp, [.ty "list", .ty "tuple"], _, _, _, rfl, upd_same, .cons (.ty _) (.cons (.ty _) .nil), ty_repH (r.mono (ez_upd ht)) nd, kitLT r, k.to0 q (.bl _) (E1.alloc ht) (f1.trans (Fr.alloc0 ht))⟩⟩)
theorem ev_isiLTD {p2 q1 q2 q3 : Pos} {kt : Nat} (hm : X.mg "isinstance" = none) (hm1 : X.mg "list" = none) (hm2 : X.mg "tuple" = none) (hm3 : X.mg "dict" = none) (h : EV X R e Γ fun d Γ1 => realD d = true ∧ P (.bool (isLstD d || isTupD d || isDctD d)) Γ1)
    (hg : Gl X "isinstance" := by rfl) (hg1 : Gl X "list" := by rfl) (hg2 : Gl X "tuple" := by rfl) (hg3 : Gl X "dict" := by rfl) (hv : bootBuiltins "isinstance" = some (.builtin "isinstance") := by decide +kernel) (hv1 : bootBuiltins "list" = some (.type "list") := by decide +kernel) (hv2 : bootBuiltins "tuple" = some (.type "tuple") := by decide +kernel) (hv3 : bootBuiltins "dict" = some (.type "dict") := by decide +kernel)
    (he : starEach [e, .Tuple [.Name "list" q1, .Name "tuple" q2, .Name "dict" q3] kt p2] X.env = (false, eval e X.env) :: starEach [.Tuple [.Name "list" q1, .Name "tuple" q2, .Name "dict" q3] kt p2] X.env := by rfl)
    (he2 : starEach [.Tuple [.Name "list" q1, .Name "tuple" q2, .Name "dict" q3] kt p2] X.env = (false, eval (.Tuple [.Name "list" q1, .Name "tuple" q2, .Name "dict" q3] kt p2) X.env) :: starEach [] X.env := by rfl) (hpl : (backTo pos (starEach [.Tuple [.Name "list" q1, .Name "tuple" q2, .Name "dict" q3] kt p2] X.env)).any (·.1) = false := by rfl)
    (hs1 : starEach [.Name "list" q1, .Name "tuple" q2, .Name "dict" q3] X.env = (false, eval (.Name "list" q1) X.env) :: starEach [.Name "tuple" q2, .Name "dict" q3] X.env := by rfl) (hs2 : starEach [.Name "tuple" q2, .Name "dict" q3] X.env = (false, eval (.Name "tuple" q2) X.env) :: starEach [.Name "dict" q3] X.env := by rfl) (hs3 : starEach [.Name "dict" q3] X.env = (false, eval (.Name "dict" q3) X.env) :: starEach [] X.env := by rfl) :
    EV X R (.Call (.Name "isinstance" p) [e, .Tuple [.Name "list" q1, .Name "tuple" q2, .Name "dict" q3] kt p2] [] pos) Γ P := fun W tk =>
  pe_weak (pe_callB call_isiHT hg hm hv (pa_cons (pe_any (n := 0) tk) (pa_cons (pe_tup (pa_cons (pe_bltn (v := .ty "list") hg1 hm1 hv1 rfl (by decide) (by decide)) (pa_cons (pe_bltn (v := .ty "tuple") hg2 hm2 hv2 rfl (by decide) (by decide)) (pa_cons (pe_bltn (v := .ty "dict") hg3 hm3 hv3 rfl (by decide) (by decide)) pa_nil hs3) hs2) hs1)) pa_nil he2) he) (by decide) (by decide) he hpl) fun σ H Q ⟨fp, hE, k, x⟩ => Any.go h hE x (Kt.of0 fun v d Γ1 H1 fp1 ⟨nd, q⟩ r E1 f1 =>
    ⟨by rw [sizeLine_eq]; decide, fun tp ht => ⟨v, tp, [.ty "list", .ty "tuple", .ty "dict"], _, _, _, rfl, upd_same, .cons (.ty _) (.cons (.ty _) (.cons (.ty _) .nil)), ty_repH (r.mono (ez_upd ht)) nd, kitLTD r, k.to0 q (.bl _) (E1.alloc ht) (f1.trans (Fr.alloc0 ht))⟩⟩)
end
/-! ### a house is made -/
section
variable {X : Cx} {pins : List (Addr × Obj)} {σ : Sl} {H : Hp} {s : Shared}
theorem run_makeG {C f : Addr} {k : Nat} {fd : FuncData} {ps : List Str} {sp : Sp} {us : List Value} {vs : List V} {Q : VK} (M : Mk X.K C f) (F : FnG X.prog X.w X.K X.mg X.base k f fd ps sp) (hr : Rm (k + 1) X.A)
    (hb : ∀ (s : Shared) (us : List Value), us.length = ps.length → BindsTo s fd ⟨us, []⟩ (ps.zip us)) (I : Inv X pins σ H s) (r : Vals vs us)
    (h : ∀ x dx, H x = none → H dx = none → dx ≠ x → sp (.ref x :: vs) (upd (upd H dx (.own x)) x (.ins C dx [])) (fun v H2 => v = .non ∧ Q (.ref x) H2) fun _ _ _ => False) :
    wpAny (model X.prog X.w) X.A (call (.ref C) us) (EP X pins σ Q) X.xe s := by
  have hq := h (s.heap.objs.size + 1) s.heap.objs.size (I.hok.fresh (Nat.le_succ _)) (I.hok.fresh (Nat.le_refl _)) (Nat.ne_of_lt (Nat.lt_succ_self _))
  have I2 := Inv.made (C := C) I
  have r2 : Vals (V.ref (s.heap.objs.size + 1) :: vs) (Value.ref (s.heap.objs.size + 1) :: us) := .cons rfl r
  have hl : (Value.ref (s.heap.objs.size + 1) :: us).length = ps.length := by
    have e := r2.length
    rw [F.len _ _ _ _ hq] at e
    exact e.symm
  refine wpAny_call (make_map (f := f) I.kIn M.makes M.init (beq_iff_eq.mp M.fn) (codeAny_mono (F.run _ X.stack _ _ ⟨Value.ref (s.heap.objs.size + 1) :: us, []⟩ (Value.ref (s.heap.objs.size + 1) :: us) _ _ _ (hr.make C us [])
    (I2.env0.make C us []) (hb _ (Value.ref (s.heap.objs.size + 1) :: us) hl) r2 hq) fun r s' hq' => ?_))
  cases r with
  | error e =>
    obtain ⟨_, _, _, _, _, _, _, _, _, _, _, _, z⟩ := hq'
    exact z.elim
  | ok fl =>
    cases fl with
    | ret u =>
      obtain ⟨v, H', I3, rv, ev, q3⟩ := I2.after hq'
      subst ev
      exact ⟨rv, ⟨V.ref (s.heap.objs.size + 1), H', I3, rfl, q3⟩⟩
    | next => exact False.elim hq'
    | brk => exact False.elim hq'
    | cont => exact False.elim hq'
theorem upd_upd {H : Hp} {a : Addr} {u v : HO} : upd (upd H a u) a v = upd H a v := by
  funext b
  by_cases z : b = a
  · rw [z, upd_same, upd_same]
  · rw [upd_ne z, upd_ne z, upd_ne z]
end
/-- what Stand.__init__ does: three attributes -/
def spSt (C : Addr) : Sp := fun vs H Q _ => ∃ a dx v1 v2 v3, vs = [.ref a, v1, v2, v3] ∧ H a = some (.ins C dx []) ∧ Q .non (upd H a (.ins C dx [("webs", v1), ("rows", v2), ("promises", v3)]))
/-- what House.__init__ does: it is left with some attributes -/
def spHs (C : Addr) : Sp := fun vs H Q _ => ∃ a dx, vs = [.ref a] ∧ H a = some (.ins C dx []) ∧ ∀ H' fs, (∀ b u, b ≠ a → H b = some u → H' b = some u) → (∀ b, H' b = none → H b = none) → H' a = some (.ins C dx fs) → Q .non H'
section
variable {P : Program} {w : World} {K : Fg} {mg : Str → Option Value} {base : Heap}
theorem init_st {qual : Str} {st : Stmt} {fi : Addr} {fd : FuncData} {C : Addr} {p1 p2 p3 p4 q1 q2 q3 q4 r1 r2 r3 r4 : Pos} (F : Fun K "__init__" qual st fi fd) (S : FnScope ["self", "webs", "rows", "promises"] ["self", "webs", "rows", "promises"] (defScope st))
    (hb : defBody st = [.Assign [.Attribute (.Name "self" p1) "webs" p2] (.Name "webs" p3) p4, .Assign [.Attribute (.Name "self" q1) "rows" q2] (.Name "rows" q3) q4, .Assign [.Attribute (.Name "self" r1) "promises" r2] (.Name "promises" r3) r4])
    (k0 : (defScope st).names.lookup ("self" : Str) = some .local) (k1 : (defScope st).names.lookup ("webs" : Str) = some .local) (k2 : (defScope st).names.lookup ("rows" : Str) = some .local) (k3 : (defScope st).names.lookup ("promises" : Str) = some .local)
    (c : Cls K C) (n1 : NoAttr K C "webs") (n2 : NoAttr K C "rows") (n3 : NoAttr K C "promises")
    (h1 : ∀ env : PySem.Env, env.scope = defScope st → swapsWith (.Name "webs" p3) (some (.Attribute (.Name "self" p1) "webs" p2)) p4.line env = pure false)
    (h2 : ∀ env : PySem.Env, env.scope = defScope st → swapsWith (.Name "rows" q3) (some (.Attribute (.Name "self" q1) "rows" q2)) q4.line env = pure false)
    (h3 : ∀ env : PySem.Env, env.scope = defScope st → swapsWith (.Name "promises" r3) (some (.Attribute (.Name "self" r1) "promises" r2)) r4.line env = pure false) : FnG P w K mg base 1 fi fd ["self", "webs", "rows", "promises"] (spSt C) := by
  refine fnG_of (k := 0) F S (fun vs H Q E ⟨a, dx, v1, v2, v3, e, _⟩ => by rw [e]; rfl) fun cdv A outer s H vs Q E hr ⟨a, dx, v1, v2, v3, e, ea, q⟩ => ?_
  subst e
  refine ⟨_, by
    rw [hb]
    exact pss_cons (L2.ps_fld (pe_var (i := 0) rfl (.inl k0) (by decide) (by decide)) (pe_var (i := 1) rfl (.inl k1) (by decide) (by decide)) (h1 _ rfl))
      (pss_cons (L2.ps_fld (pe_var (i := 0) rfl (.inl k0) (by decide) (by decide)) (pe_var (i := 2) rfl (.inl k2) (by decide) (by decide)) (h2 _ rfl))
        (pss_one (L2.ps_fld (pe_var (i := 0) rfl (.inl k0) (by decide) (by decide)) (pe_var (i := 3) rfl (.inl k3) (by decide) (by decide)) (h3 _ rfl)))), ?_⟩
  refine ⟨v1, rfl, .ref a, rfl, a, C, dx, _, rfl, ea, c, n1, by simp, ?_⟩
  refine ⟨v2, rfl, .ref a, rfl, a, C, dx, _, rfl, upd_same, c, n2, Nat.lt_of_le_of_lt (length_putF _ _ _) (by decide), ?_⟩
  refine ⟨v3, rfl, .ref a, rfl, a, C, dx, _, rfl, upd_same, c, n3, Nat.lt_of_le_of_lt (length_putF _ _ _) (Nat.lt_of_le_of_lt (Nat.succ_le_succ (length_putF _ _ _)) (by decide)), ?_⟩
  rw [upd_upd, upd_upd]
  exact q
end
/-- the heap grows; only the place a may be changed -/
structure Gr (a : Addr) (H H' : Hp) : Prop where
  keep : ∀ b u, b ≠ a → H b = some u → H' b = some u
  dom : ∀ b, H' b = none → H b = none
theorem Gr.refl {a : Addr} {H : Hp} : Gr a H H := ⟨fun _ _ _ e => e, fun _ e => e⟩
theorem Gr.trans {a : Addr} {H H1 H2 : Hp} (g : Gr a H H1) (g' : Gr a H1 H2) : Gr a H H2 := ⟨fun b u n e => g'.keep b u n (g.keep b u n e), fun b e => g.dom b (g'.dom b e)⟩
theorem Gr.new {a p : Addr} {H : Hp} {u : HO} (h : H p = none) : Gr a H (upd H p u) := ⟨fun b v _ e => by rw [upd_ne (fun z => by rw [z, h] at e; cases e)]; exact e, fun b e => by
  by_cases z : b = p
  · rw [z]; exact h
  · rw [upd_ne z] at e; exact e⟩
theorem Gr.own {a : Addr} {H : Hp} {u : HO} (h : H a ≠ none) : Gr a H (upd H a u) := ⟨fun b v n e => by rw [upd_ne n]; exact e, fun b e => by
  by_cases z : b = a
  · rw [z, upd_same] at e; cases e
  · rw [upd_ne z] at e; exact e⟩
theorem upd_at {H : Hp} {a p : Addr} {u v : HO} (e : H a = some v) (h : H p = none) : upd H p u a = some v := by
  rw [upd_ne (fun z => by rw [z, h] at e; cases e)]; exact e
/-- C(..) of a plain class -/
def tMkG (C : Addr) (sp : Sp) (t : TA) : TE := fun σ H Q => t σ H fun vs H1 => ∀ x dx, H1 x = none → H1 dx = none → dx ≠ x → sp (.ref x :: vs) (upd (upd H1 dx (.own x)) x (.ins C dx [])) (fun v H2 => v = .non ∧ Q (.ref x) H2) fun _ _ _ => False
section
variable {X : Cx} {e : Expr} {es : List Expr} {pos p : Pos}
theorem pe_makeG {x : Str} {C f : Addr} {k : Nat} {fd : FuncData} {ps : List Str} {sp : Sp} {t : TA} (M : Mk X.K C f) (F : FnG X.prog X.w X.K X.mg X.base k f fd ps sp) (hr : Rm (k + 1) X.A)
    (hb : ∀ (s : Shared) (us : List Value), us.length = ps.length → BindsTo s fd ⟨us, []⟩ (ps.zip us)) (hg : Gl X x) (hm : X.mg x = some (.ref C)) (ha : PA X (e :: es) t)
    (hdb : (x == ("__debug__" : Str)) = false := by decide) (he : starEach (e :: es) X.env = (false, eval e X.env) :: starEach es X.env := by rfl) (hpl : (backTo pos (starEach es X.env)).any (·.1) = false := by rfl) :
    PE X (.Call (.Name x p) (e :: es) [] pos) (tMkG C sp t) := by
  refine ⟨fun pins s σ H Q I h => ?_⟩
  refine wpAny_Call_Name_kw (ld_glob I hg hm ?_ hdb)
  refine PySem.W.callWith_K (h₀ := X.base) I.ok.mod.kin M.kp (thn (ha.run pos pins s σ H _ I h) fun us s1 ⟨vs, H1, I1, r, q⟩ => ⟨I1.kIn, ?_⟩) he hpl
  exact run_makeG M F hr hb I1 r q
theorem pe_makeG0 {x : Str} {C f : Addr} {k : Nat} {fd : FuncData} {ps : List Str} {sp : Sp} (M : Mk X.K C f) (F : FnG X.prog X.w X.K X.mg X.base k f fd ps sp) (hr : Rm (k + 1) X.A)
    (hb : ∀ (s : Shared) (us : List Value), us.length = ps.length → BindsTo s fd ⟨us, []⟩ (ps.zip us)) (hg : Gl X x) (hm : X.mg x = some (.ref C))
    (hdb : (x == ("__debug__" : Str)) = false := by decide) : PE X (.Call (.Name x p) [] [] pos) (tMkG C sp tNil) := by
  refine ⟨fun pins s σ H Q I h => ?_⟩
  refine wpAny_Call_Name_kw (ld_glob I hg hm ?_ hdb)
  exact PySem.W.callWith_K0 I.kIn M.kp (run_makeG (us := []) M F hr hb I .nil h)
end
section
variable {P : Program} {w : World} {K : Fg} {mg : Str → Option Value} {base : Heap}
theorem init_hs {qual : Str} {st : Stmt} {fi fS : Addr} {fd fdS : FuncData} {C CS : Addr} {p1 p2 p3 a1 a2 a4 p5 p6 q1 q2 q4 q5 r1 r2 r4 r5 : Pos} {a3 q3 r3 : Nat} (F : Fun K "__init__" qual st fi fd) (S : FnScope ["self"] ["self"] (defScope st))
    (M : Mk K CS fS) (FS : FnG P w K mg base 1 fS fdS ["self", "webs", "rows", "promises"] (spSt CS)) (hbS : ∀ (s : Shared) (us : List Value), us.length = (["self", "webs", "rows", "promises"] : List Str).length → BindsTo s fdS ⟨us, []⟩ ((["self", "webs", "rows", "promises"] : List Str).zip us)) (hmS : mg "Stand" = some (.ref CS))
    (hb : defBody st = [.Assign [.Attribute (.Name "self" p1) "_stand" p2] (.Call (.Name "Stand" p3) [.Dict [] [] a1, .Dict [] [] a2, .Tuple [] a3 a4] [] p5) p6, .Assign [.Attribute (.Name "self" q1) "_done" q2] (.Tuple [] q3 q4) q5, .Assign [.Attribute (.Name "self" r1) "_undone" r2] (.Tuple [] r3 r4) r5])
    (k0 : (defScope st).names.lookup ("self" : Str) = some .local) (kS : Vis (defScope st) "Stand" ∨ True)
    (c : Cls K C) (n1 : NoAttr K C "_stand") (n2 : NoAttr K C "_done") (n3 : NoAttr K C "_undone")
    (hg : ∀ X : Cx, X.env.scope = defScope st → Gl X "Stand")
    (h1 : ∀ env : PySem.Env, env.scope = defScope st → swapsWith (.Call (.Name "Stand" p3) [.Dict [] [] a1, .Dict [] [] a2, .Tuple [] a3 a4] [] p5) (some (.Attribute (.Name "self" p1) "_stand" p2)) p6.line env = pure false)
    (h2 : ∀ env : PySem.Env, env.scope = defScope st → swapsWith (.Tuple [] q3 q4) (some (.Attribute (.Name "self" q1) "_done" q2)) q5.line env = pure false)
    (h3 : ∀ env : PySem.Env, env.scope = defScope st → swapsWith (.Tuple [] r3 r4) (some (.Attribute (.Name "self" r1) "_undone" r2)) r5.line env = pure false) : FnG P w K mg base 3 fi fd ["self"] (spHs C) := by
  refine fnG_of (k := 2) F S (fun vs H Q E ⟨a, dx, e, _⟩ => by rw [e]; rfl) fun cdv A outer s H vs Q E hr ⟨a, dx, e, ea, q⟩ => ?_
  subst e
  refine ⟨_, by
    rw [hb]
    exact pss_cons (L2.ps_fld (pe_var (i := 0) rfl (.inl k0) (by decide) (by decide)) (pe_makeG (X := cx P w K mg base ["self"] qual (defScope st) fi cdv A outer s H E) M FS hr hbS (hg _ rfl) hmS (pa_cons pe_dnewK (pa_cons pe_dnewK (pa_cons (pe_tup pa_nil) pa_nil)))) (h1 _ rfl))
      (pss_cons (L2.ps_fld (pe_var (i := 0) rfl (.inl k0) (by decide) (by decide)) (pe_tup pa_nil) (h2 _ rfl))
        (pss_one (L2.ps_fld (pe_var (i := 0) rfl (.inl k0) (by decide) (by decide)) (pe_tup pa_nil) (h3 _ rfl)))), ?_⟩
  intro d1 e1 d2 e2
  refine ⟨Nat.zero_le _, fun d3 e3 x dx' ex edx ne => ?_⟩
  have A1 := upd_at (u := .dK []) ea e1
  have A2 := upd_at (u := .dK []) A1 e2
  have A3 := upd_at (u := .tup []) A2 e3
  have A4 := upd_at (u := .own x) A3 edx
  have ex' : upd (upd (upd (upd H d1 (.dK [])) d2 (.dK [])) d3 (.tup [])) dx' (.own x) x = none := by rw [upd_ne (Ne.symm ne)]; exact ex
  have G5 := ((((Gr.new (a := a) (u := .dK []) e1).trans (Gr.new (u := .dK []) e2)).trans (Gr.new (u := .tup []) e3)).trans (Gr.new (u := .own x) edx)).trans (Gr.new (u := .ins CS dx' [("webs", .ref d1), ("rows", .ref d2), ("promises", .ref d3)]) ex')
  refine ⟨x, dx', _, _, _, rfl, upd_same, rfl, ?_⟩
  rw [upd_upd]
  have own : ∀ {H0 : Hp} {u v : HO}, H0 a = some v → Gr a H0 (upd H0 a u) := fun e => Gr.own fun z => by rw [z] at e; cases e
  have A5 := upd_at (u := .ins CS dx' [("webs", .ref d1), ("rows", .ref d2), ("promises", .ref d3)]) A4 ex'
  refine ⟨.ref a, rfl, a, C, dx, _, rfl, A5, c, n1, by simp, ?_⟩
  refine ⟨Nat.zero_le _, fun d4 e4 => ?_⟩
  refine ⟨.ref a, rfl, a, C, dx, _, rfl, upd_at upd_same e4, c, n2, Nat.lt_of_le_of_lt (length_putF _ _ _) (by decide), ?_⟩
  refine ⟨Nat.zero_le _, fun d5 e5 => ?_⟩
  refine ⟨.ref a, rfl, a, C, dx, _, rfl, upd_at upd_same e5, c, n3, Nat.lt_of_le_of_lt (length_putF _ _ _) (Nat.lt_of_le_of_lt (Nat.succ_le_succ (length_putF _ _ _)) (by decide)), ?_⟩
  have G6 := ((((G5.trans (own A5)).trans (Gr.new e4)).trans (own (upd_at upd_same e4))).trans (Gr.new (u := .tup []) e5)).trans (own (u := .ins C dx (putF "_undone" (.ref d5) (putF "_done" (.ref d4) (putF "_stand" (.ref x) [])))) (upd_at upd_same e5))
  exact q _ _ G6.keep G6.dom upd_same
end
section
variable {X : Cx} {R : XP} {W : WX} {Γ : Gam} {pos p : Pos} {P : D → Gam → Prop}
/-- what the head says of the class House -/
structure HsK (P : Program) (w : World) (K : Fg) (mg : Str → Option Value) (base : Heap) : Prop where
  c : HsC K
  make : ∃ f fd, Mk K (hsA K) f ∧ FnG P w K mg base 3 f fd ["self"] (spHs (hsA K)) ∧ ∀ (s : Shared) (us : List Value), us.length = (["self"] : List Str).length → BindsTo s fd ⟨us, []⟩ ((["self"] : List Str).zip us)
  g : mg "House" = some (.ref (hsA K))
/-- House() -/
theorem ev_hs {j : Nat} (k : HsK X.prog X.w X.K X.mg X.base) (hr : Rm j X.A) (hj : 4 ≤ j) (h : P hsD Γ) (hg : Gl X "House" := by rfl) : EV X R (.Call (.Name "House" p) [] [] pos) Γ P := by
  obtain ⟨f, fd, M, F, hb⟩ := k.make
  have pe := pe_makeG0 (p := p) (pos := pos) M F (hr.mono hj) hb hg k.g
  refine eg_of (t := fun σ H Q => ∀ H1 a od dx fs, (∀ b u, H b = some u → H1 b = some u) → (∀ b, H1 b = none → H b = none) → H1 a = some (.frz od (.ins (hsA X.K) dx fs)) → Q (.ref a) H1) ⟨fun pins s σ H Q I hq => ?_⟩ fun σ H Q fp hE kt H1 a od dx fs hk hd ha => ?_
  · have run := pe.run pins s σ H (fun v H2 => ∃ a dx fs, v = .ref a ∧ H2 a = some (.ins (hsA X.K) dx fs) ∧ H a = none ∧ (∀ b u, b ≠ a → H b = some u → H2 b = some u) ∧ ∀ b, H2 b = none → H b = none) I ?_
    · refine thn run fun u s1 ⟨v, H2, I2, rv, a, dx, fs, ev, ea, na, hk, hd⟩ => ?_
      obtain ⟨od, I3⟩ := I2.lock ea trivial
      subst ev
      refine ⟨.ref a, _, I3, rv, hq _ a od dx fs (fun b u e => ?_) (fun b e => ?_) upd_same⟩
      · have nb : b ≠ a := fun z => by rw [z, na] at e; cases e
        rw [upd_ne nb]; exact hk b u nb e
      · by_cases z : b = a
        · rw [z, upd_same] at e; cases e
        · rw [upd_ne z] at e; exact hd b e
    · intro x dx hx hdx ne
      have hx2 : upd H dx (.own x) x = none := by rw [upd_ne (Ne.symm ne)]; exact hx
      refine ⟨x, dx, rfl, upd_same, fun H' fs g1 g2 g3 => ⟨rfl, x, dx, fs, rfl, g3, hx, fun b u nb e => ?_, fun b e => ?_⟩⟩
      · exact g1 b u nb (upd_at (upd_at e hdx) hx2)
      · have := g2 b e
        by_cases z : b = x
        · rw [z]; exact hx
        · rw [upd_ne z] at this
          by_cases z2 : b = dx
          · rw [z2]; exact hdx
          · rw [upd_ne z2] at this; exact this
  · have ez : Ez H H1 := ⟨fun b u e _ => hk b u e, tab_but fun b u e _ _ => hk b u e⟩
    have fr : Fr fp fp H H1 := ⟨fun b u e _ _ => hk b u e, fun b m => .inl m, hd, ez⟩
    refine kt.to0 h (.hs ha k.c) ⟨hE.1.mono ez fun b m => ?_, hE.2⟩ fr
    obtain ⟨u, e, _⟩ := (hE.1.wr b m).mut
    rw [e]; exact hk b u e
end
end DL
set_option Elab.async false
set_option linter.all false
set_option maxRecDepth 100000
set_option maxHeartbeats 1000000
namespace DL
open PySem PySem.Spec PyProof.Rows L2
/-! ### repr of what is no sequence -/
def leafD : D → Bool
  | .none => true
  | .bool _ => true
  | .int i => decide (i.natAbs.log2 < 1920)
  | .str x => decide ((reprText x).length ≤ 16777216)
  | _ => false
theorem q_reprL {X : Cx} {d : D} (h : leafD d = true) : CallG X (.builtin "repr") 0 [d] (.str d.shown) := fun pins s σ H xs us Q I rv ⟨r, q⟩ => by
  obtain ⟨v, rfl, h1⟩ := rep1 r
  obtain ⟨u, rfl, ru⟩ := vals1 rv
  cases h1 with
  | non => cases ru; exact PySem.P.repr_of_none ⟨.str _, H, I.tok _, ⟨_, rfl⟩, q _ H [] ⟨.str _, rfl⟩ List.nodup_nil .refl⟩
  | bl b => cases ru; exact PySem.P.repr_of_bool ⟨.str _, H, I.tok _, ⟨_, by cases b <;> rfl⟩, q _ H [] ⟨.str _, rfl⟩ List.nodup_nil .refl⟩
  | int i => obtain ⟨t, rfl⟩ := ru; exact PySem.P.repr_of_int (of_decide_eq_true h) ⟨.str _, H, I.tok _, ⟨_, rfl⟩, q _ H [] ⟨.str _, rfl⟩ List.nodup_nil .refl⟩
  | str x => obtain ⟨t, rfl⟩ := ru; exact PySem.P.repr_of_str ⟨.str _, H, I.tok _, ⟨_, rfl⟩, q _ H [] ⟨.str _, rfl⟩ List.nodup_nil .refl⟩ (by rw [sizeLine_eq]; exact of_decide_eq_true h)
  | _ => cases h
theorem c_neNil {X : Cx} {ds : List D} (hu : X.A.units + 64 < cLine) : CmpG X .NotEq (.tuple ds) (.tuple []) (!ds.isEmpty) :=
  fun pins s σ H _ _ v u Q I rx ry ⟨r1, r2, q⟩ => by
    cases r1 with
    | tup h1 q1 =>
      cases r2 with
      | tup h2 q2 =>
        cases q2
        cases rx
        cases ry
        obtain ⟨its, rv, p, _⟩ := I.tuple h1.sq
        obtain ⟨its2, rv2, p2, _⟩ := I.tuple h2.sq
        cases rv2
        refine SeqAt.RcNeAt.tuples (e := fun _ => true) p p2 (by omega) (fun j _ h => by simp at h) X.prog X.w X.xe _ ?_
        refine ⟨.bl (!ds.isEmpty), H, I, ?_, q⟩
        have e1 := rv.length
        have e2 := q1.length
        show Value.bool _ = Value.bool _
        congr 1
        cases ds with
        | nil =>
          have : its = [] := List.eq_nil_of_length_eq_zero (by rw [← e1, e2]; rfl)
          subst this
          rfl
        | cons d ds =>
          cases its with
          | nil =>
            exfalso
            have : (d :: ds).length = 0 := by rw [← e2, e1]; rfl
            simp at this
          | cons _ _ => simp
/-! ### dicts: keys in turn, whether a key is there -/
theorem RepKV.len {K : Fg} {H : Hp} : ∀ {ks : List (Key × V)} {kvs : List (D × D)}, RepKV K H ks kvs → ks.length = kvs.length
  | _, _, .nil => rfl
  | _, _, .cons _ r => congrArg (· + 1) (RepKV.len r)
theorem RepKV.key {K : Fg} {H : Hp} : ∀ {ks : List (Key × V)} {kvs : List (D × D)} {i : Nat} {k : Key} {v : V}, RepKV K H ks kvs → ks[i]? = some (k, v) → (kvs.map (·.1))[i]? = some (kD k)
  | _, _, 0, _, _, .cons _ _, e => by simp at e; obtain ⟨rfl, rfl⟩ := e; rfl
  | _, _, i + 1, k, v, .cons _ r, e => by
    have := RepKV.key (i := i) (k := k) (v := v) r (by simpa using e)
    simpa using this
theorem rep_kV {K : Fg} {H : Hp} (k : Key) : Rep K H (kV k) (kD k) := by cases k <;> constructor
theorem src_keys {K : Fg} {d : Addr} {o : Obj} {ks : List (Key × V)} {kvs : List (D × D)} {H0 : Hp} (h : H0 d = some (.frz o (.dK ks))) (r : RepKV K H0 ks kvs) : Src K (Itk d o ks) (kvs.map (·.1)) H0 where
  goes := fun i H z hi => ⟨z _ _ h trivial, by rw [r.len]; simpa using hi⟩
  stops := fun H z => ⟨z _ _ h trivial, by rw [r.len]; simp⟩
  yields := fun i H x H' z hi ⟨e, k, v, hk, ex⟩ => by
    subst e ex
    exact ⟨_, r.key hk, rep_kV k, .refl⟩
section
variable {X : Cx} {R : XP} {Γ : Gam} {tg e : Expr}
theorem ei_keys {P : List D → Gam → Prop} (h : EV X R e Γ fun d Γ1 => ∃ kvs, d = .dict kvs ∧ (kvs.all fun p => keyOk p.1) = true ∧ P (kvs.map (·.1)) Γ1) : EI X R tg e Γ P := fun W tk =>
  pi_weak (pi_keys (pe_any (n := 0) tk)) fun σ H Q ⟨fp, hE, k, x⟩ => Any.go h hE x (Kt.of0 fun v d Γ1 H1 fp1 ⟨kvs, ed, ok, p⟩ r E1 f1 => by
    subst ed
    cases r with
    | dct h1 r1 => exact ⟨_, _, rfl, .inl ⟨_, h1, k _ _ Γ1 H1 fp1 p (src_keys h1 r1) E1 f1⟩⟩
    | rng _ => simp [keyOk] at ok
    | xv _ _ => simp [keyOk] at ok
    | hs _ _ => simp [keyOk] at ok)
end
theorem c_dIn {X : Cx} {kvs : List (D × D)} {k : Key} (hu : X.A.units + 1 < cLine) (ok : (kvs.all fun p => keyOk p.1) = true) : CmpG X .In (kD k) (.dict kvs) (getD? kvs k).isSome :=
  fun pins s σ H _ _ v u Q I rx ry ⟨r1, r2, q⟩ => by
    cases r2 with
    | dct h2 q2 =>
      have e := kD_rep r1
      cases ry
      refine d_in (o := valV _ k) hu I (.inl ⟨_, k, .inr ⟨_, h2⟩, e, rfl⟩) rx fun s' I' => ?_
      refine ⟨_, H, I', ?_, q⟩
      show Value.bool _ = Value.bool _
      congr 1
      have g := q2.get k
      cases z : getD? kvs k with
      | none => rw [g.2 z]; rfl
      | some d => obtain ⟨w, hw, _⟩ := g.1 d z; rw [hw]; rfl
    | rng _ => simp [keyOk] at ok
    | xv _ _ => simp [keyOk] at ok
    | hs _ _ => simp [keyOk] at ok
theorem c_dNotIn {X : Cx} {kvs : List (D × D)} {k : Key} (hu : X.A.units + 1 < cLine) (ok : (kvs.all fun p => keyOk p.1) = true) : CmpG X .NotIn (kD k) (.dict kvs) (!(getD? kvs k).isSome) :=
  fun pins s σ H _ _ v u Q I rx ry ⟨r1, r2, q⟩ => by
    cases r2 with
    | dct h2 q2 =>
      have e := kD_rep r1
      cases ry
      refine d_notIn (o := valV _ k) hu I (.inl ⟨_, k, .inr ⟨_, h2⟩, e, rfl⟩) rx fun s' I' => ?_
      refine ⟨_, H, I', ?_, q⟩
      show Value.bool _ = Value.bool _
      congr 1
      have g := q2.get k
      cases z : getD? kvs k with
      | none => rw [g.2 z]; rfl
      | some d => obtain ⟨w, hw, _⟩ := g.1 d z; rw [hw]; rfl
    | rng _ => simp [keyOk] at ok
    | xv _ _ => simp [keyOk] at ok
    | hs _ _ => simp [keyOk] at ok
theorem keyOk_of {d : D} (h : keyOk d = true) : ∃ k, d = kD k := by
  cases d <;> first | (cases h; done) | exact ⟨.inl _, rfl⟩ | exact ⟨.inr _, rfl⟩
theorem getD_cons {k0 k : Key} {d : D} {kvs : List (D × D)} : getD? ((kD k0, d) :: kvs) k = if k0 = k then some d else getD? kvs k := by
  cases k0 <;> cases k <;> (simp only [getD?, kD, List.find?_cons]; split <;> simp_all)
theorem keys_get {d : D} : ∀ {kvs : List (D × D)}, (kvs.all fun p => keyOk p.1) = true → d ∈ kvs.map (·.1) → ∃ k, d = kD k ∧ ∃ e, getD? kvs k = some e ∧ e ∈ kvs.map (·.2)
  | [], _, m => by simp at m
  | (p1, p2) :: kvs, ok, m => by
    simp only [List.all_cons, Bool.and_eq_true] at ok
    obtain ⟨k0, rfl⟩ := keyOk_of ok.1
    rcases List.mem_cons.mp (show d ∈ kD k0 :: kvs.map (·.1) from m) with rfl | m
    · exact ⟨k0, rfl, p2, by rw [getD_cons, if_pos rfl], by simp⟩
    · obtain ⟨k, rfl, e, g, mm⟩ := keys_get ok.2 m
      by_cases z : k0 = k
      · exact ⟨k, rfl, p2, by rw [getD_cons, if_pos z], by simp⟩
      · exact ⟨k, rfl, e, by rw [getD_cons, if_neg z, g], List.mem_cons_of_mem _ mm⟩
/-! ### defs that call themselves -/
section
variable {P : Program} {w : World} {K : Fg} {mg : Str → Option Value} {base : Heap}
theorem rec_f {x qual : Str} {st : Stmt} {f : Addr} {fd : FuncData} {N ps : List Str} {k n : Nat} {fs : Nat → FS} (F : Fun K x qual st f fd) (S0 : FnScope N ps (defScope st)) (hm : mg x = some (.ref f))
    (bd : ∀ (qual : Str) (kV doc pm : Value) (an : Option Addr) (cdv ct : Value) (us : List Value), us.length = ps.length → bindArgs (PySem.W.fnOf x qual (defArgs st) (defBody st) (defScope st) .none kV doc pm an cdv ct) ⟨us, []⟩ = pure (ps.zip us))
    (nn : ∀ j Γ Q R, fs j Γ Q R → Γ.length = ps.length) (h0 : ∀ Γ Q R, ¬ fs 0 Γ Q R) (hb : ∀ j, Df P w K mg base (k + 1 + j) x st ps n (fs j) → ∀ Γ Q R, fs (j + 1) Γ Q R → BodyF P w K mg base (k + 1 + j) N ps st n Γ Q R) : ∀ j, Df P w K mg base (k + 1 + j) x st ps n (fs j)
  | 0 => df_f F S0 hm bd (nn 0) fun Γ Q R h => absurd h (h0 Γ Q R)
  | j + 1 => df_f (k := k + 1 + j) F S0 hm bd (nn (j + 1)) fun Γ Q R h => hb j (rec_f F S0 hm bd nn h0 hb j) Γ Q R h
theorem rec_p {x qual : Str} {st : Stmt} {f : Addr} {fd : FuncData} {N ps : List Str} {k n : Nat} {S : Nat → List D → D → Prop} (F : Fun K x qual st f fd) (S0 : FnScope N ps (defScope st)) (hm : mg x = some (.ref f))
    (bd : ∀ (qual : Str) (kV doc pm : Value) (an : Option Addr) (cdv ct : Value) (us : List Value), us.length = ps.length → bindArgs (PySem.W.fnOf x qual (defArgs st) (defBody st) (defScope st) .none kV doc pm an cdv ct) ⟨us, []⟩ = pure (ps.zip us))
    (hl : ∀ j ds d, S j ds d → ds.length = ps.length) (h0 : ∀ ds d, ¬ S 0 ds d) (hb : ∀ j, Df P w K mg base (k + 1 + j) x st ps n (pfs (S j)) → ∀ ds d, S (j + 1) ds d → BodyP P w K mg base (k + 1 + j) N ps st n ds (fun d' => d' = d) (fun _ _ => False)) : ∀ j, Df P w K mg base (k + 1 + j) x st ps n (pfs (S j))
  | 0 => df_p F S0 hm bd (hl 0) fun ds d h => absurd h (h0 ds d)
  | j + 1 => df_p (k := k + 1 + j) F S0 hm bd (hl (j + 1)) fun ds d h => hb j (rec_p F S0 hm bd hl h0 hb j) ds d h
end
/-! ### dict displays with texts and ints for keys -/
section
variable {X : Cx} {R : XP} {W : WX} {Γ : Gam} {m n : Nat} {o e a b c i : Expr} {es : List Expr} {pos pos' p p2 : Pos} {P : D → Gam → Prop}
inductive KAm : List (Option Expr) → List Key → Prop
  | nil : KAm [] []
  | str {x : Str} {j : Nat} {p : Pos} {ks : List (Option Expr)} {xs : List Key} : KAm ks xs → KAm (some (.Constant (.str x) j p) :: ks) (.inr x :: xs)
  | int {x : Int} {j : Nat} {p : Pos} {ks : List (Option Expr)} {xs : List Key} : KAm ks xs → KAm (some (.Constant (.int x) j p) :: ks) (.inl x :: xs)
def EPm (X : Cx) (R : XP) (n : Nat) : List Key → List Expr → Gam → (List (Key × D) → Gam → Prop) → Prop
  | [], [], Γ, P => P [] Γ
  | k :: ks, v :: vs, Γ, P => EG X R n v Γ fun d Γ1 => EPm X R n ks vs Γ1 fun ps Γ2 => P ((k, d) :: ps) Γ2
  | _, _, _, _ => False
def trsM (X : Cx) (W : WX) (n : Nat) : List Key → List Expr → List (TE × TE)
  | k :: ks, v :: vs => (tC (kV k), Any X W n v) :: trsM X W n ks vs
  | _, _ => []
theorem ppm_of (tk : Takes X W) : ∀ {ks : List (Option Expr)} {xs : List Key} {vs : List Expr}, KAm ks xs → ks.length = vs.length → PPs X pos ks vs (trsM X W n xs vs)
  | [], _, [], .nil, _ => pps_nil
  | [], _, _ :: _, _, hl => by simp at hl
  | _ :: _, _, [], _, hl => by simp at hl
  | _ :: ks, _, v :: vs, .str h, hl => pps_cons pe_str (pe_any tk) (ppm_of tk h (by simpa using hl))
  | _ :: ks, _, v :: vs, .int h, hl => pps_cons pe_int (pe_any tk) (ppm_of tk h (by simpa using hl))
theorem epm_run : ∀ {ks : List Key} {vs : List Expr} {Γ : Gam} {P : List (Key × D) → Gam → Prop} {σ : Sl} {H : Hp} {fp : List Addr} {Q : List (V × V) → Hp → Prop}, EPm X R n ks vs Γ P → Env X.K Γ σ H fp → XC X.K W R fp H →
    (∀ (kvs : List (Key × V)) (ps : List (Key × D)) fs Γ' H' fp', P ps Γ' → kvs.map (·.1) = ps.map (·.1) → AllK (Own X.K H' n) kvs (ps.map fun p => (kD p.1, p.2)) fs → EnvOk X.K H' Γ' σ fp' → (fs ++ fp').Nodup → Fr fp (fs ++ fp') H H' → Q (kvs.map fun kv => (kV kv.1, kv.2)) H') →
    tPairs (trsM X W n ks vs) σ H Q
  | [], [], Γ, P, σ, H, fp, Q, h, hE, x, k => k [] [] [] Γ H fp h rfl .nil hE.1 hE.2 .refl
  | ky :: ks, v :: vs, Γ, P, σ, H, fp, Q, h, hE, x, k => by
    show Any X W n v σ H fun y H2 => tPairs (trsM X W n ks vs) σ H2 fun ps H3 => Q ((kV ky, y) :: ps) H3
    refine Any.go (show EG X R n v Γ _ from h) hE x fun w d fv Γ1 H1 fp1 h1 o E1 nd f => ?_
    have fsub : Fr fp fp1 H H1 := f.sub fun a m => List.mem_append_right _ m
    refine epm_run h1 ⟨E1, (List.nodup_append.mp nd).2.1⟩ (x.trans fsub) fun kvs ps fs Γ2 H2 fp2 p2 ek al E2 nd2 f2 => ?_
    have := k ((ky, w) :: kvs) ((ky, d) :: ps) (fv ++ fs) Γ2 H2 fp2 p2 (by simp [ek]) (.cons (k := ky) (own_stay o nd f2) al) E2 (by rw [List.append_assoc]; exact nodup_new o nd f2.new nd2) (by
      rw [List.append_assoc]
      exact f.trans (f2.more (g := fv)))
    exact this
  | [], _ :: _, _, _, _, _, _, _, h, _, _, _ => h.elim
  | _ :: _, [], _, _, _, _, _, _, h, _, _, _ => h.elim
theorem eg_dispM {ks : List (Option Expr)} {xs : List Key} {vs : List Expr} (hk : KAm ks xs) (h : EPm X R n xs vs Γ fun ps Γ1 => (ps.map (·.1)).Nodup ∧ ps.length ≤ 15 ∧ P (.dict (ps.map fun p => (kD p.1, p.2))) Γ1) (hl : ks.length = vs.length := by rfl) (h0 : ks ≠ [] := by simp)
    (h15 : ks.length ≤ 15 := by decide) (hall : ks.all (·.isSome) = true := by rfl) : EG X R (n + 1) (.Dict ks vs pos) Γ P := fun W tk =>
  pe_weak (pe_disp (ppm_of (n := n) tk hk hl) hall hl h0 h15) fun σ H Q ⟨fp, hE, k, x⟩ p0 hp => by
    have E1 := hE.alloc (o := .dK []) hp
    have f0 : Fr fp fp H (upd H p0 (.dK [])) := Fr.alloc0 hp
    have np : p0 ∉ fp := fun m => (hE.1.wr p0 m).ne hp
    refine epm_run h E1 (x.trans f0) fun kvs ps fs Γ' H' fp' ⟨nd, len, q⟩ ek al E' ndd f => ?_
    have at0 : H' p0 = some (.dK []) := f.keep p0 _ upd_same (fun _ z => by cases z) np
    have np' : p0 ∉ fs ++ fp' := fun m => by
      rcases f.new p0 m with z | z
      · exact np z
      · rw [upd_same] at z; cases z
    have ndk : (kvs.map (·.1)).Nodup := by
      rw [ek]; exact nd
    have mk : mergeK [] kvs = kvs := by
      have := mergeK_nd kvs [] (by simpa using ndk)
      simpa using this
    have wr : Fr [p0] [p0] H' (upd H' p0 (.dK kvs)) := Fr.write List.mem_cons_self (.inr ⟨_, at0⟩)
    refine ⟨at0, kvs, rfl, ?_, ?_⟩
    · have := congrArg List.length ek
      simp at this
      omega
    · rw [mk]
      have off : ∀ a ∈ fs ++ fp', upd H' p0 (.dK kvs) a = H' a := fun a m => upd_ne fun z => np' (z ▸ m)
      refine k _ _ (p0 :: fs) Γ' _ fp' q (.inr (.inl ⟨p0, kvs, _, fs, rfl, rfl, upd_same, al.mono fun v d g m o => o.mono wr.ez fun a ma => off a (List.mem_append_left _ (m a ma)), rfl⟩)) (E'.mono wr.ez fun a m => off a (List.mem_append_right _ m)) (List.nodup_cons.mpr ⟨np', ndd⟩) ⟨fun a o e tt hn => ?_, fun a m => ?_, fun a e => ?_, ?_⟩
      · rw [upd_ne (ne_of_none e hp)]
        exact f.keep a o (by rw [upd_ne (ne_of_none e hp)]; exact e) tt hn
      · rcases List.mem_cons.mp m with z | z
        · rw [z]; exact .inr hp
        · rcases f.new a z with q | q
          · exact .inl q
          · right
            by_cases e : a = p0
            · rw [e]; exact hp
            · rw [upd_ne e] at q; exact q
      · by_cases z : a = p0
        · rw [z]; exact hp
        · rw [upd_ne z] at e
          have := f.dom a e
          rw [upd_ne z] at this; exact this
      · exact (f0.ez.trans f.ez).trans wr.ez
end
end DL
namespace DL
open PySem PySem.Spec PyProof.Rows L2
theorem b_addBI {X : Cx} {b : Bool} {j : Int} : BinG X (binaryOp .Add) 0 (.bool b) (.int j) (.int ((if b = true then (1 : Int) else 0) + j)) :=
  fun pins s σ H x y u v Q I rx ry ⟨r1, r2, q⟩ => by
    cases r1
    cases r2
    cases rx
    obtain ⟨t, rfl⟩ := ry
    exact IntBool.add_bool_int ⟨.int _, H, I.tok _, ⟨_, rfl⟩, q _ H [] ⟨.int _, rfl⟩ List.nodup_nil .refl⟩
theorem cut_to {ds : List D} {i : Nat} (h : i ≤ ds.length) : DL.cutD ds none (some ((i : Nat) : Int)) = ds.take i := by
  unfold DL.cutD
  rw [HT.sIx_none, HT.sIx_nat, Nat.min_eq_left h]
  simp
theorem cut_from {ds : List D} {i : Nat} (h : i ≤ ds.length) : DL.cutD ds (some ((i : Nat) : Int)) none = ds.drop i := by
  unfold DL.cutD
  rw [HT.sIx_none, HT.sIx_nat, Nat.min_eq_left h]
  exact List.take_of_length_le (by simp)
theorem cut_mid {ds : List D} {i j : Nat} : (DL.cutD ds (some ((i : Nat) : Int)) (some ((j : Nat) : Int))).length ≤ j - i := by
  unfold DL.cutD
  rw [HT.sIx_nat, HT.sIx_nat]
  simp
  omega
end DL
set_option Elab.async false
set_option linter.all false
set_option maxRecDepth 100000
set_option maxHeartbeats 4000000
set_option pp.maxSteps 600
namespace KX
open PySem PySem.Spec PyProof.Rows L2 DL
/-! ### rows added, tables turned -/
def adj (T : List (List Int)) (j k : Nat) : Int := if k = j then ent T j k - 1 else ent T j k
def addR (n : Nat) (T : List (List Int)) (i j : Nat) (t : Int) : List Int := (List.range n).map fun k => ent T i k + t * adj T j k
def subR (n : Nat) (T : List (List Int)) (i j : Nat) (t : Int) : List Int := (List.range n).map fun k => ent T i k - t * adj T j k
def turnT (n : Nat) (T : List (List Int)) : List (List Int) := (List.range n).map fun j => (List.range n).map fun i => ent T i j
def rawA (n : Nat) (T : List (List Int)) (i j : Nat) (t : Int) : Option (List (List Int)) := if ent T i j < 1 ∨ (ent T j j = 0 ∧ ent T i j < t) then none else some (T.set i (addR n T i j t))
def rawU (n : Nat) (T : List (List Int)) (i j : Nat) (t : Int) : Option (List (List Int)) := if (∃ k, k < n ∧ ent T i k - t * adj T j k < 0) ∨ ent T i j - t * adj T j j < 1 then none else some (T.set i (subR n T i j t))
def optD : Option (List (List Int)) → D
  | none => .none
  | some T => tb T
theorem ent_map {n : Nat} {f : Nat → Nat → Int} {i j : Nat} (hi : i < n) (hj : j < n) : ent ((List.range n).map fun i => (List.range n).map fun j => f i j) i j = f i j := by
  simp [ent, row, hi, hj]
theorem tb_rows {n : Nat} {T : List (List Int)} (hT : Tbl n T) : T.map rowD = (List.range n).map fun i => rowD (row T i) := by
  conv => lhs; rw [tab_eq hT]
  rw [List.map_map]
  rfl
theorem turn_tbl {n : Nat} {T : List (List Int)} (hT : Tbl n T) : Tbl n (turnT n T) := by
  refine ⟨by simp [turnT], fun r m => ?_, fun r m x hx => ?_, hT.n1, hT.n8⟩
  · obtain ⟨j, _, rfl⟩ := List.mem_map.mp m
    simp
  · obtain ⟨j, _, rfl⟩ := List.mem_map.mp m
    obtain ⟨i, _, rfl⟩ := List.mem_map.mp hx
    exact ent_pos hT i j
theorem turn_ent {n : Nat} {T : List (List Int)} {i j : Nat} (hi : i < n) (hj : j < n) : ent (turnT n T) i j = ent T j i := ent_map hi hj
theorem turn_sm {n : Nat} {T : List (List Int)} (hT : Tbl n T) (h : Sm T) : Sm (turnT n T) := fun i j => by
  by_cases hi : i < n
  · by_cases hj : j < n
    · rw [turn_ent hi hj]; exact h j i
    · have : ¬ 0 < ent (turnT n T) i j := fun z => hj (ent_lt (turn_tbl hT) z).2
      omega
  · have : ¬ 0 < ent (turnT n T) i j := fun z => hi (ent_lt (turn_tbl hT) z).1
    omega
section
variable {P : Program} {w : World} {K : Fg} {mg : Str → Option Value} {base : Heap} (G : Fre mg)
include G
def S_with_row : List D → D → Prop := fun ds d => ∃ n T i r, T.length = n ∧ n ≤ 8 ∧ i < n ∧ ds = [tb T, .int (i : Nat), .list ((r : List Int).map .int)] ∧ d = tb (T.set i r)
def S_turned_table : List D → D → Prop := fun ds d => ∃ n T, Tbl n T ∧ ds = [tb T] ∧ d = tb (turnT n T)
def S_after_table : List D → D → Prop := fun ds d => ∃ n T i j t, Tbl n T ∧ Sm T ∧ i < n ∧ j < n ∧ ds = [tb T, .int (i : Nat), .int (j : Nat), .int t] ∧ d = optD (rawA n T i j t)
omit G in
theorem zip_row {n : Nat} {T : List (List Int)} (hT : Tbl n T) {i j : Nat} (hi : i < n) (hj : j < n) : enumD (zipD ((row T i).map .int) ((row T j).map .int)) = (List.range n).map fun k => .tuple [.int (k : Nat), .tuple [.int (ent T i k), .int (ent T j k)]] := by
  apply List.ext_getElem?
  intro k
  by_cases hk : k < n
  · rw [enumD_get (zipD_get (ent_get' hT hi hk) (ent_get' hT hj hk))]
    simp [hk]
  · rw [List.getElem?_eq_none (by rw [enumD_len, zipD_len]; simp [row_len hT hi, row_len hT hj]; omega), List.getElem?_eq_none (by simp; omega)]
end
end KX
set_option Elab.async false
set_option linter.all false
set_option maxRecDepth 100000
set_option maxHeartbeats 1000000
namespace GA
/-! ### sums over lists -/
section
variable {α β γ : Type}
def sg (l : List α) (f : α → Int) : Int := (l.map f).sum
theorem sg_nil {f : α → Int} : sg [] f = 0 := rfl
theorem sg_cons {f : α → Int} {a : α} {l : List α} : sg (a :: l) f = f a + sg l f := by simp only [sg, List.map_cons, List.sum_cons]
theorem sg_app {f : α → Int} : ∀ {l m : List α}, sg (l ++ m) f = sg l f + sg m f
  | [], m => by rw [List.nil_append, sg_nil, Int.zero_add]
  | a :: l, m => by rw [List.cons_append, sg_cons, sg_cons, sg_app]; omega
theorem sg_congr {f g : α → Int} : ∀ {l : List α}, (∀ x ∈ l, f x = g x) → sg l f = sg l g
  | [], _ => rfl
  | a :: l, h => by rw [sg_cons, sg_cons, h a List.mem_cons_self, sg_congr fun x m => h x (List.mem_cons_of_mem _ m)]
theorem sg_add {f g : α → Int} : ∀ {l : List α}, sg l (fun x => f x + g x) = sg l f + sg l g
  | [] => rfl
  | a :: l => by rw [sg_cons, sg_cons, sg_cons, sg_add]; omega
theorem sg_zero : ∀ {l : List α}, sg l (fun _ => (0 : Int)) = 0
  | [] => rfl
  | a :: l => by rw [sg_cons, sg_zero]; rfl
theorem sg_mul {c : Int} {f : α → Int} : ∀ {l : List α}, sg l (fun x => c * f x) = c * sg l f
  | [] => by rw [sg_nil, sg_nil, Int.mul_zero]
  | a :: l => by rw [sg_cons, sg_cons, sg_mul, Int.mul_add]
theorem sg_mulR {c : Int} {f : α → Int} : ∀ {l : List α}, sg l (fun x => f x * c) = sg l f * c
  | [] => by rw [sg_nil, sg_nil, Int.zero_mul]
  | a :: l => by rw [sg_cons, sg_cons, sg_mulR, Int.add_mul]
theorem sg_swap {f : α → β → Int} {m : List β} : ∀ {l : List α}, sg l (fun x => sg m (f x)) = sg m (fun y => sg l fun x => f x y)
  | [] => by
    rw [sg_nil]
    exact sg_zero.symm
  | a :: l => by
    rw [sg_cons, sg_swap (l := l), ← sg_add]
    exact sg_congr fun y _ => (sg_cons (f := fun x => f x y)).symm
theorem sg_map {f : β → Int} {g : α → β} {l : List α} : sg (l.map g) f = sg l fun x => f (g x) := by
  simp only [sg, List.map_map]; rfl
theorem sg_flat {f : β → Int} {g : α → List β} : ∀ {l : List α}, sg (l.flatMap g) f = sg l fun x => sg (g x) f
  | [] => rfl
  | a :: l => by rw [List.flatMap_cons, sg_app, sg_cons, sg_flat]
theorem sg_filter {f : α → Int} {p : α → Bool} : ∀ {l : List α}, sg (l.filter p) f = sg l fun x => if p x = true then f x else 0
  | [] => rfl
  | a :: l => by
    rw [sg_cons, List.filter_cons]
    split
    · rw [sg_cons, sg_filter]
    · rw [sg_filter, Int.zero_add]
theorem sg_one : ∀ {l : List α}, sg l (fun _ => (1 : Int)) = l.length
  | [] => rfl
  | a :: l => by rw [sg_cons, sg_one, List.length_cons]; omega
theorem sg_perm {f : α → Int} {l m : List α} (h : l.Perm m) : sg l f = sg m f := by
  induction h with
  | nil => rfl
  | cons x _ ih => rw [sg_cons, sg_cons, ih]
  | swap x y l => rw [sg_cons, sg_cons, sg_cons, sg_cons]; omega
  | trans _ _ ih1 ih2 => exact ih1.trans ih2
theorem sg_only {f : α → Int} {a : α} : ∀ {l : List α}, l.Nodup → a ∈ l → (∀ x ∈ l, x ≠ a → f x = 0) → sg l f = f a
  | [], _, m, _ => nomatch m
  | b :: l, nd, m, h => by
    obtain ⟨n1, n2⟩ := List.nodup_cons.mp nd
    rw [sg_cons]
    rcases List.mem_cons.mp m with rfl | m
    · have : sg l f = 0 := (sg_congr fun x hx => h x (List.mem_cons_of_mem _ hx) fun e => n1 (e ▸ hx)).trans sg_zero
      omega
    · rw [sg_only n2 m fun x hx => h x (List.mem_cons_of_mem _ hx), h b List.mem_cons_self fun e => n1 (e ▸ m)]
      omega
theorem sg_none {f : α → Int} {l : List α} (h : ∀ x ∈ l, f x = 0) : sg l f = 0 := (sg_congr h).trans sg_zero
theorem sg_rng {n i : Nat} {f : Nat → Int} (hi : i < n) (h : ∀ x, x < n → x ≠ i → f x = 0) : sg (List.range n) f = f i :=
  sg_only List.nodup_range (List.mem_range.mpr hi) fun x m => h x (List.mem_range.mp m)
theorem sg_nonneg {f : α → Int} : ∀ {l : List α}, (∀ x ∈ l, 0 ≤ f x) → 0 ≤ sg l f
  | [], _ => Int.le_refl 0
  | a :: l, h => by
    have := sg_nonneg (l := l) fun x m => h x (List.mem_cons_of_mem _ m)
    have := h a List.mem_cons_self
    rw [sg_cons]; omega
theorem sg_le {f g : α → Int} : ∀ {l : List α}, (∀ x ∈ l, f x ≤ g x) → sg l f ≤ sg l g
  | [], _ => Int.le_refl 0
  | a :: l, h => by
    have := sg_le (l := l) fun x m => h x (List.mem_cons_of_mem _ m)
    have := h a List.mem_cons_self
    rw [sg_cons, sg_cons]; omega
/-! ### counting -/
open Classical in
noncomputable def cnt (l : List α) (p : α → Prop) : Int := sg l fun x => if p x then 1 else 0
open Classical in
theorem cnt_congr {l : List α} {p q : α → Prop} (h : ∀ x ∈ l, (p x ↔ q x)) : cnt l p = cnt l q := by
  unfold cnt
  refine sg_congr fun x m => ?_
  by_cases c : p x
  · rw [if_pos c, if_pos ((h x m).mp c)]
  · rw [if_neg c, if_neg fun z => c ((h x m).mpr z)]
open Classical in
theorem cnt_len {l : List α} {p : α → Prop} : cnt l p = ((l.filter fun x => decide (p x)).length : Nat) := by
  rw [← sg_one, sg_filter]
  unfold cnt
  exact sg_congr fun x _ => by simp
theorem nodup_map {f : α → β} {l : List α} (h : l.Nodup) (i : ∀ a ∈ l, ∀ b ∈ l, f a = f b → a = b) : (l.map f).Nodup :=
  List.pairwise_map.mpr (h.imp_of_mem fun {a b} ha hb ne e => ne (i a ha b hb e))
open Classical in
/-- two countings that a map matches -/
theorem cnt_bij {l : List α} {m : List β} {p : α → Prop} {q : β → Prop} (f : α → β) (nl : l.Nodup) (nm : m.Nodup) (h1 : ∀ x ∈ l, p x → f x ∈ m ∧ q (f x)) (h2 : ∀ x ∈ l, ∀ y ∈ l, p x → p y → f x = f y → x = y)
    (h3 : ∀ y ∈ m, q y → ∃ x, x ∈ l ∧ p x ∧ f x = y) : cnt l p = cnt m q := by
  rw [cnt_len, cnt_len]
  have e : ((l.filter fun x => decide (p x)).map f).Perm (m.filter fun y => decide (q y)) := by
    refine (List.perm_ext_iff_of_nodup (nodup_map (nl.filter _) fun a ha b hb e => ?_) (nm.filter _)).mpr fun y => ?_
    · rw [List.mem_filter, decide_eq_true_eq] at ha hb
      exact h2 a ha.1 b hb.1 ha.2 hb.2 e
    · rw [List.mem_map, List.mem_filter, decide_eq_true_eq]
      constructor
      · rintro ⟨x, hx, rfl⟩
        rw [List.mem_filter, decide_eq_true_eq] at hx
        exact h1 x hx.1 hx.2
      · rintro ⟨hy, hq⟩
        obtain ⟨x, a, b, c⟩ := h3 y hy hq
        exact ⟨x, List.mem_filter.mpr ⟨a, decide_eq_true b⟩, c⟩
  have := e.length_eq
  rw [List.length_map] at this
  rw [this]
/-! ### words -/
def words (A : List α) : Nat → List (List α)
  | 0 => [[]]
  | k + 1 => A.flatMap fun a => (words A k).map (a :: ·)
theorem words_mem {A : List α} : ∀ {k : Nat} {w : List α}, w ∈ words A k ↔ w.length = k ∧ ∀ x ∈ w, x ∈ A
  | 0, w => by
    rw [words, List.mem_singleton]
    constructor
    · rintro rfl; exact ⟨rfl, fun x m => nomatch m⟩
    · rintro ⟨h, _⟩; exact List.eq_nil_of_length_eq_zero h
  | k + 1, w => by
    rw [words, List.mem_flatMap]
    constructor
    · rintro ⟨a, ha, m⟩
      obtain ⟨u, hu, rfl⟩ := List.mem_map.mp m
      obtain ⟨h1, h2⟩ := words_mem.mp hu
      exact ⟨by rw [List.length_cons, h1], fun x m => (List.mem_cons.mp m).elim (fun e => e ▸ ha) (h2 x)⟩
    · rintro ⟨h1, h2⟩
      match w, h1 with
      | a :: u, h1 => exact ⟨a, h2 a List.mem_cons_self, List.mem_map.mpr ⟨u, words_mem.mpr ⟨by simpa using h1, fun x m => h2 x (List.mem_cons_of_mem _ m)⟩, rfl⟩⟩
theorem words_nodup {A : List α} (h : A.Nodup) : ∀ k : Nat, (words A k).Nodup
  | 0 => by simp [words]
  | k + 1 => by
    have ih := words_nodup h k
    unfold words
    have go : ∀ {B : List α}, B.Nodup → (B.flatMap fun a => (words A k).map (a :: ·)).Nodup := by
      intro B
      induction B with
      | nil => intro _; exact List.nodup_nil
      | cons b B ihB =>
        intro nb
        obtain ⟨n1, n2⟩ := List.nodup_cons.mp nb
        rw [List.flatMap_cons]
        refine List.nodup_append.mpr ⟨nodup_map ih fun a _ c _ e => (List.cons.inj e).2, ihB n2, fun x hx y hy e => ?_⟩
        obtain ⟨u, _, rfl⟩ := List.mem_map.mp hx
        obtain ⟨c, hc, m⟩ := List.mem_flatMap.mp hy
        obtain ⟨v, _, rfl⟩ := List.mem_map.mp m
        exact n1 ((List.cons.inj e).1 ▸ hc)
    exact go h
/-! ### periods -/
def isP (f : Nat → α) (d : Nat) : Prop := 1 ≤ d ∧ ∀ i, f (i + d) = f i
def LP (f : Nat → α) (d : Nat) : Prop := isP f d ∧ ∀ e, isP f e → d ≤ e
theorem isP_mul {f : Nat → α} {d : Nat} (h : ∀ i, f (i + d) = f i) : ∀ q i, f (i + d * q) = f i
  | 0, i => by rw [Nat.mul_zero, Nat.add_zero]
  | q + 1, i => by rw [Nat.mul_succ, ← Nat.add_assoc, h, isP_mul h q]
theorem LP_dvd {f : Nat → α} {d e : Nat} (h : LP f d) (he : isP f e) : e % d = 0 := by
  rcases Nat.eq_zero_or_pos (e % d) with z | z
  · exact z
  · have hd := h.1.1
    have : isP f (e % d) := ⟨z, fun i => by
      have h1 := he.2 i
      rw [← Nat.mod_add_div e d, ← Nat.add_assoc, isP_mul h.1.2] at h1
      exact h1⟩
    have := h.2 _ this
    have := Nat.mod_lt e hd
    omega
open Classical in
theorem LP_ex {f : Nat → α} : ∀ {d : Nat}, isP f d → ∃ e, LP f e := by
  intro d
  induction d using Nat.strongRecOn with
  | ind d ih =>
    intro h
    by_cases c : ∃ e, e < d ∧ isP f e
    · obtain ⟨e, h1, h2⟩ := c
      exact ih e h1 h2
    · exact ⟨d, h, fun e he => Nat.le_of_not_lt fun z => c ⟨e, z, he⟩⟩
theorem LP_one {f : Nat → α} {d e : Nat} (h : LP f d) (h' : LP f e) : d = e := Nat.le_antisymm (h.2 _ h'.1) (h'.2 _ h.1)
/-- a word, over and over -/
def at' [Inhabited α] (w : List α) (i : Nat) : α := w[i % w.length]?.getD default
variable [Inhabited α]
theorem at_P {w : List α} (h : 1 ≤ w.length) : isP (at' w) w.length := ⟨h, fun i => by simp [at']⟩
theorem at_lt {w : List α} {i : Nat} (h : i < w.length) : w[i]? = some (at' w i) := by simp [at', Nat.mod_eq_of_lt h, h]
theorem at_mem {w : List α} {i : Nat} (h : 1 ≤ w.length) : at' w i ∈ w := by
  have : i % w.length < w.length := Nat.mod_lt _ h
  simp only [at', List.getElem?_eq_getElem this, Option.getD_some]
  exact List.getElem_mem this
/-- so many of a function's values -/
def mk (f : Nat → α) (k : Nat) : List α := (List.range k).map f
theorem mk_len {f : Nat → α} {k : Nat} : (mk f k).length = k := by simp [mk]
theorem mk_at {w : List α} : mk (at' w) w.length = w := by
  apply List.ext_getElem?
  intro i
  by_cases c : i < w.length
  · simp [mk, c, at', Nat.mod_eq_of_lt c]
  · simp [mk, c]
theorem at_mk {f : Nat → α} {k : Nat} (h : isP f k) : at' (mk f k) = f := by
  funext i
  have hl : i % k < k := Nat.mod_lt _ h.1
  have : f i = f (i % k) := by
    conv => lhs; rw [← Nat.mod_add_div i k, isP_mul h.2]
  simp only [at', mk_len]
  rw [this]
  simp [mk, hl]
theorem LP_shift {f : Nat → α} {d : Nat} (h : LP f d) : LP (fun i => f (i + 1)) d := by
  have key : ∀ e, isP (fun i => f (i + 1)) e → isP f e := fun e he => ⟨he.1, fun i => by
    have h1 := h.1.1
    have a1 := he.2 (i + d - 1)
    have e1 : i + d - 1 + e + 1 = i + e + d := by omega
    have e2 : i + d - 1 + 1 = i + d := by omega
    simp only [e1, e2] at a1
    rw [h.1.2, h.1.2] at a1
    exact a1⟩
  refine ⟨⟨h.1.1, fun i => ?_⟩, fun e he => h.2 e (key e he)⟩
  show f (i + d + 1) = f (i + 1)
  rw [show i + d + 1 = (i + 1) + d by omega, h.1.2]
/-- one place on -/
def rot (w : List α) : List α := mk (fun i => at' w (i + 1)) w.length
theorem rot_len {w : List α} : (rot w).length = w.length := mk_len
theorem at_rot {w : List α} (h : 1 ≤ w.length) : at' (rot w) = fun i => at' w (i + 1) := at_mk ⟨h, fun i => by
  show at' w (i + w.length + 1) = at' w (i + 1)
  rw [show i + w.length + 1 = (i + 1) + w.length by omega]
  exact (at_P h).2 _⟩
def iter (r : β → β) : Nat → β → β
  | 0, w => w
  | k + 1, w => iter r k (r w)
theorem iter_add {r : β → β} : ∀ (a b : Nat) (w : β), iter r (a + b) w = iter r a (iter r b w)
  | a, 0, w => rfl
  | a, b + 1, w => by
    show iter r (a + b) (r w) = _
    rw [iter_add a b (r w)]; rfl
theorem iter_succ {r : β → β} (a : Nat) (w : β) : iter r (a + 1) w = r (iter r a w) := by
  rw [Nat.add_comm, iter_add]; rfl
theorem iter_len {w : List α} : ∀ s, (iter rot s w).length = w.length
  | 0 => rfl
  | s + 1 => by rw [iter_succ, rot_len, iter_len s]
theorem at_iter {w : List α} (h : 1 ≤ w.length) : ∀ s, at' (iter rot s w) = fun i => at' w (i + s)
  | 0 => rfl
  | s + 1 => by
    rw [iter_succ, at_rot (by rw [iter_len]; exact h), at_iter h s]
    funext i
    show at' w (i + 1 + s) = at' w (i + (s + 1))
    rw [show i + 1 + s = i + (s + 1) by omega]
theorem eq_of_at {w v : List α} (hl : w.length = v.length) (h : at' w = at' v) : w = v := by
  rw [← mk_at (w := w), ← mk_at (w := v), h, hl]
theorem rot_full {w : List α} (h : 1 ≤ w.length) : iter rot w.length w = w := eq_of_at (iter_len _) (by
  rw [at_iter h]
  funext i
  exact (at_P h).2 i)
theorem rot_ne {w : List α} (h : LP (at' w) w.length) {s : Nat} (h0 : 0 < s) (hs : s < w.length) : iter rot s w ≠ w := fun e => by
  have h1 := h.1.1
  have : isP (at' w) s := ⟨h0, fun i => by
    have := at_iter h1 s
    rw [e] at this
    exact (congrFun this i).symm⟩
  have := h.2 s this
  omega
end
section
variable {β : Type}
/-- turns that come back after d, not before: lists closed under them are made of d at a time -/
theorem orb {r : β → β} {d : Nat} (hd : 1 ≤ d) : ∀ (k : Nat) (l : List β), l.length = k → l.Nodup → (∀ w ∈ l, r w ∈ l) → (∀ w ∈ l, iter r d w = w) → (∀ w ∈ l, ∀ s, 0 < s → s < d → iter r s w ≠ w) →
    (∃ q, l.length = d * q) ∧ ∀ t : β → Prop, (∀ w ∈ l, cnt (List.range d) (fun s => t (iter r s w)) = 1) → (l.length : Int) = d * cnt l t := by
  intro k
  induction k using Nat.strongRecOn with
  | ind k ih =>
    intro l hk nd hr hb hn
    match l, hk with
    | [], _ => exact ⟨⟨0, rfl⟩, fun t _ => by
        show (0 : Int) = d * cnt ([] : List β) t
        rw [show cnt ([] : List β) t = 0 from rfl, Int.mul_zero]⟩
    | w :: l0, hk =>
      generalize hL : w :: l0 = l at *
      have hw : w ∈ l := hL ▸ List.mem_cons_self
      have inl : ∀ s, iter r s w ∈ l := fun s => by
        induction s with
        | zero => exact hw
        | succ s ihs => rw [iter_succ]; exact hr _ ihs
      have ndO : ((List.range d).map fun s => iter r s w).Nodup := by
        refine nodup_map List.nodup_range fun a ha b hb' e => ?_
        have ha := List.mem_range.mp ha
        have hb' := List.mem_range.mp hb'
        have key : ∀ {a b : Nat}, a < b → b < d → iter r a w = iter r b w → False := fun {a b} h1 h2 e => by
          have e1 : iter r (d - b) (iter r b w) = w := by rw [← iter_add, show d - b + b = d by omega]; exact hb w hw
          have e2 : iter r (d - b) (iter r a w) = iter r (d - b + a) w := (iter_add _ _ _).symm
          rw [e, e1] at e2
          exact hn w hw (d - b + a) (by omega) (by omega) e2.symm
        rcases Nat.lt_trichotomy a b with z | z | z
        · exact (key z hb' e).elim
        · exact z
        · exact (key z ha e.symm).elim
      classical
      let O := (List.range d).map fun s => iter r s w
      let l' := l.filter fun x => decide (x ∉ O)
      have memO : ∀ {x}, x ∈ O ↔ ∃ s, s < d ∧ iter r s w = x := fun {x} => by
        show x ∈ (List.range d).map _ ↔ _
        rw [List.mem_map]
        exact ⟨fun ⟨s, a, b⟩ => ⟨s, List.mem_range.mp a, b⟩, fun ⟨s, a, b⟩ => ⟨s, List.mem_range.mpr a, b⟩⟩
      have meml : ∀ {x}, x ∈ l' ↔ x ∈ l ∧ x ∉ O := fun {x} => by
        show x ∈ l.filter _ ↔ _
        rw [List.mem_filter, decide_eq_true_eq]
      have pm : l.Perm (O ++ l') := by
        refine (List.perm_ext_iff_of_nodup nd (List.nodup_append.mpr ⟨ndO, nd.filter _, fun x hx y hy e => (meml.mp hy).2 (e ▸ hx)⟩)).mpr fun x => ?_
        rw [List.mem_append, meml]
        constructor
        · intro hx
          by_cases c : x ∈ O
          · exact .inl c
          · exact .inr ⟨hx, c⟩
        · rintro (hx | hx)
          · obtain ⟨s, _, rfl⟩ := memO.mp hx
            exact inl s
          · exact hx.1
      have lO : O.length = d := by show ((List.range d).map _).length = d; simp
      have ll : l.length = d + l'.length := by rw [pm.length_eq, List.length_append, lO]
      have back : ∀ x ∈ l', r x ∈ l' := fun x hx => by
        obtain ⟨h1, h2⟩ := meml.mp hx
        refine meml.mpr ⟨hr x h1, fun z => h2 ?_⟩
        obtain ⟨s, hs, e⟩ := memO.mp z
        have e1 : x = iter r (d - 1 + s) w := by
          rw [iter_add, e]
          show x = iter r (d - 1 + 1) x
          rw [show d - 1 + 1 = d by omega]
          exact (hb x h1).symm
        rcases Nat.eq_zero_or_pos s with z | z
        · subst z
          exact memO.mpr ⟨d - 1, by omega, e1.symm⟩
        · refine memO.mpr ⟨s - 1, by omega, ?_⟩
          rw [e1, show d - 1 + s = (s - 1) + d by omega, iter_add, hb w hw]
      obtain ⟨⟨q, hq⟩, ht⟩ := ih l'.length (by omega) l' rfl (nd.filter _) back (fun x hx => hb x (meml.mp hx).1) (fun x hx => hn x (meml.mp hx).1)
      refine ⟨⟨q + 1, by rw [ll, hq, Nat.mul_succ]; omega⟩, fun t h1 => ?_⟩
      have h2 := ht t fun x hx => h1 x (meml.mp hx).1
      have e1 : cnt l t = cnt O t + cnt l' t := by
        unfold cnt
        rw [sg_perm pm, sg_app]
      have e2 : cnt O t = 1 := by
        rw [← h1 w hw]
        unfold cnt
        exact sg_map
      rw [e1, e2, ll, Int.mul_add, ← h2]
      omega
end
end GA
set_option Elab.async false
set_option linter.all false
set_option maxRecDepth 100000
set_option maxHeartbeats 1000000
namespace GA
/-! ### walks in a table -/
abbrev Ar := Nat × Nat × Nat
def pw (n : Nat) (A : Nat → Nat → Int) : Nat → Nat → Nat → Int
  | 0, i, j => if i = j then 1 else 0
  | k + 1, i, j => sg (List.range n) fun m => A i m * pw n A k m j
def tr (n : Nat) (A : Nat → Nat → Int) (L : Nat) : Int := sg (List.range n) fun i => pw n A L i i
def arrs (n : Nat) (A : Nat → Nat → Int) : List Ar := (List.range n).flatMap fun i => (List.range n).flatMap fun j => (List.range (A i j).toNat).map fun k => (i, j, k)
theorem arrs_mem {n : Nat} {A : Nat → Nat → Int} {a : Ar} : a ∈ arrs n A ↔ a.1 < n ∧ a.2.1 < n ∧ a.2.2 < (A a.1 a.2.1).toNat := by
  obtain ⟨i, j, k⟩ := a
  unfold arrs
  simp only [List.mem_flatMap, List.mem_map, List.mem_range, Prod.mk.injEq]
  constructor
  · rintro ⟨i', h1, j', h2, k', h3, rfl, rfl, rfl⟩
    exact ⟨h1, h2, h3⟩
  · rintro ⟨h1, h2, h3⟩
    exact ⟨i, h1, j, h2, k, h3, rfl, rfl, rfl⟩
theorem nodup_flat {α β : Type} {f : α → List β} : ∀ {l : List α}, l.Nodup → (∀ a ∈ l, (f a).Nodup) → (∀ a ∈ l, ∀ b ∈ l, ∀ x, x ∈ f a → x ∈ f b → a = b) → (l.flatMap f).Nodup
  | [], _, _, _ => List.nodup_nil
  | a :: l, nd, h1, h2 => by
    obtain ⟨n1, n2⟩ := List.nodup_cons.mp nd
    rw [List.flatMap_cons]
    refine List.nodup_append.mpr ⟨h1 a List.mem_cons_self, nodup_flat n2 (fun b m => h1 b (List.mem_cons_of_mem _ m)) (fun b hb c hc => h2 b (List.mem_cons_of_mem _ hb) c (List.mem_cons_of_mem _ hc)), fun x hx y hy e => ?_⟩
    subst e
    obtain ⟨b, hb, m⟩ := List.mem_flatMap.mp hy
    exact n1 (h2 a List.mem_cons_self b (List.mem_cons_of_mem _ hb) x hx m ▸ hb)
theorem arrs_nodup (n : Nat) (A : Nat → Nat → Int) : (arrs n A).Nodup := by
  refine nodup_flat List.nodup_range (fun i _ => nodup_flat List.nodup_range (fun j _ => nodup_map List.nodup_range fun a _ b _ e => by cases e; rfl) fun j _ j' _ x h1 h2 => ?_) fun i _ i' _ x h1 h2 => ?_
  · obtain ⟨k, _, rfl⟩ := List.mem_map.mp h1
    obtain ⟨k', _, e⟩ := List.mem_map.mp h2
    cases e; rfl
  · obtain ⟨j, _, m⟩ := List.mem_flatMap.mp h1
    obtain ⟨k, _, rfl⟩ := List.mem_map.mp m
    obtain ⟨j', _, m⟩ := List.mem_flatMap.mp h2
    obtain ⟨k', _, e⟩ := List.mem_map.mp m
    cases e; rfl
theorem sg_const {α : Type} {c : Int} : ∀ {l : List α}, sg l (fun _ => c) = l.length * c
  | [] => by rw [sg_nil]; simp
  | a :: l => by rw [sg_cons, sg_const, List.length_cons, Int.natCast_add, Int.add_mul]; omega
def Wlk : Nat → Nat → List Ar → Prop
  | i, j, [] => i = j
  | i, j, a :: w => a.1 = i ∧ Wlk a.2.1 j w
open Classical in
theorem wlk_cnt {n : Nat} {A : Nat → Nat → Int} (h0 : ∀ i j, i < n → j < n → 0 ≤ A i j) : ∀ (k i j : Nat), i < n → cnt (words (arrs n A) k) (Wlk i j) = pw n A k i j
  | 0, i, j, hi => by
    unfold cnt
    rw [show words (arrs n A) 0 = [[]] from rfl, sg_cons, sg_nil, Int.add_zero]
    by_cases c : i = j
    · rw [if_pos (show Wlk i j [] from c), show pw n A 0 i j = if i = j then 1 else 0 from rfl, if_pos c]
    · rw [if_neg (show ¬ Wlk i j [] from c), show pw n A 0 i j = if i = j then 1 else 0 from rfl, if_neg c]
  | k + 1, i, j, hi => by
    unfold cnt
    rw [show words (arrs n A) (k + 1) = (arrs n A).flatMap fun a => (words (arrs n A) k).map (a :: ·) from rfl, sg_flat]
    have e1 : ∀ a ∈ arrs n A, sg ((words (arrs n A) k).map (a :: ·)) (fun w => if Wlk i j w then 1 else 0) = if a.1 = i then pw n A k a.2.1 j else 0 := fun a ha => by
      rw [sg_map]
      by_cases c : a.1 = i
      · rw [if_pos c, ← wlk_cnt h0 k a.2.1 j (arrs_mem.mp ha).2.1]
        refine sg_congr fun u _ => ?_
        by_cases c2 : Wlk a.2.1 j u
        · rw [if_pos (show Wlk i j (a :: u) from ⟨c, c2⟩), if_pos c2]
        · rw [if_neg (show ¬ Wlk i j (a :: u) from fun z => c2 z.2), if_neg c2]
      · rw [if_neg c]
        exact sg_none fun u _ => if_neg fun z => c z.1
    rw [sg_congr e1]
    unfold arrs
    rw [sg_flat, sg_rng hi]
    · rw [sg_flat]
      show _ = sg (List.range n) fun m => A i m * pw n A k m j
      refine sg_congr fun m hm => ?_
      have hp := h0 i m hi (List.mem_range.mp hm)
      rw [sg_map]
      simp only [if_true]
      rw [sg_const, List.length_range]
      congr 1
      omega
    · intro x hx ne
      refine sg_none fun a ha => if_neg ?_
      obtain ⟨j', _, m⟩ := List.mem_flatMap.mp ha
      obtain ⟨k', _, rfl⟩ := List.mem_map.mp m
      exact ne
def Cy (f : Nat → Ar) : Prop := ∀ i, (f i).2.1 = (f (i + 1)).1
theorem at_zero {a : Ar} {u : List Ar} : at' (a :: u) 0 = a := by simp [at']
theorem at_succ {a : Ar} {u : List Ar} {k : Nat} (h : k < u.length) : at' (a :: u) (k + 1) = at' u k := by
  simp [at', Nat.mod_eq_of_lt h, Nat.mod_eq_of_lt (show k + 1 < u.length + 1 by omega)]
theorem wlk_iff : ∀ {w : List Ar} {i j : Nat}, w ≠ [] → (Wlk i j w ↔ (at' w 0).1 = i ∧ (∀ k, k + 1 < w.length → (at' w k).2.1 = (at' w (k + 1)).1) ∧ (at' w (w.length - 1)).2.1 = j)
  | [], _, _, h => absurd rfl h
  | [a], i, j, _ => by
    show a.1 = i ∧ a.2.1 = j ↔ _
    rw [at_zero]
    exact ⟨fun ⟨h1, h2⟩ => ⟨h1, fun k hk => by simp at hk, by simpa [at'] using h2⟩, fun ⟨h1, _, h2⟩ => ⟨h1, by simpa [at'] using h2⟩⟩
  | a :: b :: v, i, j, _ => by
    have ih := wlk_iff (w := b :: v) (i := a.2.1) (j := j) (by simp)
    show a.1 = i ∧ Wlk a.2.1 j (b :: v) ↔ _
    rw [ih, at_zero]
    have l1 : (a :: b :: v).length - 1 = ((b :: v).length - 1) + 1 := by simp
    have e1 : at' (a :: b :: v) ((a :: b :: v).length - 1) = at' (b :: v) ((b :: v).length - 1) := by
      rw [l1]; exact at_succ (by simp)
    rw [e1]
    constructor
    · rintro ⟨h1, h2, h3, h4⟩
      refine ⟨h1, fun k hk => ?_, h4⟩
      cases k with
      | zero => rw [at_zero, at_succ (by simp)]; exact h2.symm
      | succ k =>
        have : k + 1 < (b :: v).length := by simpa using hk
        rw [at_succ (by omega), at_succ this]
        exact h3 k this
    · rintro ⟨h1, h2, h3⟩
      refine ⟨h1, ?_, fun k hk => ?_, h3⟩
      · have := h2 0 (by simp)
        rw [at_zero, at_succ (by simp)] at this
        exact this.symm
      · have := h2 (k + 1) (by simpa using hk)
        rw [at_succ (by omega), at_succ hk] at this
        exact this
theorem at_mod {w : List Ar} {i : Nat} : at' w (i % w.length) = at' w i := by simp [at']
theorem cyc_iff {w : List Ar} (h : w ≠ []) : Cy (at' w) ↔ Wlk (at' w 0).1 (at' w 0).1 w := by
  have hl : 1 ≤ w.length := by
    cases w with
    | nil => exact absurd rfl h
    | cons a u => simp
  have hL : at' w w.length = at' w 0 := by rw [← at_mod, Nat.mod_self]
  rw [wlk_iff h]
  constructor
  · intro hc
    refine ⟨rfl, fun k _ => hc k, ?_⟩
    rw [hc, show w.length - 1 + 1 = w.length by omega, hL]
  · rintro ⟨_, h2, h3⟩ i
    have hk : i % w.length < w.length := Nat.mod_lt _ hl
    rw [← at_mod (i := i)]
    have e : at' w (i + 1) = at' w (i % w.length + 1) := by
      rw [← at_mod (i := i + 1), ← at_mod (i := i % w.length + 1), Nat.mod_add_mod]
    rw [e]
    by_cases c : i % w.length + 1 < w.length
    · exact h2 _ c
    · have : i % w.length = w.length - 1 := by omega
      rw [this, h3, show w.length - 1 + 1 = w.length by omega, hL]
open Classical in
theorem tr_cnt {n : Nat} {A : Nat → Nat → Int} (h0 : ∀ i j, i < n → j < n → 0 ≤ A i j) {L : Nat} (hL : 1 ≤ L) : tr n A L = cnt (words (arrs n A) L) fun w => Cy (at' w) := by
  unfold tr
  rw [sg_congr fun i hi => (wlk_cnt h0 L i i (List.mem_range.mp hi)).symm]
  unfold cnt
  rw [sg_swap]
  refine sg_congr fun w hw => ?_
  obtain ⟨hl, hm⟩ := words_mem.mp hw
  have hne : w ≠ [] := fun z => by rw [z] at hl; simp at hl; omega
  have hi0 : (at' w 0).1 < n := (arrs_mem.mp (hm _ (at_mem (by omega)))).1
  rw [sg_rng hi0]
  · by_cases c : Cy (at' w)
    · rw [if_pos c, if_pos ((cyc_iff hne).mp c)]
    · rw [if_neg c, if_neg fun z => c ((cyc_iff hne).mpr z)]
  · intro x _ ne
    exact if_neg fun z => ne ((wlk_iff hne).mp z).1.symm
/-! ### closed numbers by divisors -/
def divs (L : Nat) : List Nat := (List.range (L + 1)).filter fun d => decide (L % d = 0)
/-- closed words that repeat no shorter one -/
def PW (d : Nat) (w : List Ar) : Prop := Cy (at' w) ∧ LP (at' w) d
noncomputable def prim (S : List Ar) (d : Nat) : Int := cnt (words S d) (PW d)
theorem mul_of_mod {L d : Nat} (h : L % d = 0) : L = d * (L / d) := by
  have := Nat.mod_add_div L d
  omega
open Classical in
theorem cnt_split {S : List Ar} (nd : S.Nodup) {L : Nat} (hL : 1 ≤ L) : cnt (words S L) (fun w => Cy (at' w)) = sg (divs L) (prim S) := by
  have e1 : cnt (words S L) (fun w => Cy (at' w)) = sg (List.range (L + 1)) fun d => cnt (words S L) (PW d) := by
    unfold cnt
    rw [← sg_swap]
    refine sg_congr fun w hw => ?_
    obtain ⟨hl, _⟩ := words_mem.mp hw
    by_cases c : Cy (at' w)
    · have hP : isP (at' w) L := by
        have := at_P (w := w) (by omega)
        rwa [hl] at this
      obtain ⟨e, he⟩ := LP_ex hP
      have := he.2 L hP
      rw [if_pos c, sg_rng (i := e) (by omega), if_pos ⟨c, he⟩]
      intro x _ ne
      exact if_neg fun z => ne (LP_one z.2 he)
    · rw [if_neg c]
      exact (sg_none fun x _ => if_neg fun z => c z.1).symm
  rw [e1]
  unfold divs
  rw [sg_filter]
  refine sg_congr fun d hd => ?_
  by_cases c : L % d = 0
  · rw [if_pos (decide_eq_true c)]
    have d1 : 1 ≤ d := by
      rcases Nat.eq_zero_or_pos d with z | z
      · subst z; rw [Nat.mod_zero] at c; omega
      · exact z
    have eL := mul_of_mod c
    have PL : ∀ {f : Nat → Ar}, isP f d → isP f L := fun {f} hf => ⟨hL, fun i => by rw [eL]; exact isP_mul hf.2 _ i⟩
    refine cnt_bij (fun w => mk (at' w) d) (words_nodup nd L) (words_nodup nd d) (fun w hw ⟨h1, h2⟩ => ?_) (fun w hw v hv ⟨h1, h2⟩ ⟨h3, h4⟩ e => ?_) fun y hy ⟨h1, h2⟩ => ?_
    · obtain ⟨hl, hm⟩ := words_mem.mp hw
      refine ⟨words_mem.mpr ⟨mk_len, fun x hx => ?_⟩, ?_⟩
      · obtain ⟨i, _, rfl⟩ := List.mem_map.mp hx
        exact hm _ (at_mem (by omega))
      · unfold PW
        rw [at_mk h2.1]
        exact ⟨h1, h2⟩
    · obtain ⟨hl, _⟩ := words_mem.mp hw
      obtain ⟨hl', _⟩ := words_mem.mp hv
      refine eq_of_at (by omega) ?_
      rw [← at_mk h2.1, ← at_mk h4.1, e]
    · obtain ⟨hl, hm⟩ := words_mem.mp hy
      have hP : isP (at' y) d := h2.1
      refine ⟨mk (at' y) L, words_mem.mpr ⟨mk_len, fun x hx => ?_⟩, ?_, ?_⟩
      · obtain ⟨i, _, rfl⟩ := List.mem_map.mp hx
        exact hm _ (at_mem (by omega))
      · unfold PW
        rw [at_mk (PL hP)]
        exact ⟨h1, h2⟩
      · show mk (at' (mk (at' y) L)) d = y
        rw [at_mk (PL hP), ← hl]
        exact mk_at
  · rw [if_neg (by simpa using c)]
    refine sg_none fun w hw => if_neg fun z => c ?_
    obtain ⟨hl, _⟩ := words_mem.mp hw
    refine LP_dvd z.2 ?_
    have := at_P (w := w) (by omega)
    rwa [hl] at this
open Classical in
/-- the told rounds: of the turns of a closed word that repeats none, one each -/
theorem prim_orb {S : List Ar} (nd : S.Nodup) {d : Nat} (hd : 1 ≤ d) : (∃ q : Nat, prim S d = d * q) ∧
    ∀ t : List Ar → Prop, (∀ w, w ∈ words S d → Cy (at' w) → LP (at' w) d → cnt (List.range d) (fun s => t (iter rot s w)) = 1) → prim S d = d * cnt (words S d) fun w => PW d w ∧ t w := by
  unfold prim
  rw [cnt_len]
  generalize hl : List.filter _ (words S d) = l
  have mem : ∀ {w}, w ∈ l ↔ w ∈ words S d ∧ PW d w := fun {w} => by rw [← hl, List.mem_filter, decide_eq_true_eq]
  have nl : l.Nodup := hl ▸ (words_nodup nd d).filter _
  have g1 : ∀ w ∈ l, rot w ∈ l := fun w hw => by
    obtain ⟨h1, h2, h3⟩ := mem.mp hw
    obtain ⟨hl, hm⟩ := words_mem.mp h1
    refine mem.mpr ⟨words_mem.mpr ⟨by rw [rot_len, hl], fun x hx => ?_⟩, ?_⟩
    · obtain ⟨i, _, rfl⟩ := List.mem_map.mp hx
      exact hm _ (at_mem (by omega))
    · unfold PW
      rw [at_rot (by omega)]
      exact ⟨fun i => h2 (i + 1), LP_shift h3⟩
  have g2 : ∀ w ∈ l, iter rot d w = w := fun w hw => by
    obtain ⟨h1, _⟩ := mem.mp hw
    obtain ⟨hl, _⟩ := words_mem.mp h1
    have := rot_full (w := w) (by omega)
    rwa [hl] at this
  have g3 : ∀ w ∈ l, ∀ s, 0 < s → s < d → iter rot s w ≠ w := fun w hw s h0 hs => by
    obtain ⟨h1, _, h3⟩ := mem.mp hw
    obtain ⟨hl, _⟩ := words_mem.mp h1
    exact rot_ne (by rw [hl]; exact h3) h0 (by omega)
  obtain ⟨⟨q, hq⟩, h2⟩ := orb (r := rot) hd l.length l rfl nl g1 g2 g3
  refine ⟨⟨q, by rw [hq, Int.natCast_mul]⟩, fun t ht => ?_⟩
  rw [h2 t fun w hw => ht w (mem.mp hw).1 (mem.mp hw).2.1 (mem.mp hw).2.2]
  congr 1
  rw [← hl]
  unfold cnt
  rw [sg_filter]
  refine sg_congr fun w _ => ?_
  by_cases c : PW d w
  · rw [if_pos (decide_eq_true c)]
    by_cases c2 : t w
    · rw [if_pos c2, if_pos ⟨c, c2⟩]
    · rw [if_neg c2, if_neg fun z => c2 z.2]
  · rw [if_neg (by simpa using c), if_neg fun z => c z.1]
theorem gauss {n : Nat} {A : Nat → Nat → Int} (h0 : ∀ i j, i < n → j < n → 0 ≤ A i j) : ∃ M : Nat → Int, (∀ d, 1 ≤ d → prim (arrs n A) d = d * M d) ∧ ∀ L, 1 ≤ L → tr n A L = sg (divs L) fun d => d * M d := by
  have nd := arrs_nodup n A
  refine ⟨fun d => prim (arrs n A) d / d, fun d hd => ?_, fun L hL => ?_⟩
  · obtain ⟨⟨q, hq⟩, _⟩ := prim_orb nd hd
    show _ = (d : Int) * (prim (arrs n A) d / d)
    rw [hq, Int.mul_ediv_cancel_left _ (by omega)]
  · rw [tr_cnt h0 hL, cnt_split nd hL]
    refine sg_congr fun d hd => ?_
    have hd := List.mem_filter.mp hd
    have c : L % d = 0 := by simpa using hd.2
    have d1 : 1 ≤ d := by
      rcases Nat.eq_zero_or_pos d with z | z
      · subst z; rw [Nat.mod_zero] at c; omega
      · exact z
    obtain ⟨⟨q, hq⟩, _⟩ := prim_orb nd d1
    show _ = (d : Int) * (prim (arrs n A) d / d)
    rw [hq, Int.mul_ediv_cancel_left _ (by omega)]
/-! ### what is left of the closed numbers, two ways -/
def mobF : Nat → Int → Nat → Nat → Option Int
  | 0, _, _, _ => none
  | k + 1, f, d, m => if d * d ≤ m then (if m % d = 0 then (if m / d % d = 0 then some 0 else mobF k (-f) (d + 1) (m / d)) else mobF k f (d + 1) m) else some (if m = 1 then f else -f)
def mob (n : Nat) : Int := (mobF 8 1 2 n).getD 0
theorem mob_ok : ∀ n, n < 41 → (mobF 8 1 2 n).isSome = true := by decide +kernel
theorem mob_inv : ∀ L, L < 41 → 1 ≤ L → ∀ e, e < 41 → sg (divs L) (fun d => mob d * (if L / d % e = 0 then 1 else 0)) = if e = L then 1 else 0 := by decide +kernel
theorem sg_more {f : Nat → Int} {a : Nat} : ∀ {b : Nat}, a ≤ b → (∀ x, a ≤ x → x < b → f x = 0) → sg (List.range a) f = sg (List.range b) f
  | b, h, hz => by
    induction b with
    | zero => rw [Nat.le_zero.mp h]
    | succ b ih =>
      rcases Nat.lt_or_ge a (b + 1) with c | c
      · rw [List.range_succ, sg_app, ← ih (by omega) fun x h1 h2 => hz x h1 (by omega), sg_cons, sg_nil, hz b (by omega) (by omega)]
        omega
      · rw [show a = b + 1 by omega]
theorem told_mob {M : Nat → Int} {c : Nat → Int} (h : ∀ L, 1 ≤ L → c L = sg (divs L) fun d => d * M d) {L : Nat} (h1 : 1 ≤ L) (h40 : L < 41) : sg (divs L) (fun d => mob d * c (L / d)) = L * M L := by
  have key : ∀ k, 1 ≤ k → k < 41 → c k = sg (List.range 41) fun e => (if k % e = 0 then 1 else 0) * (e * M e) := fun k hk hk4 => by
    rw [h k hk]
    unfold divs
    rw [sg_filter, sg_more (b := 41) (by omega) fun x hx hx4 => ?_]
    · refine sg_congr fun e _ => ?_
      by_cases z : k % e = 0
      · rw [if_pos (decide_eq_true z), if_pos z, Int.one_mul]
      · rw [if_neg (by simpa using z), if_neg z, Int.zero_mul]
    · refine if_neg fun z => ?_
      have z : k % x = 0 := by simpa using z
      rw [Nat.mod_eq_of_lt (by omega)] at z
      omega
  have e1 : sg (divs L) (fun d => mob d * c (L / d)) = sg (divs L) fun d => sg (List.range 41) fun e => mob d * (if L / d % e = 0 then 1 else 0) * (e * M e) := by
    refine sg_congr fun d hd => ?_
    have hd := List.mem_filter.mp hd
    have z : L % d = 0 := by simpa using hd.2
    have d1 : 1 ≤ d := by
      rcases Nat.eq_zero_or_pos d with y | y
      · subst y; rw [Nat.mod_zero] at z; omega
      · exact y
    have eL := mul_of_mod z
    have q1 : 1 ≤ L / d := by
      rcases Nat.eq_zero_or_pos (L / d) with y | y
      · rw [y, Nat.mul_zero] at eL; omega
      · exact y
    have q2 : L / d ≤ L := Nat.div_le_self _ _
    rw [key _ q1 (by omega), ← sg_mul]
    exact sg_congr fun e _ => (Int.mul_assoc _ _ _).symm
  rw [e1, sg_swap]
  have e2 : ∀ e ∈ List.range 41, sg (divs L) (fun d => mob d * (if L / d % e = 0 then 1 else 0) * (e * M e)) = if e = L then L * M L else 0 := fun e he => by
    rw [sg_mulR, mob_inv L h40 h1 e (List.mem_range.mp he)]
    by_cases z : e = L
    · rw [if_pos z, if_pos z, Int.one_mul, z]
    · rw [if_neg z, if_neg z, Int.zero_mul]
  rw [sg_congr e2, sg_rng (i := L) h40, if_pos rfl]
  intro x _ ne
  exact if_neg ne
theorem told_less {M : Nat → Int} {c : Nat → Int} (h : ∀ L, 1 ≤ L → c L = sg (divs L) fun d => d * M d) {L : Nat} (h1 : 1 ≤ L) : c L - sg ((List.range L).filter fun d => decide (L % d = 0)) (fun d => d * M d) = L * M L := by
  rw [h L h1]
  unfold divs
  rw [List.range_succ, List.filter_append, sg_app]
  have : (List.filter (fun d => decide (L % d = 0)) [L]) = [L] := by simp
  rw [this, sg_cons, sg_nil]
  omega
end GA
set_option Elab.async false
set_option linter.all false
set_option maxRecDepth 100000
set_option maxHeartbeats 1000000
/-! ### zip of any number of tuples -/
namespace DLN
open PySem DLZ
open PySem.Sem (wp)
structure Row3 where
  i : Addr
  l : Addr
  xs : Array Value
abbrev TupAt (h : Heap) (T : Addr) (vs : List Value) : Prop := h.get? T = some { cls := .type "tuple", data := .seq vs.toArray }
structure Apart (z TI TO : Addr) (rs : List Row3) : Prop where
  TIz : TI ≠ z
  TOz : TO ≠ z
  TITO : TI ≠ TO
  nd : (rs.map (·.i)).Nodup
  iz : ∀ r ∈ rs, r.i ≠ z ∧ r.i ≠ TI ∧ r.i ≠ TO
  lz : ∀ r ∈ rs, r.l ≠ z ∧ r.l ≠ TO ∧ ∀ q ∈ rs, r.l ≠ q.i
structure ZN (h : Heap) (z TI TO : Addr) (rs : List Row3) (k : Nat) : Prop where
  zp : ∃ v b, ZA h z TI TO v b ∧ Given v
  ti : TupAt h TI (rs.map fun r => .ref r.i)
  to : ∃ vs : List Value, vs.length = rs.length ∧ TupAt h TO vs
  it : ∀ r ∈ rs, h.IsTupleIter r.i r.l k
  tp : ∀ r ∈ rs, h.IsTuple r.l r.xs
section
variable {prog : Program} {w : World} {A : Around} {E : Value → Shared → Prop} {s : Shared} {z TI TO : Addr} {rs : List Row3} {k : Nat} {x : Row3 → Value}
theorem upd_tup {T : Addr} {vs : List Value} {k : Nat} {v : Value} {Q : Unit → Shared → Prop} (hT : TupAt s.heap T vs) (hz : vs.length ≤ 1000)
    (h : ∀ h', TupAt h' T (vs.set k v) → Heap.SameBut T s.heap h' → Q () { s with heap := h' }) : wpAny (model prog w) A (updateSeq T (·.setIfInBounds k v)) Q E s := by
  have e : sizeLine = 16777216 := sizeLine_eq
  refine wpAny_updateSeq hT rfl (h _ ?_ (Heap.SameBut.update ..)) (by rw [List.size_toArray]; omega) (by simp; omega)
  show Heap.get? _ _ = _
  rw [Heap.get?_update_self _ hT rfl]
  simp [Obj.mapSeq]
/-- between two draws within one: those of pre are drawn -/
structure LA (h0 g : Heap) (z TO : Addr) (rs pre post : List Row3) (k : Nat) : Prop where
  e : rs = pre ++ post
  sz : g.objs.size = h0.objs.size
  i1 : ∀ r ∈ pre, g.IsTupleIter r.i r.l (k + 1)
  i2 : ∀ r ∈ post, g.IsTupleIter r.i r.l k
  kp : ∀ c o, c ≠ z → c ≠ TO → c ∉ rs.map (·.i) → h0.get? c = some o → g.get? c = some o
theorem nd_parts {α : Type} {pre post : List α} {r : α} {f : α → Addr} (h : ((pre ++ r :: post).map f).Nodup) : (∀ q ∈ pre, f q ≠ f r) ∧ ∀ q ∈ post, f q ≠ f r := by
  rw [List.map_append, List.map_cons, List.nodup_append] at h
  obtain ⟨_, h2, h3⟩ := h
  obtain ⟨h4, _⟩ := List.nodup_cons.mp h2
  exact ⟨fun q hq => h3 _ (List.mem_map.mpr ⟨q, hq, rfl⟩) _ List.mem_cons_self, fun q hq z => h4 (z ▸ List.mem_map.mpr ⟨q, hq, rfl⟩)⟩
theorem LA.step {h0 g g2 : Heap} {pre post : List Row3} {r : Row3} (L : LA h0 g z TO rs pre (r :: post) k) (nd : (rs.map (·.i)).Nodup) (n : g2.IsTupleIter r.i r.l (k + 1)) (sb : Heap.SameBut r.i g g2) : LA h0 g2 z TO rs (pre ++ [r]) post k := by
  obtain ⟨e, sz, i1, i2, kp⟩ := L
  obtain ⟨a1, a2⟩ := nd_parts (e ▸ nd)
  refine ⟨by rw [e, List.append_assoc]; rfl, sb.1.trans sz, fun q hq => ?_, fun q hq => (i2 q (List.mem_cons_of_mem _ hq)).extBut sb.extBut (a2 q hq), fun c o c1 c2 c3 c4 => sb.extBut _ _ (fun z => c3 ?_) (kp c o c1 c2 c3 c4)⟩
  · rcases List.mem_append.mp hq with hq | hq
    · exact (i1 q hq).extBut sb.extBut (a1 q hq)
    · rw [List.mem_singleton.mp hq]; exact n
  · subst z
    exact List.mem_map.mpr ⟨r, by rw [e]; simp, rfl⟩
theorem LA.other {h0 g g2 : Heap} {pre post : List Row3} {a : Addr} (L : LA h0 g z TO rs pre post k) (ha : a = z ∨ a = TO) (ne : ∀ r ∈ rs, r.i ≠ a) (sb : Heap.SameBut a g g2) : LA h0 g2 z TO rs pre post k := by
  obtain ⟨e, sz, i1, i2, kp⟩ := L
  refine ⟨e, sb.1.trans sz, fun q hq => (i1 q hq).extBut sb.extBut (ne q (by rw [e]; simp [hq])), fun q hq => (i2 q hq).extBut sb.extBut (ne q (by rw [e]; simp [hq])), fun c o c1 c2 c3 c4 => sb.extBut _ _ (fun z => ?_) (kp c o c1 c2 c3 c4)⟩
  subst z
  rcases ha with rfl | rfl
  · exact c1 rfl
  · exact c2 rfl
theorem next_zipN {Q : Value → Shared → Prop} (D : Apart z TI TO rs) (S : ZN s.heap z TI TO rs k) (hn : rs ≠ []) (hl : rs.length ≤ 1000) (hx : ∀ r ∈ rs, r.xs[k]? = some (x r))
    (hQ : ∀ g, ZN g z TI TO rs (k + 1) → TupAt g s.heap.objs.size (rs.map x) → g.objs.size = s.heap.objs.size + 1 → (∀ c o, c ≠ z → c ≠ TO → c ∉ rs.map (·.i) → s.heap.get? c = some o → g.get? c = some o) → Q (.ref s.heap.objs.size) { s with heap := g }) :
    wpAny (model prog w) A (Builtin.«zip.__next__» ⟨[.ref z], []⟩) (fun r s1 => ∃ v, r = .done (.ret v) ∧ Q v s1) E s := by
  obtain ⟨⟨v0, b0, hz, hg⟩, ti, ⟨vs, hvs, to⟩, it, tp⟩ := S
  have e16 : sizeLine = 16777216 := sizeLine_eq
  have memi : ∀ {c}, c ∈ rs.map (·.i) ↔ ∃ r ∈ rs, r.i = c := fun {c} => List.mem_map
  have nz : z ∉ rs.map (·.i) := fun h => by obtain ⟨r, hr, e⟩ := memi.mp h; exact (D.iz r hr).1 e
  have nTI : TI ∉ rs.map (·.i) := fun h => by obtain ⟨r, hr, e⟩ := memi.mp h; exact (D.iz r hr).2.1 e
  have nTO : TO ∉ rs.map (·.i) := fun h => by obtain ⟨r, hr, e⟩ := memi.mp h; exact (D.iz r hr).2.2 e
  have nl : ∀ r ∈ rs, r.l ∉ rs.map (·.i) := fun r hr h => by obtain ⟨q, hq, e⟩ := memi.mp h; exact (D.lz r hr).2.2 q hq e.symm
  show wpAny _ _ (field (.ref z) 2 >>= _) _ _ s
  refine wpAny_bind (wpAny_field hz rfl (x := .bool false) rfl ?_)
  show wpAny _ _ (field (.ref z) 3 >>= _) _ _ s
  refine wpAny_bind (wpAny_field hz rfl (x := .ref TI) rfl (wpAny_bind (wpAny_seqItems ti rfl ?_)))
  have hne : ((rs.map fun r => Value.ref r.i).toArray).isEmpty = false := by
    cases rs with
    | nil => exact absurd rfl hn
    | cons a l => rfl
  dsimp only
  rw [hne]
  show wpAny _ _ (Builtin.SmallTypes.ownedTupleIsFree (.ref z) >>= _) _ _ s
  refine wpAny_bind (free_zip hz hg ?_ fun g0 a0 sb0 => ?_)
  · -- its own tuple is filled anew
    simp only [if_true]
    refine wpAny_bind (wpAny_rule (wpAny_bind (wpAny_field hz rfl (x := .ref TO) rfl (wpAny_bind (wpAny_setField_rec hz (by simp) fun g1 a1 sb1 => wpAny_bind ?_)))))
    replace a1 : ZA g1 z TI TO .ellipsis b0 := a1
    refine wpAny_forIn_list _ (fun rest b s' => b = ⟨none, ()⟩ ∧ ∃ pre post g old, rest = (post.map fun r => Value.ref r.i).zipIdx pre.length ∧ s' = { s with heap := g } ∧ LA s.heap g z TO rs pre post k ∧ ZA g z TI TO .ellipsis b0 ∧ TupAt g TO (pre.map x ++ old) ∧ old.length = post.length) _ ?_ ?_ _ _ ?_
    · rintro ⟨u, j⟩ rest b s1 ⟨rfl, pre, post, g, old, e1, rfl, L, a, t, ho⟩
      cases post with
      | nil => cases e1
      | cons r post =>
        rw [List.map_cons, List.zipIdx_cons] at e1
        obtain ⟨e2, rfl⟩ := List.cons.inj e1
        cases e2
        dsimp only
        refine wpAny_bind (wpAny_onRaise ?_)
        show wpAny _ _ (Builtin.SmallTypes.nextOf (.ref r.i) >>= _) _ _ _
        have hr : r ∈ rs := by rw [L.e]; simp
        refine wpAny_bind (RZ.nextOf_tuple_item (s := { s with heap := g }) (L.i2 r List.mem_cons_self) ((tp r hr).at fun o e => L.kp _ _ (D.lz r hr).1 (D.lz r hr).2.1 (nl r hr) e) (hx r hr) fun g2 n1 sb2 => wpAny_pure ?_)
        cases old with
        | nil => cases ho
        | cons o0 old =>
          have t2 : TupAt g2 TO (pre.map x ++ o0 :: old) := sb2.extBut _ _ (D.iz r hr).2.2.symm t
          have hp : pre.length + post.length + 1 = rs.length := by rw [L.e]; simp; omega
          have ho' : old.length = post.length := by simpa using ho
          dsimp only
          refine wpAny_bind (wpAny_seqItems t2 rfl (wpAny_bind (upd_tup t2 (by simp; omega) fun g3 t3 sb3 => wpAny_bind (wpAny_letGo (wpAny_pure ?_)))))
          have L2 := L.step D.nd n1 sb2
          have L3 := L2.other (.inr rfl) (fun q hq => (D.iz q hq).2.2) sb3
          have a3 : ZA g3 z TI TO .ellipsis b0 := sb3.extBut _ _ D.TOz.symm (sb2.extBut _ _ (D.iz r hr).1.symm a)
          refine ⟨rfl, pre ++ [r], post, g3, old, by simp, rfl, L3, a3, ?_, ho'⟩
          have : (pre.map x ++ o0 :: old).set pre.length (x r) = (pre ++ [r]).map x ++ old := by
            rw [List.set_append_right _ _ (by simp)]
            simp
          rw [← this]
          exact t3
    · rintro b s1 ⟨rfl, pre, post, g, old, e1, rfl, L, a, t, ho⟩
      have : post = [] := by
        cases post with
        | nil => rfl
        | cons r post => rw [List.map_cons, List.zipIdx_cons] at e1; cases e1
      subst this
      have eo : old = [] := List.eq_nil_of_length_eq_zero (by simpa using ho)
      subst eo
      have ep : rs = pre := by rw [L.e, List.append_nil]
      subst ep
      rw [List.append_nil] at t
      dsimp only
      refine wpAny_bind (wpAny_seqItems t rfl ?_)
      dsimp only
      refine wpAny_bind (wpAny_newTuple ?_ (by simp; omega))
      refine wpAny_bind ?_
      unfold Builtin.SmallTypes.ownedTupleHandOut
      have zl : z < g.objs.size := Heap.lt_size a
      have a6 : ZA (g.push { cls := .type "tuple", data := .seq (rs.map x).toArray.toList.toArray }) z TI TO .ellipsis b0 := Heap.get?_push_of_some _ a
      refine wpAny_bind (wpAny_setField_rec a6 (by simp) fun g7 a7 sb7 => ?_)
      replace a7 : ZA g7 z TI TO (rawInt g.objs.size) b0 := a7
      refine wpAny_setField_rec a7 (by simp) fun g8 a8 sb8 => ?_
      replace a8 : ZA g8 z TI TO (rawInt g.objs.size) false := a8
      have up : ∀ c o, c ≠ z → g.get? c = some o → g8.get? c = some o := fun c o e1 e => sb8.extBut _ _ e1 (sb7.extBut _ _ e1 (Heap.get?_push_of_some _ e))
      have nw : TupAt g8 g.objs.size (rs.map x) := sb8.extBut _ _ (Nat.ne_of_gt zl) (sb7.extBut _ _ (Nat.ne_of_gt zl) (by
        have := Heap.get?_push_size g (o := { cls := .type "tuple", data := .seq (rs.map x).toArray.toList.toArray }) rfl
        simpa using this))
      have sz8 : g8.objs.size = g.objs.size + 1 := by rw [sb8.1, sb7.1, Heap.size_push]
      refine wpAny_pure ⟨_, rfl, ?_⟩
      show Q (.ref g.objs.size) _
      rw [L.sz] at nw sz8 ⊢
      refine hQ g8 ⟨⟨_, _, a8, .inr ⟨_, rfl⟩⟩, up _ _ D.TIz (L.kp _ _ D.TIz D.TITO nTI ti), ⟨_, by simp, up _ _ D.TOz t⟩, fun r hr => (L.i1 r hr).at fun o e => up _ o (D.iz r hr).1 e, fun r hr => (tp r hr).at fun o e => up _ _ (D.lz r hr).1 (L.kp _ _ (D.lz r hr).1 (D.lz r hr).2.1 (nl r hr) e)⟩ nw sz8 fun c o e1 e2 e3 e => up c o e1 (L.kp c o e1 e2 e3 e)
    · exact ⟨rfl, [], rs, g1, vs, rfl, rfl, ⟨rfl, sb1.1, (fun r hr => nomatch hr), fun r hr => (it r hr).extBut sb1.extBut (D.iz r hr).1, fun c o c1 _ _ e => sb1.extBut _ _ c1 e⟩, a1, sb1.extBut _ _ D.TOz to, hvs⟩
  · -- its own tuple is still out: a new one
    simp only [Bool.false_eq_true, if_false]
    refine wpAny_bind ?_
    rw [← Array.forIn_toList]
    refine wpAny_forIn_list _ (fun rest b s' => ∃ pre post g, b = ⟨none, (pre.map x).toArray⟩ ∧ rest = (post.map fun r => Value.ref r.i) ∧ s' = { s with heap := g } ∧ LA s.heap g z TO rs pre post k ∧ ZA g z TI TO v0 true ∧ TupAt g TO vs) _ ?_ ?_ _ _ ?_
    · rintro u rest b s1 ⟨pre, post, g, rfl, e1, rfl, L, a, t⟩
      cases post with
      | nil => cases e1
      | cons r post =>
        rw [List.map_cons] at e1
        obtain ⟨rfl, rfl⟩ := List.cons.inj e1
        dsimp only
        have hr : r ∈ rs := by rw [L.e]; simp
        refine wpAny_bind (wpAny_holding ?_)
        show wpAny _ _ (Builtin.SmallTypes.nextOf (.ref r.i) >>= _) _ _ _
        refine wpAny_bind (RZ.nextOf_tuple_item (s := { s with heap := g }) (L.i2 r List.mem_cons_self) ((tp r hr).at fun o e => L.kp _ _ (D.lz r hr).1 (D.lz r hr).2.1 (nl r hr) e) (hx r hr) fun g2 n1 sb2 => wpAny_pure (wpAny_pure ?_))
        exact ⟨pre ++ [r], post, g2, by simp, rfl, rfl, L.step D.nd n1 sb2, sb2.extBut _ _ (D.iz r hr).1.symm a, sb2.extBut _ _ (D.iz r hr).2.2.symm t⟩
    · rintro b s1 ⟨pre, post, g, rfl, e1, rfl, L, a, t⟩
      have : post = [] := by
        cases post with
        | nil => rfl
        | cons r post => cases e1
      subst this
      have ep : rs = pre := by rw [L.e, List.append_nil]
      subst ep
      dsimp only
      refine wpAny_bind (wpAny_newTuple ?_ (by simp; omega))
      refine wpAny_pure ⟨_, rfl, ?_⟩
      show Q (.ref g.objs.size) _
      have nw : TupAt (g.push { cls := .type "tuple", data := .seq (rs.map x).toArray.toList.toArray }) g.objs.size (rs.map x) := by
        have := Heap.get?_push_size g (o := { cls := .type "tuple", data := .seq (rs.map x).toArray.toList.toArray }) rfl
        simpa using this
      have sz4 : (g.push { cls := .type "tuple", data := .seq (rs.map x).toArray.toList.toArray }).objs.size = g.objs.size + 1 := Heap.size_push ..
      rw [L.sz] at nw sz4 ⊢
      exact hQ _ ⟨⟨v0, true, Heap.get?_push_of_some _ a, hg⟩, Heap.get?_push_of_some _ (L.kp _ _ D.TIz D.TITO nTI ti), ⟨vs, hvs, Heap.get?_push_of_some _ t⟩, fun r hr => (L.i1 r hr).at fun o e => Heap.get?_push_of_some _ e, fun r hr => (tp r hr).at fun o e => Heap.get?_push_of_some _ (L.kp _ _ (D.lz r hr).1 (D.lz r hr).2.1 (nl r hr) e)⟩ nw sz4 fun c o e1 e2 e3 e => Heap.get?_push_of_some _ (L.kp c o e1 e2 e3 e)
    · exact ⟨[], rs, g0, rfl, rfl, rfl, ⟨rfl, sb0.1, (fun r hr => nomatch hr), fun r hr => (it r hr).extBut sb0.extBut (D.iz r hr).1, fun c o c1 _ _ e => sb0.extBut _ _ c1 e⟩, a0, sb0.extBut _ _ D.TOz to⟩
theorem last_zipN {Q : Fin → Shared → Prop} {r0 : Row3} {rest : List Row3} (hh : A.handled = none) (D : Apart z TI TO rs) (S : ZN s.heap z TI TO rs k) (hn : rs = r0 :: rest) (he : r0.xs[k]? = none)
    (hE : ∀ g e, (∀ c o, c ≠ z → c ≠ TO → c ∉ rs.map (·.i) → s.heap.get? c = some o → g.get? c = some o) → (∃ o, g.get? e = some o ∧ o.cls = .type "StopIteration") → E (.ref e) { s with heap := g }) :
    wpAny (model prog w) A (Builtin.«zip.__next__» ⟨[.ref z], []⟩) Q E s := by
  obtain ⟨⟨v0, b0, hz, hg⟩, ti, ⟨vs, hvs, to⟩, it, tp⟩ := S
  have hr : r0 ∈ rs := by rw [hn]; exact List.mem_cons_self
  have hi0 : r0.i ∈ rs.map (·.i) := List.mem_map.mpr ⟨r0, hr, rfl⟩
  show wpAny _ _ (field (.ref z) 2 >>= _) _ _ s
  refine wpAny_bind (wpAny_field hz rfl (x := .bool false) rfl ?_)
  show wpAny _ _ (field (.ref z) 3 >>= _) _ _ s
  refine wpAny_bind (wpAny_field hz rfl (x := .ref TI) rfl (wpAny_bind (wpAny_seqItems ti rfl ?_)))
  have hne : ((rs.map fun r => Value.ref r.i).toArray).isEmpty = false := by rw [hn]; rfl
  dsimp only
  rw [hne]
  show wpAny _ _ (Builtin.SmallTypes.ownedTupleIsFree (.ref z) >>= _) _ _ s
  refine wpAny_bind (free_zip hz hg ?_ fun g0 a0 sb0 => ?_)
  · simp only [if_true]
    refine wpAny_bind (wpAny_rule (wpAny_bind (wpAny_field hz rfl (x := .ref TO) rfl (wpAny_bind (wpAny_setField_rec hz (by simp) fun g1 a1 sb1 => wpAny_bind ?_)))))
    replace a1 : ZA g1 z TI TO .ellipsis b0 := a1
    rw [show (rs.map fun r => Value.ref r.i).toArray.toList.zipIdx = (Value.ref r0.i, 0) :: (rest.map fun r => Value.ref r.i).zipIdx 1 by rw [hn]; simp]
    simp only [List.forIn_cons]
    refine wpAny_bind (wpAny_bind (wpAny_onRaise ?_))
    show wpAny _ _ (Builtin.SmallTypes.nextOf (.ref r0.i) >>= _) _ _ _
    refine wpAny_bind (RZ.nextOf_tuple_end (s := { s with heap := g1 }) hh ((it r0 hr).extBut sb1.extBut (D.iz r0 hr).1) ((tp r0 hr).extBut sb1.extBut (D.lz r0 hr).1) he fun g2 e sb2 ⟨oe, e1, e2⟩ => ?_)
    have a2 : ZA g2 z TI TO .ellipsis b0 := sb2 _ _ (D.iz r0 hr).1.symm a1
    have ne : e ≠ z := fun x => by subst x; rw [a2] at e1; cases e1; simp at e2
    exact wpAny_setField_rec a2 (by simp) fun g3 _ sb3 => hE g3 e (fun c o c1 _ c3 x => sb3.extBut _ _ c1 (sb2 _ _ (fun z => c3 (z ▸ hi0)) (sb1.extBut _ _ c1 x))) ⟨oe, sb3.extBut _ _ ne e1, e2⟩
  · simp only [Bool.false_eq_true, if_false]
    refine wpAny_bind ?_
    rw [← Array.forIn_toList, show (rs.map fun r => Value.ref r.i).toArray.toList = Value.ref r0.i :: (rest.map fun r => Value.ref r.i) by rw [hn]; simp]
    simp only [List.forIn_cons]
    refine wpAny_bind (wpAny_bind (wpAny_holding ?_))
    show wpAny _ _ (Builtin.SmallTypes.nextOf (.ref r0.i) >>= _) _ _ _
    exact wpAny_bind (RZ.nextOf_tuple_end (s := { s with heap := g0 }) hh ((it r0 hr).extBut sb0.extBut (D.iz r0 hr).1) ((tp r0 hr).extBut sb0.extBut (D.lz r0 hr).1) he fun g2 e sb2 st => hE g2 e (fun c o c1 _ c3 x => sb2 _ _ (fun z => c3 (z ▸ hi0)) (sb0.extBut _ _ c1 x)) st)
theorem ZN.ty {h : Heap} (S : ZN h z TI TO rs k) : ∃ o, h.get? z = some o ∧ o.cls = .type "zip" := by
  obtain ⟨v, b, e, _⟩ := S.zp
  exact ⟨_, e, rfl⟩
theorem py_item {Q : Option Value → Shared → Prop} (D : Apart z TI TO rs) (S : ZN s.heap z TI TO rs k) (hn : rs ≠ []) (hl : rs.length ≤ 1000) (hx : ∀ r ∈ rs, r.xs[k]? = some (x r))
    (hQ : ∀ g, ZN g z TI TO rs (k + 1) → TupAt g s.heap.objs.size (rs.map x) → g.objs.size = s.heap.objs.size + 1 → (∀ c o, c ≠ z → c ≠ TO → c ∉ rs.map (·.i) → s.heap.get? c = some o → g.get? c = some o) → Q (some (.ref s.heap.objs.size)) { s with heap := g }) :
    wpAny (model prog w) A (pyNext (.ref z)) Q E s := by
  have ty : s.TypeIs (.ref z) "zip" := S.ty
  unfold pyNext
  exact wpAny_bind (wpAny_attempt (wpAny_callSpecial?_slot (name := Str.ofString "__next__") ty F.slot_zip_next (wpAny_call_entry F.slot_zip_next ty F.entry_zip_next
    (next_zipN D S hn hl hx fun g a b c d => wpAny_pure (hQ g a b c d)) (F.args_zip_next_1 _))))
theorem py_end {Q : Option Value → Shared → Prop} {r0 : Row3} {rest : List Row3} (hh : A.handled = none) (D : Apart z TI TO rs) (S : ZN s.heap z TI TO rs k) (hn : rs = r0 :: rest) (he : r0.xs[k]? = none)
    (hQ : ∀ g, (∀ c o, c ≠ z → c ≠ TO → c ∉ rs.map (·.i) → s.heap.get? c = some o → g.get? c = some o) → Q none { s with heap := g }) : wpAny (model prog w) A (pyNext (.ref z)) Q E s := by
  have ty : s.TypeIs (.ref z) "zip" := S.ty
  unfold pyNext
  refine wpAny_bind (wpAny_attempt (wpAny_callSpecial?_slot (name := Str.ofString "__next__") ty F.slot_zip_next (wpAny_call_entry F.slot_zip_next ty F.entry_zip_next (last_zipN hh D S hn he fun g e kp ⟨o, o1, o2⟩ => ?_) (F.args_zip_next_1 _))))
  refine wpAny_bind (wpAny_isInstance (T := "StopIteration") (b := true) ⟨o, o1, o2⟩ isSubtype_stop ?_)
  exact wpAny_pure (hQ g kp)
end
section
variable {prog : Program} {w : World} {A : Around} {R : Result → Shared → Prop} {z TI TO S b m : Nat} {rs : List Row3} {x : Nat → Row3 → Value}
/-- what stands apart from a list that is filled -/
structure Far (z TI TO S b : Nat) (rs : List Row3) : Prop where
  Sz : S ≠ z
  STI : S ≠ TI
  STO : S ≠ TO
  Si : S ∉ rs.map (·.i)
  Sl : ∀ r ∈ rs, r.l ≠ S
  bS : S < b
  bz : z < b
  bTO : TO < b
  bi : ∀ r ∈ rs, r.i < b
theorem loop_zipN (hh : A.handled = none) (D : Apart z TI TO rs) (Fa : Far z TI TO S b rs) (hn : rs ≠ []) (hl : rs.length ≤ 1000) (hm : m ≤ 1000) (hx : ∀ j, j < m → ∀ r ∈ rs, r.xs[j]? = some (x j r)) (hend : ∀ r ∈ rs, r.xs[m]? = none) (res : Value) :
    ∀ (q i : Nat) (s : Shared) (acc : Array Value) (c : Nat), m - i = q → i ≤ m → ZN s.heap z TI TO rs i → s.heap.get? S = some { cls := .type "list", dict := none, data := .seq acc c, slots := #[] } → acc.size = i → b + i = s.heap.objs.size →
      (∀ j, j < i → acc[j]? = some (.ref (b + j)) ∧ TupAt s.heap (b + j) (rs.map (x j))) →
      (∀ g acc' c', (∀ c o, c ≠ S → c ≠ z → c ≠ TO → c ∉ rs.map (·.i) → s.heap.get? c = some o → g.get? c = some o) → g.get? S = some { cls := .type "list", dict := none, data := .seq acc' c', slots := #[] } → acc'.size = m →
        (∀ j, j < m → acc'[j]? = some (.ref (b + j)) ∧ TupAt g (b + j) (rs.map (x j))) → R (.ok (.ret res)) { s with heap := g }) →
      codeAny (model prog w) A (.builtin "list.extend.loop" ⟨[.ref S, .ref z, res], []⟩) R s := by
  have e16 : sizeLine = 16777216 := sizeLine_eq
  have nb : ∀ j, b + j ∉ rs.map (·.i) := fun j h => by
    obtain ⟨r, hr, e⟩ := List.mem_map.mp h
    have h1 : @LT.lt Nat _ r.i b := Fa.bi r hr
    have e : @Eq Nat r.i (b + j) := e
    omega
  intro q
  induction q with
  | zero =>
    intro i s acc c hq hi hst hS hacc hb ht hR
    have him : i = m := by omega
    subst him
    refine codeAny_builtin F.entry_extend_loop ?_
    rw [Around.under_plainId F.plain_extend_loop _]
    show wpAny _ A.in1 (pyNext (.ref z) >>= _) _ _ s
    have ⟨r0, rest, er⟩ : ∃ r0 rest, rs = r0 :: rest := by
      cases rs with
      | nil => exact absurd rfl hn
      | cons a l => exact ⟨a, l, rfl⟩
    · refine wpAny_bind (py_end (A := A.in1) hh D hst er (hend r0 (er ▸ List.mem_cons_self)) fun g kp => ?_)
      refine wpAny_pure (hR g acc c (fun c o _ c2 c3 c4 e => kp c o c2 c3 c4 e) (kp _ _ Fa.Sz Fa.STO Fa.Si hS) hacc fun j hj => ⟨(ht j hj).1, kp _ _ ?_ ?_ (nb j) (ht j hj).2⟩)
      · have := Fa.bz; exact show @Ne Nat (b + j) z by omega
      · have := Fa.bTO; exact show @Ne Nat (b + j) TO by omega
  | succ q ih =>
    intro i s acc c hq hi hst hS hacc hb ht hR
    have hlt : i < m := by omega
    refine codeAny_builtin F.entry_extend_loop ?_
    rw [Around.under_plainId F.plain_extend_loop _]
    show wpAny _ A.in1 (pyNext (.ref z) >>= _) _ _ s
    refine wpAny_bind (py_item D hst hn hl (hx i hlt) fun g Z1 T1 sz1 kp1 => ?_)
    have hS' := kp1 _ _ Fa.Sz Fa.STO Fa.Si hS
    show wpAny _ A.in1 (updateSeq S (·.push (.ref s.heap.objs.size)) >>= _) _ _ _
    refine wpAny_bind ?_
    refine wpAny_updateSeq (s := { s with heap := g }) hS' rfl (wpAny_pure ⟨plainId_quiet F.plain_extend_loop _, ih (i + 1) { s with heap := g.update S (Obj.mapSeq (·.push (.ref s.heap.objs.size))) } (acc.push (.ref s.heap.objs.size)) _ (by omega) hlt ?_ (Heap.get?_update_self _ hS' rfl) (by rw [Array.size_push, hacc]) ?_ ?_ ?_⟩)
      (by rw [hacc]; omega) (by show (acc.push (.ref s.heap.objs.size)).size ≤ sizeLine + 1; rw [Array.size_push, hacc]; omega)
    · have up : ∀ c o, c ≠ S → g.get? c = some o → (g.update S (Obj.mapSeq (·.push (.ref s.heap.objs.size)))).get? c = some o := fun c o ne e => (Heap.get?_update_other _ _ (Ne.symm ne)).trans e
      obtain ⟨⟨v, b0, a, gv⟩, ti, ⟨vs, hvs, to⟩, it, tp⟩ := Z1
      exact ⟨⟨v, b0, up _ _ Fa.Sz.symm a, gv⟩, up _ _ Fa.STI.symm ti, ⟨vs, hvs, up _ _ Fa.STO.symm to⟩, fun r hr => (it r hr).at fun o e => up _ o (fun z => Fa.Si (z ▸ List.mem_map.mpr ⟨r, hr, rfl⟩)) e, fun r hr => (tp r hr).at fun o e => up _ o (Fa.Sl r hr) e⟩
    · show b + (i + 1) = (g.update S _).objs.size
      rw [Heap.size_after_update, sz1, ← hb]; omega
    · intro j hj
      have bS := Fa.bS
      have bz := Fa.bz
      have bTO := Fa.bTO
      have up : ∀ c o, c ≠ S → g.get? c = some o → (g.update S (Obj.mapSeq (·.push (.ref s.heap.objs.size)))).get? c = some o := fun c o ne e => (Heap.get?_update_other _ _ (Ne.symm ne)).trans e
      rcases Nat.lt_or_ge j i with c1 | c1
      · obtain ⟨t1, t2⟩ := ht j c1
        refine ⟨?_, up _ _ (show @Ne Nat (b + j) S by omega) (kp1 _ _ (show @Ne Nat (b + j) z by omega) (show @Ne Nat (b + j) TO by omega) (nb j) t2)⟩
        rw [Array.getElem?_push, if_neg (by omega)]
        exact t1
      · have : j = i := by omega
        subst this
        refine ⟨?_, up _ _ (show @Ne Nat (b + j) S by omega) (by rw [hb]; exact T1)⟩
        rw [Array.getElem?_push, if_pos (by omega), hb]
    · intro g2 acc' c' kp2 s2 l2 t2
      refine hR g2 acc' c' (fun c o c1 c2 c3 c4 e => kp2 c o c1 c2 c3 c4 ?_) s2 l2 t2
      exact (Heap.get?_update_other _ _ (Ne.symm c1)).trans (kp1 c o c2 c3 c4 e)
end
end DLN
set_option Elab.async false
set_option linter.all false
set_option maxRecDepth 100000
set_option maxHeartbeats 1000000
namespace DLN
open PySem DLZ
open PySem.Sem (wp)
theorem tc_zip (args : List Value) : checkTypeCall "zip" ⟨args, []⟩ = pure () := by kernel_rfl
theorem ao_obj (obj : Value) (args : List Value) : argsOk "object.__init__" ⟨obj :: args, []⟩ := by unfold argsOk; kernel_rfl
theorem nc_zip : ∀ args : List Value, args.length ≤ 8 → checkBuiltinCall "zip.__new__" ⟨.type "zip" :: args, []⟩ = pure ()
  | [], _ => by kernel_rfl
  | [_], _ => by kernel_rfl
  | [_, _], _ => by kernel_rfl
  | [_, _, _], _ => by kernel_rfl
  | [_, _, _, _], _ => by kernel_rfl
  | [_, _, _, _, _], _ => by kernel_rfl
  | [_, _, _, _, _, _], _ => by kernel_rfl
  | [_, _, _, _, _, _, _], _ => by kernel_rfl
  | [_, _, _, _, _, _, _, _], _ => by kernel_rfl
  | _ :: _ :: _ :: _ :: _ :: _ :: _ :: _ :: _ :: _, h => by simp at h
theorem zip_no_len : typeLookup (.type "zip") "__len__" = pure none := by rw [typeLookup_type, builtinLookup_eq_fast]; kernel_rfl
theorem zip_no_hint : typeLookup (.type "zip") "__length_hint__" = pure none := by rw [typeLookup_type, builtinLookup_eq_fast]; kernel_rfl
theorem zip_class (args : List Value) : Builtin.SmallTypes.newClass "zip" ⟨.type "zip" :: args, []⟩ = pure (.type "zip", args) := by
  unfold Builtin.SmallTypes.newClass
  simp only [isType, sub_zip, pure_bind, Bool.not_true, Bool.false_eq_true, if_false]
/-! ### the iterators, the zip -/
def itO (l : Addr) : Obj := { cls := .type "tuple_iterator", data := .fields #[.ref l, .int 0 0] }
def itsH (h : Heap) : List Addr → Heap
  | [] => h
  | l :: ls => itsH (h.push (itO l)) ls
theorem itsH_size : ∀ {ls : List Addr} {h : Heap}, (itsH h ls).objs.size = h.objs.size + ls.length
  | [], h => rfl
  | l :: ls, h => by rw [itsH, itsH_size, Heap.size_push, List.length_cons]; omega
theorem itsH_keep : ∀ {ls : List Addr} {h : Heap} {c : Addr} {o : Obj}, h.get? c = some o → (itsH h ls).get? c = some o
  | [], _, _, _, e => e
  | l :: ls, _, _, _, e => itsH_keep (ls := ls) (Heap.get?_push_of_some _ e)
theorem itsH_at : ∀ {ls : List Addr} {h : Heap} {j : Nat} {l : Addr}, ls[j]? = some l → (itsH h ls).get? (h.objs.size + j) = some (itO l)
  | l :: ls, h, 0, _, e => by
    cases e
    exact itsH_keep (ls := ls) (Heap.get?_push_size h (o := itO l) rfl)
  | l :: ls, h, j + 1, l', e => by
    have := itsH_at (ls := ls) (h := h.push (itO l)) (j := j) (l := l') (by simpa using e)
    rw [Heap.size_push] at this
    rw [show h.objs.size + (j + 1) = h.objs.size + 1 + j by omega]
    exact this
theorem itsH_snoc : ∀ {ls : List Addr} {h : Heap} {l : Addr}, itsH h (ls ++ [l]) = (itsH h ls).push (itO l)
  | [], _, _ => rfl
  | a :: ls, h, l => itsH_snoc (ls := ls) (h := h.push (itO a))
def refs (b n : Nat) : List Value := (List.range n).map fun j => .ref (b + j)
theorem refs_snoc {b n : Nat} : refs b (n + 1) = refs b n ++ [.ref (b + n)] := by simp [refs, List.range_succ]
def zH1 (h : Heap) (ls : List Addr) : Heap := (itsH h ls).push { cls := .type "tuple", data := .seq (refs h.objs.size ls.length).toArray }
def zH2 (h : Heap) (ls : List Addr) : Heap := (zH1 h ls).push { cls := .type "tuple", data := .seq ((refs h.objs.size ls.length).map fun _ => Value.none).toArray }
def zH3 (h : Heap) (ls : List Addr) : Heap := (zH2 h ls).push { cls := .type "zip", data := .fields #[.none, .bool false, .bool false, .ref (itsH h ls).objs.size, .ref (zH1 h ls).objs.size] }
theorem zip_new {ls : List Addr} (hl : ls.length ≤ 8) : Meets (Builtin.«zip.__new__» ⟨.type "zip" :: ls.map .ref, []⟩) (fun _ R s => (∀ l ∈ ls, ∃ xs, s.heap.IsTuple l xs) ∧ R (.ok (.ret (.ref (zH2 s.heap ls).objs.size))) { s with heap := zH3 s.heap ls }) :=
  .of_wp fun prog w A R s h => by
    obtain ⟨h1, h⟩ := h
    unfold Builtin.«zip.__new__»
    refine wpAny_bind (wpAny_of_eq (zip_class _) ?_)
    try dsimp only
    rw [if_neg (show ¬ (([] : List (Str × Value)).length > 1) from by decide)]
    refine wpAny_bind ?_
    unfold Builtin.SmallTypes.iterAll
    refine wpAny_bind ?_
    refine wpAny_forIn_list _ (fun rest b s' => ∃ pre post, ls = pre ++ post ∧ rest = post.map Value.ref ∧ b = (refs s.heap.objs.size pre.length).toArray ∧ s' = { s with heap := itsH s.heap pre }) _ ?_ ?_ _ _ ⟨[], ls, rfl, rfl, rfl, rfl⟩
    · rintro u rest b s1 ⟨pre, post, e, e1, rfl, rfl⟩
      cases post with
      | nil => cases e1
      | cons l post =>
        rw [List.map_cons] at e1
        obtain ⟨rfl, rfl⟩ := List.cons.inj e1
        obtain ⟨xs, hxs⟩ := h1 l (by rw [e]; simp)
        refine wpAny_bind (wpAny_holding (wpAny_pyIter_tuple (hxs.at fun o e => itsH_keep e) (wpAny_pure ⟨pre ++ [l], post, by rw [e]; simp, rfl, ?_, ?_⟩)))
        · show (refs _ _).toArray.push _ = _
          rw [List.length_append, List.length_singleton, refs_snoc, itsH_size]
          simp
        · show _ = ({ s with heap := itsH s.heap (pre ++ [l]) } : Shared)
          rw [itsH_snoc]; rfl
    · rintro b s1 ⟨pre, post, e, e1, rfl, rfl⟩
      have : post = [] := by
        cases post with
        | nil => rfl
        | cons l post => cases e1
      subst this
      rw [List.append_nil] at e
      subst e
      have lr : (refs s.heap.objs.size ls.length).length = ls.length := by simp [refs]
      have e16 : sizeLine = 16777216 := sizeLine_eq
      refine wpAny_pure ?_
      show wpAny _ _ (newTuple (refs s.heap.objs.size ls.length) >>= _) _ _ _
      refine wpAny_bind (wpAny_newTuple ?_ (by rw [lr]; omega))
      refine wpAny_bind (wpAny_newTuple ?_ (by simp; omega))
      show wpAny _ _ (newObj (.type "zip") (.fields #[.none, .bool false, .bool false, .ref (itsH s.heap ls).objs.size, .ref (zH1 s.heap ls).objs.size]) >>= _) _ _ _
      refine wpAny_bind (wpAny_newObj_type ?_)
      exact wpAny_pure ⟨_, rfl, h⟩
section
variable {prog : Program} {w : World} {A : Around} {E : Value → Shared → Prop} {s : Shared}
theorem call_zipN {ls : List Addr} {Q : Value → Shared → Prop} (hl : ls.length ≤ 8) (ht : ∀ l ∈ ls, ∃ xs, s.heap.IsTuple l xs)
    (h : ∀ g, IsZip g (s.heap.objs.size + ls.length + 2) (s.heap.objs.size + ls.length) (s.heap.objs.size + ls.length + 1) .none → TupAt g (s.heap.objs.size + ls.length) (refs s.heap.objs.size ls.length) →
      (∃ vs : List Value, vs.length = ls.length ∧ TupAt g (s.heap.objs.size + ls.length + 1) vs) → (∀ j l, ls[j]? = some l → g.IsTupleIter (s.heap.objs.size + j) l 0) → g.objs.size = s.heap.objs.size + ls.length + 3 →
      (∀ c o, s.heap.get? c = some o → g.get? c = some o) → Q (.ref (s.heap.objs.size + ls.length + 2)) { s with heap := g }) :
    wpAny (model prog w) A (call (.type "zip") (ls.map .ref)) Q E s := by
  refine callType_new F.called_zip (by decide) (tc_zip _) (nc_zip _ (by rw [List.length_map]; exact hl)) (fun obj => ao_obj obj _) F.entry_zip_new (zip_new hl) ⟨ht, ?_⟩
  have z0 : (itsH s.heap ls).objs.size = s.heap.objs.size + ls.length := itsH_size
  have z1 : (zH1 s.heap ls).objs.size = s.heap.objs.size + ls.length + 1 := by rw [zH1, Heap.size_push, z0]
  have z2 : (zH2 s.heap ls).objs.size = s.heap.objs.size + ls.length + 2 := by rw [zH2, Heap.size_push, z1]
  have z3 : (zH3 s.heap ls).objs.size = s.heap.objs.size + ls.length + 3 := by rw [zH3, Heap.size_push, z2]
  have up : ∀ {c o}, (itsH s.heap ls).get? c = some o → (zH3 s.heap ls).get? c = some o := fun e => Heap.get?_push_of_some _ (Heap.get?_push_of_some _ (Heap.get?_push_of_some _ e))
  have gz : (zH3 s.heap ls).get? (zH2 s.heap ls).objs.size = some _ := Heap.get?_push_size _ rfl
  have gO : (zH3 s.heap ls).get? (zH1 s.heap ls).objs.size = some _ := Heap.get?_push_of_some _ (Heap.get?_push_size _ rfl)
  have gI : (zH3 s.heap ls).get? (itsH s.heap ls).objs.size = some _ := Heap.get?_push_of_some _ (Heap.get?_push_of_some _ (Heap.get?_push_size _ rfl))
  rw [z2, z0, z1] at gz
  rw [z1] at gO
  rw [z0] at gI
  show _ ∧ _
  rw [z2]
  exact ⟨⟨_, gz, rfl⟩, h _ gz gI ⟨_, by simp [refs], gO⟩ (fun j l e => ⟨_, up (itsH_at e), rfl, rfl⟩) z3 fun c o e => up (itsH_keep e)⟩
theorem ext_zipN {R : Result → Shared → Prop} {z TI TO S b m : Nat} {rs : List Row3} {x : Nat → Row3 → Value} (hh : A.handled = none) (D : Apart z TI TO rs) (Fa : Far z TI TO S b rs) (hn : rs ≠ []) (hl : rs.length ≤ 1000) (hm : m ≤ 1000) (hx : ∀ j, j < m → ∀ r ∈ rs, r.xs[j]? = some (x j r)) (hend : ∀ r ∈ rs, r.xs[m]? = none) (res : Value) (c₀ : Nat)
    (hz : IsZip s.heap z TI TO .none) (hst : ZN s.heap z TI TO rs 0) (hS : s.heap.get? S = some { cls := .type "list", data := .seq #[] c₀ }) (hb : b = s.heap.objs.size)
    (hR : ∀ g acc' c', (∀ c o, c ≠ S → c ≠ z → c ≠ TO → c ∉ rs.map (·.i) → s.heap.get? c = some o → g.get? c = some o) → g.get? S = some { cls := .type "list", dict := none, data := .seq acc' c', slots := #[] } → acc'.size = m →
        (∀ j, j < m → acc'[j]? = some (.ref (b + j)) ∧ TupAt g (b + j) (rs.map (x j))) → R (.ok (.ret res)) { s with heap := g }) :
    wpAny (model prog w) A.in1 (Builtin.List.listExtendWith (.ref S) (.ref z) res)
      (fun fin s' => match fin with | .done f => R (.ok f) s' | .again c' => c'.quiet = true ∧ codeAny (model prog w) A c' R s') (fun e s' => R (.error e) s') s := by
  have hT : s.TypeIs (.ref z) "zip" := ⟨_, hz, rfl⟩
  unfold Builtin.List.listExtendWith
  refine wpAny_bind (wpAny_typeOf hT ?_)
  have h1 : Builtin.List.listSameRef (.ref S) (.ref z) = false := by simp [Builtin.List.listSameRef, Fa.Sz]
  have h2 : (Value.type "zip" == Value.type "list") = false := by decide
  have h3 : (Value.type "zip" == Value.type "tuple") = false := by decide
  simp only [h1, h2, h3, Bool.or_false, Bool.false_eq_true, if_false]
  refine wpAny_bind (wpAny_pyIter_zip hz ?_)
  refine wpAny_bind (wpAny_holding ?_)
  unfold Builtin.List.listLengthHint
  refine wpAny_bind (wpAny_specialOf hT zip_no_len ?_)
  show wpAny _ A.in1 (specialOf (Value.ref z) (Str.ofString "__length_hint__") >>= _) _ _ _
  refine wpAny_bind (wpAny_specialOf hT zip_no_hint ?_)
  refine wpAny_pure ?_
  show wpAny _ A.in1 (rule "list.extend.makes-room" >>= fun _ => Builtin.List.listTouch (.ref S) >>= fun _ =>
    again (.builtin "list.extend.loop" ⟨[.ref S, .ref z, res], []⟩)) _ _ _
  refine wpAny_bind (wpAny_rule ?_)
  refine wpAny_bind ?_
  show wpAny _ A.in1 (updateSeq S (·.push .none) >>= fun _ => updateSeq S (·.pop)) _ _ _
  refine wpAny_bind (wpAny_updateSeq hS rfl ?_)
  have hS₂ := Heap.get?_update_self (Obj.mapSeq (·.push Value.none)) hS rfl
  refine wpAny_updateSeq (hz := by seq_fits) hS₂ rfl ?_
  have hS₃ := Heap.get?_update_self (Obj.mapSeq (·.pop)) hS₂ rfl
  have oth : ∀ b o, b ≠ S → s.heap.get? b = some o → ((s.heap.update S (Obj.mapSeq (·.push Value.none))).update S (Obj.mapSeq (·.pop))).get? b = some o :=
    fun b o hb e => (Heap.get?_update_other _ _ (Ne.symm hb)).trans ((Heap.get?_update_other _ _ (Ne.symm hb)).trans e)
  have Z0 : ZN ((s.heap.update S (Obj.mapSeq (·.push Value.none))).update S (Obj.mapSeq (·.pop))) z TI TO rs 0 := by
    obtain ⟨⟨v, b0, a, gv⟩, ti, ⟨vs, hvs, to⟩, it, tp⟩ := hst
    exact ⟨⟨v, b0, oth _ _ Fa.Sz.symm a, gv⟩, oth _ _ Fa.STI.symm ti, ⟨vs, hvs, oth _ _ Fa.STO.symm to⟩, fun r hr => (it r hr).at fun o e => oth _ o (fun z => Fa.Si (z ▸ List.mem_map.mpr ⟨r, hr, rfl⟩)) e, fun r hr => (tp r hr).at fun o e => oth _ o (Fa.Sl r hr) e⟩
  refine wpAny_pure ⟨plainId_quiet F.plain_extend_loop _, loop_zipN hh D Fa hn hl hm hx hend res m 0 _ _ _ (Nat.sub_zero m) (Nat.zero_le _) Z0 hS₃ rfl ?_ (fun j hj => absurd hj (Nat.not_lt_zero _)) fun g acc' c' kp s2 l2 t2 => ?_⟩
  · show b + 0 = ((s.heap.update S _).update S _).objs.size
    rw [Heap.size_after_update, Heap.size_after_update, hb]; rfl
  · exact hR g acc' c' (fun c o c1 c2 c3 c4 e => kp c o c1 c2 c3 c4 (oth _ _ c1 e)) s2 l2 t2
theorem call_list_zipN {Q : Value → Shared → Prop} {z TI TO m : Nat} {rs : List Row3} {x : Nat → Row3 → Value} (hh : A.handled = none) (D : Apart z TI TO rs) (hn : rs ≠ []) (hl : rs.length ≤ 1000) (hm : m ≤ 1000) (hx : ∀ j, j < m → ∀ r ∈ rs, r.xs[j]? = some (x j r)) (hend : ∀ r ∈ rs, r.xs[m]? = none)
    (hz : IsZip s.heap z TI TO .none) (hst : ZN s.heap z TI TO rs 0)
    (hQ : ∀ g acc' c', (∀ c o, c ≠ z → c ≠ TO → c ∉ rs.map (·.i) → s.heap.get? c = some o → g.get? c = some o) → g.get? s.heap.objs.size = some { cls := .type "list", dict := none, data := .seq acc' c', slots := #[] } → acc'.size = m →
        (∀ j, j < m → acc'[j]? = some (.ref (s.heap.objs.size + 1 + j)) ∧ TupAt g (s.heap.objs.size + 1 + j) (rs.map (x j))) → Q (.ref s.heap.objs.size) { s with heap := g }) :
    wpAny (model prog w) A (call (.type "list") [.ref z]) Q E s := by
  have lz : z < s.heap.objs.size := Heap.lt_size hz
  have lTI : TI < s.heap.objs.size := Heap.lt_size hst.ti
  have lTO : TO < s.heap.objs.size := by
    obtain ⟨vs, _, h⟩ := hst.to
    exact Heap.lt_size h
  have li : ∀ r ∈ rs, @LT.lt Nat _ r.i s.heap.objs.size := fun r hr => by
    obtain ⟨o, h, _⟩ := hst.it r hr
    exact Heap.lt_size h
  have ll : ∀ r ∈ rs, @LT.lt Nat _ r.l s.heap.objs.size := fun r hr => by
    obtain ⟨o, h, _⟩ := hst.tp r hr
    exact Heap.lt_size h
  have Fa : Far z TI TO s.heap.objs.size (s.heap.objs.size + 1) rs := ⟨Nat.ne_of_gt lz, Nat.ne_of_gt lTI, Nat.ne_of_gt lTO, fun h => by
    obtain ⟨r, hr, e⟩ := List.mem_map.mp h
    exact absurd e (Nat.ne_of_lt (li r hr)), fun r hr => Nat.ne_of_lt (ll r hr), Nat.lt_succ_self _, Nat.lt_succ_of_lt lz, Nat.lt_succ_of_lt lTO, fun r hr => Nat.lt_succ_of_lt (li r hr)⟩
  refine callType_codes (Q₁ := fun obj s₁ => obj = .ref s.heap.objs.size ∧ s₁ = { s with heap := s.heap.push { cls := .type "list", data := .seq #[] } }) F.called_list (F.typeCall_list_1 _) F.entry_list_init
    (code_list_new _ ⟨rfl, rfl⟩) fun obj s₁ h₁ => ?_
  obtain ⟨rfl, rfl⟩ := h₁
  have hS : (s.heap.push { cls := .type "list", data := .seq #[] }).get? s.heap.objs.size = some { cls := .type "list", data := .seq #[] } := Heap.get?_push_size _ rfl
  refine ⟨⟨_, hS, rfl⟩, F.args_list_init_2 _ _, ?_⟩
  show wpAny _ A.in1.in1 (do let old ← Builtin.List.listItems (.ref s.heap.objs.size); Builtin.List.listUpdate (.ref s.heap.objs.size) (fun _ => #[]); letGo old.toList.reverse; Builtin.List.listExtendWith (.ref s.heap.objs.size) (.ref z) .none) _ _ _
  refine wpAny_bind ?_
  unfold Builtin.List.listItems
  refine wpAny_bind (wpAny_seqItems hS rfl (wpAny_pure ?_))
  show wpAny _ A.in1.in1 (updateSeq s.heap.objs.size (fun _ => #[]) >>= fun _ => letGo (#[] : Array Value).toList.reverse >>= fun _ => Builtin.List.listExtendWith (.ref s.heap.objs.size) (.ref z) .none) _ _ _
  refine wpAny_bind (wpAny_updateSeq hS rfl ?_)
  have hS₂ := Heap.get?_update_self (Obj.mapSeq (fun _ => (#[] : Array Value))) hS rfl
  have oth : ∀ b o, b ≠ s.heap.objs.size → s.heap.get? b = some o → ((s.heap.push { cls := .type "list", data := .seq #[] }).update s.heap.objs.size (Obj.mapSeq (fun _ => (#[] : Array Value)))).get? b = some o :=
    fun b o hb e => (Heap.get?_update_other _ _ (Ne.symm hb)).trans (Heap.get?_push_of_some _ e)
  refine wpAny_bind (wpAny_letGo ?_)
  have Z0 : ZN ((s.heap.push { cls := .type "list", data := .seq #[] }).update s.heap.objs.size (Obj.mapSeq (fun _ => (#[] : Array Value)))) z TI TO rs 0 := by
    obtain ⟨⟨v, b0, a, gv⟩, ti, ⟨vs, hvs, to⟩, it, tp⟩ := hst
    exact ⟨⟨v, b0, oth _ _ Fa.Sz.symm a, gv⟩, oth _ _ Fa.STI.symm ti, ⟨vs, hvs, oth _ _ Fa.STO.symm to⟩, fun r hr => (it r hr).at fun o e => oth _ o (fun z => Fa.Si (z ▸ List.mem_map.mpr ⟨r, hr, rfl⟩)) e, fun r hr => (tp r hr).at fun o e => oth _ o (Fa.Sl r hr) e⟩
  refine ext_zipN (A := A.in1) (s := { s with heap := (s.heap.push { cls := .type "list", data := .seq #[] }).update s.heap.objs.size (Obj.mapSeq (fun _ => (#[] : Array Value))) }) hh D Fa hn hl hm hx hend .none _ (oth _ _ Fa.Sz.symm hz) Z0 hS₂ ?_ fun g acc' c' kp s2 l2 t2 => ?_
  · show _ = ((s.heap.push _).update _ _).objs.size
    rw [Heap.size_after_update, Heap.size_push]
  · refine ⟨rfl, hQ g acc' c' (fun c o c2 c3 c4 e => ?_) s2 l2 t2⟩
    have lc : c < s.heap.objs.size := Heap.lt_size e
    exact kp c o (Nat.ne_of_lt lc) c2 c3 c4 (oth _ _ (Nat.ne_of_lt lc) e)
end
end DLN
set_option Elab.async false
set_option linter.all false
set_option maxRecDepth 100000
set_option maxHeartbeats 1000000
namespace DL
open PySem PySem.Spec PyProof.Rows L2
/-! ### many objects tracked at once -/
def updAll (H : Hp) : List (Addr × HO) → Hp
  | [] => H
  | p :: l => upd (updAll H l) p.1 p.2
theorem updAll_ne {H : Hp} : ∀ {l : List (Addr × HO)} {a : Addr}, a ∉ l.map (·.1) → updAll H l a = H a
  | [], _, _ => rfl
  | p :: l, a, h => by
    rw [List.map_cons, List.mem_cons, not_or] at h
    show upd (updAll H l) p.1 p.2 a = _
    rw [upd_ne h.1, updAll_ne h.2]
theorem updAll_at {H : Hp} : ∀ {l : List (Addr × HO)} {p : Addr × HO}, (l.map (·.1)).Nodup → p ∈ l → updAll H l p.1 = some p.2
  | q :: l, p, nd, h => by
    rw [List.map_cons, List.nodup_cons] at nd
    rcases List.mem_cons.mp h with rfl | h
    · exact upd_same
    · show upd (updAll H l) q.1 q.2 p.1 = _
      have : p.1 ≠ q.1 := fun e => nd.1 (e ▸ List.mem_map.mpr ⟨p, h, rfl⟩)
      rw [upd_ne this, updAll_at nd.2 h]
theorem inv_all {X : Cx} {pins : List (Addr × Obj)} {σ : L2.St} {H : Hp} {s : Shared} {g : Heap} (I : Inv X pins σ H s) (k : ∀ b u, s.heap.get? b = some u → g.get? b = some u) (l : List (Addr × HO)) (nd : (l.map (·.1)).Nodup)
    (h : ∀ p ∈ l, s.heap.objs.size ≤ p.1 ∧ ∀ H' h', h'.get? p.1 = g.get? p.1 → ObjOk X.prog X.w H' h' p.1 p.2) : Inv X pins σ (updAll H l) { s with heap := g } := by
  have key : ∀ l : List (Addr × HO), (l.map (·.1)).Nodup → (∀ p ∈ l, s.heap.objs.size ≤ p.1 ∧ ∀ H' h', h'.get? p.1 = g.get? p.1 → ObjOk X.prog X.w H' h' p.1 p.2) →
      ∃ G : Heap, (∀ b, (b < s.heap.objs.size ∨ b ∈ l.map (·.1)) → G.get? b = g.get? b) ∧ (∀ b, ¬ (b < s.heap.objs.size ∨ b ∈ l.map (·.1)) → G.get? b = none) ∧ Inv X pins σ (updAll H l) { s with heap := G } := by
    intro l
    induction l with
    | nil =>
      intro _ _
      obtain ⟨G, g1, g2⟩ := restrict g fun b => decide (b < s.heap.objs.size)
      refine ⟨G, fun b hb => g1 b (by simpa using hb), fun b hb => g2 b (by simpa using hb), I.kept (t' := s.toks) fun b u e => ?_⟩
      rw [g1 b (decide_eq_true (Heap.lt_size e))]
      exact k b u e
    | cons p l ih =>
      intro nd h
      rw [List.map_cons, List.nodup_cons] at nd
      obtain ⟨G, a1, a2, J⟩ := ih nd.2 fun q hq => h q (List.mem_cons_of_mem _ hq)
      obtain ⟨G', g1, g2⟩ := restrict g fun b => decide (b < s.heap.objs.size ∨ b ∈ (p :: l).map (·.1))
      obtain ⟨h1, h2⟩ := h p List.mem_cons_self
      refine ⟨G', fun b hb => g1 b (decide_eq_true hb), fun b hb => g2 b (decide_eq_false hb), J.laidN (t' := s.toks) (fun b u e => ?_) ?_ ?_ (h2 _ _ (g1 p.1 (decide_eq_true (.inr (by simp)))))⟩
      · by_cases c : b < s.heap.objs.size ∨ b ∈ l.map (·.1)
        · rw [g1 b (decide_eq_true (c.imp id fun z => List.mem_cons_of_mem _ z)), ← a1 b c]
          exact e
        · have e : G.get? b = some u := e
          rw [a2 b c] at e; cases e
      · exact a2 p.1 fun z => z.elim (fun z => Nat.not_lt.mpr h1 z) nd.1
      · rw [updAll_ne nd.1]
        exact I.hok.fresh h1
  obtain ⟨G, a1, a2, J⟩ := key l nd h
  exact J.kept (t' := s.toks) fun b u e => by
    by_cases c : b < s.heap.objs.size ∨ b ∈ l.map (·.1)
    · rw [← a1 b c]; exact e
    · have e : G.get? b = some u := e
      rw [a2 b c] at e; cases e
theorem vals_map {α : Type} {f : α → V} {g : α → Value} : ∀ {l : List α}, (∀ i ∈ l, RelV (f i) (g i)) → Vals (l.map f) (l.map g)
  | [], _ => .nil
  | a :: l, h => .cons (h a List.mem_cons_self) (vals_map fun i m => h i (List.mem_cons_of_mem _ m))
theorem vals_refs {vs : List Addr} {us : List Value} (h : Vals (vs.map V.ref) us) : us = vs.map Value.ref := by
  induction vs generalizing us with
  | nil => cases h; rfl
  | cons a vs ih =>
    cases h with
    | cons r h => rw [ih h]; cases r; rfl
/-- the columns of some rows, laid one behind the other -/
def colV (rows : List (List V)) (j : Nat) : List V := (List.range rows.length).map fun i => ((rows[i]?.getD [])[j]?).getD .non
def colsL (b m : Nat) (rows : List (List V)) : List (Addr × HO) := (List.range m).map fun j => (b + j, .tup (colV rows j))
def tZipS (K : Fg) (te : TE) : TE := fun σ H Q => te σ H fun v H1 => ∃ (a : Addr) (cs : List Addr) (rows : List (List V)) (m : Nat), v = .ref a ∧ SqT K H1 a (cs.map .ref) ∧ cs.length = rows.length ∧
  (∀ (j : Nat) (c : Addr) (ys : List V), cs[j]? = some c → rows[j]? = some ys → SqT K H1 c ys ∧ ys.length = m) ∧ 1 ≤ rows.length ∧ rows.length ≤ 8 ∧ m ≤ 1000 ∧
  ∀ (S b : Nat), H1 S = none → (∀ j, j < m → H1 (b + j) = none) → S < b → Q (.ref S) (upd (updAll H1 (colsL b m rows)) S (.lst ((List.range m).map fun j => .ref (b + j))))
theorem cols_nd (b m : Nat) (rows : List (List V)) : ((colsL b m rows).map (·.1)).Nodup := by
  unfold colsL
  rw [List.map_map]
  exact List.pairwise_map.mpr (List.nodup_range.imp fun {a c} ne (e : b + a = b + c) => ne (by omega))
theorem cols_mem {b m : Nat} {rows : List (List V)} {p : Addr × HO} : p ∈ colsL b m rows ↔ ∃ j, j < m ∧ p = (b + j, .tup (colV rows j)) := by
  unfold colsL
  rw [List.mem_map]
  exact ⟨fun ⟨j, h, e⟩ => ⟨j, List.mem_range.mp h, e.symm⟩, fun ⟨j, h, e⟩ => ⟨j, List.mem_range.mpr h, e.symm⟩⟩
theorem cols_fst {b m : Nat} {rows : List (List V)} {c : Addr} : c ∈ (colsL b m rows).map (·.1) ↔ ∃ j, j < m ∧ c = b + j := by
  rw [List.mem_map]
  constructor
  · rintro ⟨p, hp, rfl⟩
    obtain ⟨j, hj, rfl⟩ := cols_mem.mp hp
    exact ⟨j, hj, rfl⟩
  · rintro ⟨j, hj, rfl⟩
    exact ⟨_, cols_mem.mpr ⟨j, hj, rfl⟩, rfl⟩
open DLN in
theorem pe_zipS {X : Cx} {e : Expr} {te : TE} {p pos p2 pos2 sp : Pos} (hc : X.calm = true) (hg : Gl X "list") (hm : X.mg "list" = none) (hgz : Gl X "zip") (hmz : X.mg "zip" = none) (he : PE X e te)
    (hsE : starEach [.Call (.Name "zip" p2) [.Starred e sp] [] pos2] X.env = [(false, eval (.Call (.Name "zip" p2) [.Starred e sp] [] pos2) X.env)] := by rfl)
    (hst : starEach [.Starred e sp] X.env = [(true, eval e X.env)] := by rfl) :
    PE X (.Call (.Name "list" p) [.Call (.Name "zip" p2) [.Starred e sp] [] pos2] [] pos) (tZipS X.K te) := by
  refine ⟨fun pins s σ H Q I h => ?_⟩
  refine Call_ (ld_blt I hg hm PyProof.Rows.boot_list (PyProof.Rows.callWith_type1 ?_ hsE rfl))
  rw [hsE]
  refine Calls.spliced_cons (Call_ (ld_blt I hgz hmz PyProof.Rows.boot_zip ?_))
  rw [hst]
  refine PySem.W.ks_call (P := fun _ => True) rfl (fun h _ => ⟨.machine, .inr (.inl rfl), PySem.W.Looks.of_pure rfl⟩) (PySem.W.ks_lone (thn (he.run pins s σ H _ I h) fun v s1 ⟨y, H1, I1, ry, a, cs, rows, m, ey, hsq, hlen, hrow, n1, n8, m1, q⟩ => ?_))
  subst ey
  obtain rfl : v = Value.ref a := ry
  refine StX.star_any I1 (.inl hsq) fun us s2 I2 rv => ⟨trivial, ?_⟩
  obtain rfl := vals_refs rv
  show wpAny (model X.prog X.w) X.A (call (.type "zip") (cs.map Value.ref)) _ _ s2
  have sk : ∀ j : Nat, ∃ xs : List Value, ∀ c ys, cs[j]? = some c → rows[j]? = some ys → Vals ys xs ∧ s2.heap.IsTuple c xs.toArray ∧ ys.length = m := fun j => by
    cases hc : cs[j]? with
    | none => exact ⟨[], fun c ys z => nomatch z⟩
    | some c =>
      have hj : j < rows.length := hlen ▸ (List.getElem?_eq_some_iff.mp hc).1
      obtain ⟨h1, h2⟩ := hrow j c rows[j] hc (List.getElem?_eq_getElem hj)
      obtain ⟨its, r, pt, _⟩ := I2.tuple h1
      exact ⟨its, fun c' ys e1 e2 => by
        cases e1
        rw [List.getElem?_eq_getElem hj] at e2
        cases e2
        exact ⟨r, pt, h2⟩⟩
  obtain ⟨f, hf⟩ := Classical.skolem.mp sk
  have rowAt : ∀ j, j < cs.length → ∃ c ys, cs[j]? = some c ∧ rows[j]? = some ys ∧ Vals ys (f j) ∧ s2.heap.IsTuple c (f j).toArray ∧ ys.length = m := fun j hj => by
    have hj' : j < rows.length := hlen ▸ hj
    have := hf j _ _ (List.getElem?_eq_getElem hj) (List.getElem?_eq_getElem hj')
    exact ⟨_, _, List.getElem?_eq_getElem hj, List.getElem?_eq_getElem hj', this⟩
  refine call_zipN (by omega) (fun l hl => ?_) fun g hz hTI hTO hit hsz hk => ?_
  · obtain ⟨j, hj, rfl⟩ := List.mem_iff_getElem.mp hl
    obtain ⟨c, ys, e1, _, _, t, _⟩ := rowAt j hj
    rw [List.getElem?_eq_getElem hj] at e1
    cases e1
    exact ⟨_, t⟩
  refine Calls.spliced_nil ?_
  have I3 : Inv X pins σ H1 { s2 with heap := g } := I2.kept (t' := s2.toks) hk
  generalize hB : s2.heap.objs.size = B at hz hTI hTO hit hsz
  let rs : List DLN.Row3 := (List.range cs.length).map fun j => ⟨B + j, cs[j]?.getD 0, (f j).toArray⟩
  have rmem : ∀ {r}, r ∈ rs → ∃ j, j < cs.length ∧ r = ⟨B + j, cs[j]?.getD 0, (f j).toArray⟩ := fun {r} hr => by
    obtain ⟨j, hj, e⟩ := List.mem_map.mp hr
    exact ⟨j, List.mem_range.mp hj, e.symm⟩
  have rlen : rs.length = cs.length := by show ((List.range _).map _).length = _; simp
  have ri : rs.map (·.i) = (List.range cs.length).map fun j => B + j := by show ((List.range _).map _).map _ = _; rw [List.map_map]; rfl
  have ltl : ∀ j, j < cs.length → @LT.lt Nat _ (cs[j]?.getD 0) B := fun j hj => by
    obtain ⟨c, ys, e1, _, _, ⟨o, ho, _⟩, _⟩ := rowAt j hj
    rw [e1, ← hB]
    exact Heap.lt_size ho
  have D : Apart (B + cs.length + 2) (B + cs.length) (B + cs.length + 1) rs := by
    refine ⟨show @Ne Nat _ _ by omega, show @Ne Nat _ _ by omega, show @Ne Nat _ _ by omega, ?_, fun r hr => ?_, fun r hr => ?_⟩
    · rw [ri]
      exact List.pairwise_map.mpr (List.nodup_range.imp fun {a c} ne (e : B + a = B + c) => ne (by omega))
    · obtain ⟨j, hj, rfl⟩ := rmem hr
      exact ⟨show @Ne Nat (B + j) _ by omega, show @Ne Nat (B + j) _ by omega, show @Ne Nat (B + j) _ by omega⟩
    · obtain ⟨j, hj, rfl⟩ := rmem hr
      have := ltl j hj
      refine ⟨show @Ne Nat (cs[j]?.getD 0) _ by omega, show @Ne Nat (cs[j]?.getD 0) _ by omega, fun q hq => ?_⟩
      obtain ⟨j', _, rfl⟩ := rmem hq
      exact show @Ne Nat (cs[j]?.getD 0) (B + j') by omega
  have Z : ZN g (B + cs.length + 2) (B + cs.length) (B + cs.length + 1) rs 0 := by
    refine ⟨⟨_, _, hz, .inl rfl⟩, ?_, ?_, fun r hr => ?_, fun r hr => ?_⟩
    · have : (rs.map fun r => Value.ref r.i) = refs B cs.length := by show ((List.range _).map _).map _ = _; rw [List.map_map]; rfl
      rw [this]; exact hTI
    · rw [rlen]; exact hTO
    · obtain ⟨j, hj, rfl⟩ := rmem hr
      exact hit j _ (by rw [List.getElem?_eq_getElem hj]; rfl)
    · obtain ⟨j, hj, rfl⟩ := rmem hr
      obtain ⟨c, ys, e1, _, _, t, _⟩ := rowAt j hj
      show g.IsTuple (cs[j]?.getD 0) (f j).toArray
      rw [e1]
      exact t.at fun o e => hk _ _ e
  have szr : ∀ r ∈ rs, r.xs.size = m := fun r hr => by
    obtain ⟨j, hj, rfl⟩ := rmem hr
    obtain ⟨c, ys, _, _, v1, _, h3⟩ := rowAt j hj
    have := v1.length
    show (f j).toArray.size = m
    rw [List.size_toArray]; omega
  refine call_list_zipN (s := { s2 with heap := g }) (m := m) (x := fun j r => r.xs[j]?.getD .none) (I2.ok.hd hc) D (fun z => ?_) (by omega) m1 (fun j hj r hr => ?_) (fun r hr => ?_) hz Z fun g2 acc c' kp hS hacc ht => ?_
  · have : rs.length = 0 := by rw [z]; rfl
    omega
  · have := szr r hr
    rw [Array.getElem?_eq_getElem (by omega)]; rfl
  · have := szr r hr
    exact Array.getElem?_eq_none (by omega)
  replace hsz : g.objs.size = B + cs.length + 3 := hsz
  have kold : ∀ b u, s2.heap.get? b = some u → g2.get? b = some u := fun b u e => by
    have lb : @LT.lt Nat _ b B := hB ▸ Heap.lt_size e
    refine kp b u (show @Ne Nat b _ by omega) (show @Ne Nat b _ by omega) (fun hb => ?_) (hk b u e)
    rw [ri] at hb
    obtain ⟨j, _, e'⟩ := List.mem_map.mp hb
    have e' : @Eq Nat (B + j) b := e'
    omega
  have eacc : acc.toList = (List.range m).map fun j => Value.ref (g.objs.size + 1 + j) := by
    apply List.ext_getElem?
    intro j
    by_cases hj : j < m
    · rw [Array.getElem?_toList, (ht j hj).1]
      simp [hj]
    · rw [List.getElem?_eq_none (by simpa [hacc] using hj), List.getElem?_eq_none (by simpa using hj)]
  refine ⟨.ref g.objs.size, _, inv_all I2 kold ((g.objs.size, .lst ((List.range m).map fun j => .ref (g.objs.size + 1 + j))) :: colsL (g.objs.size + 1) m rows) ?_ ?_, rfl, ?_⟩
  · rw [List.map_cons, List.nodup_cons]
    refine ⟨fun z => ?_, cols_nd _ _ _⟩
    obtain ⟨j, _, e⟩ := cols_fst.mp z
    have e : @Eq Nat g.objs.size (g.objs.size + 1 + j) := e
    omega
  · intro p hp
    rcases List.mem_cons.mp hp with rfl | hp
    · refine ⟨by show s2.heap.objs.size ≤ g.objs.size; omega, fun H' h' eh => ⟨by simp [sizeLine_eq]; omega, acc.toList, c', ?_, ?_⟩⟩
      · rw [eacc]
        exact vals_map fun j _ => rfl
      · rw [eh, hS]
    · obtain ⟨j, hj, rfl⟩ := cols_mem.mp hp
      refine ⟨by show s2.heap.objs.size ≤ g.objs.size + 1 + j; omega, fun H' h' eh => ⟨by simp [colV, sizeLine_eq]; omega, (List.range rows.length).map fun i => ((f i)[j]?).getD .none, vals_map fun i hi => ?_, ?_⟩⟩
      · obtain ⟨c, ys, e1, e2, v1, _, h3⟩ := rowAt i (hlen ▸ List.mem_range.mp hi)
        rw [e2]
        obtain ⟨u, hu, ru⟩ := v1.get (i := j) (x := ys[j]'(by omega)) (List.getElem?_eq_getElem _)
        rw [hu, Option.getD_some, List.getElem?_eq_getElem (by omega), Option.getD_some]
        exact ru
      · have := (ht j hj).2
        have e3 : (rs.map fun r => r.xs[j]?.getD .none) = (List.range rows.length).map fun i => ((f i)[j]?).getD .none := by
          show ((List.range _).map _).map _ = _
          rw [List.map_map, hlen]
          exact List.map_congr_left fun i _ => by simp
        have t2 : TupAt g2 (g.objs.size + 1 + j) ((List.range rows.length).map fun i => ((f i)[j]?).getD .none) := e3 ▸ this
        exact ⟨_, eh.trans t2, rfl, _, rfl⟩
  · exact q g.objs.size (g.objs.size + 1) (I2.hok.fresh (by show s2.heap.objs.size ≤ g.objs.size; omega)) (fun j hj => I2.hok.fresh (by show s2.heap.objs.size ≤ g.objs.size + 1 + j; omega)) (Nat.lt_succ_self _)
end DL
set_option Elab.async false
set_option linter.all false
set_option maxRecDepth 100000
set_option maxHeartbeats 1000000
namespace DL
open PySem PySem.Spec PyProof.Rows L2
section
variable {K : Fg} {H : Hp}
theorem rows_rep : ∀ {xs : List V} {rows : List (List D)}, RepAll K H xs (rows.map .tuple) → ∃ (cs : List Addr) (vs : List (List V)), xs = cs.map .ref ∧ cs.length = vs.length ∧ vs.length = rows.length ∧
    (∀ (j : Nat) (c : Addr) (ys : List V), cs[j]? = some c → vs[j]? = some ys → TupZ K H c ys) ∧ ∀ (j : Nat) (ys : List V) (r : List D), vs[j]? = some ys → rows[j]? = some r → RepAll K H ys r
  | xs, [], h => by
    cases h
    exact ⟨[], [], rfl, rfl, rfl, fun j c ys z => (by simp at z), fun j ys r z => (by simp at z)⟩
  | xs, r :: rows, h => by
    rw [List.map_cons] at h
    cases h with
    | cons h1 h2 =>
      obtain ⟨cs, vs, rfl, e1, e2, t1, t2⟩ := rows_rep h2
      cases h1 with
      | tup z q =>
        rename_i a ys
        refine ⟨a :: cs, ys :: vs, rfl, by simp [e1], by simp [e2], fun j c y1 a1 a2 => ?_, fun j y1 r1 a1 a2 => ?_⟩
        · cases j with
          | zero =>
            cases a1
            cases a2
            exact z
          | succ j => exact t1 j c y1 (by simpa using a1) (by simpa using a2)
        · cases j with
          | zero =>
            cases a1
            cases a2
            exact q
          | succ j => exact t2 j y1 r1 (by simpa using a1) (by simpa using a2)
theorem Env.allocs {Γ : Gam} {σ : Sl} {fp : List Addr} (h : Env K Γ σ H fp) : ∀ {l : List (Addr × HO)}, (l.map (·.1)).Nodup → (∀ p ∈ l, H p.1 = none) → Env K Γ σ (updAll H l) fp ∧ Fr fp fp H (updAll H l)
  | [], _, _ => ⟨h, Fr.refl⟩
  | p :: l, nd, hn => by
    rw [List.map_cons, List.nodup_cons] at nd
    obtain ⟨E1, f1⟩ := Env.allocs h nd.2 fun q hq => hn q (List.mem_cons_of_mem _ hq)
    have e : updAll H l p.1 = none := (updAll_ne nd.1).trans (hn p List.mem_cons_self)
    exact ⟨E1.alloc e, f1.trans (Fr.alloc0 e)⟩
theorem repAll_map {α : Type} {f : α → V} {g : α → D} : ∀ {l : List α}, (∀ i ∈ l, Rep K H (f i) (g i)) → RepAll K H (l.map f) (l.map g)
  | [], _ => .nil
  | a :: l, h => .cons (h a List.mem_cons_self) (repAll_map fun i m => h i (List.mem_cons_of_mem _ m))
end
/-- the columns of rows of data -/
def colD (rows : List (List D)) (j : Nat) : List D := (List.range rows.length).map fun i => ((rows[i]?.getD [])[j]?).getD .none
section
variable {X : Cx} {R : XP} {W : WX} {Γ : Gam} {e : Expr} {p p2 pos pos2 sp : Pos} {P : D → Gam → Prop}
/-- list(zip( *e)) -/
theorem eg_listZipS (hc : X.calm = true) (hm : X.mg "list" = none) (hmz : X.mg "zip" = none)
    (h : EV X R e Γ fun d Γ1 => ∃ (rows : List (List D)) (m : Nat), d = .tuple (rows.map .tuple) ∧ (∀ r ∈ rows, r.length = m) ∧ 1 ≤ rows.length ∧ rows.length ≤ 8 ∧ m ≤ 1000 ∧ P (.list ((List.range m).map fun j => .tuple (colD rows j))) Γ1)
    (hg : Gl X "list" := by rfl) (hgz : Gl X "zip" := by rfl)
    (hsE : starEach [.Call (.Name "zip" p2) [.Starred e sp] [] pos2] X.env = [(false, eval (.Call (.Name "zip" p2) [.Starred e sp] [] pos2) X.env)] := by rfl)
    (hst : starEach [.Starred e sp] X.env = [(true, eval e X.env)] := by rfl) :
    EG X R 1 (.Call (.Name "list" p) [.Call (.Name "zip" p2) [.Starred e sp] [] pos2] [] pos) Γ P := fun W tk =>
  pe_weak (pe_zipS hc hg hm hgz hmz (pe_any (n := 0) tk) hsE hst) fun σ H Q ⟨fp, hE, k, x⟩ => Any.go h hE x (Kt.of0 fun v d Γ1 H1 fp1 ⟨rows, m, e1, hr, n1, n8, m1, q⟩ r E1 f1 => by
    subst e1
    cases r with
    | tup z rr =>
      rename_i a xs
      obtain ⟨cs, vs, rfl, l1, l2, t1, t2⟩ := rows_rep rr
      have vl : ∀ (j : Nat) (ys : List V), vs[j]? = some ys → ys.length = m := fun j ys e => by
        have hj : j < rows.length := by
          have := (List.getElem?_eq_some_iff.mp e).1
          omega
        have := (t2 j ys _ e (List.getElem?_eq_getElem hj)).length
        rw [this]
        exact hr _ (List.getElem_mem hj)
      refine ⟨a, cs, vs, m, rfl, z.sq, l1, fun j c ys a1 a2 => ⟨(t1 j c ys a1 a2).sq, vl j ys a2⟩, by omega, by omega, m1, fun S b hS hb hlt => ?_⟩
      obtain ⟨E2, f2⟩ := E1.allocs (l := colsL b m vs) (cols_nd b m vs) fun p hp => by
        obtain ⟨j, hj, rfl⟩ := cols_mem.mp hp
        exact hb j hj
      refine k.lst1 q E2 (f1.trans f2) (repAll_map fun j hj => ?_) ?_
      · have hj := List.mem_range.mp hj
        have at1 : updAll H1 (colsL b m vs) (b + j) = some (.tup (colV vs j)) := updAll_at (p := (b + j, .tup (colV vs j))) (cols_nd b m vs) (cols_mem.mpr ⟨j, hj, rfl⟩)
        refine .tup (.inl at1) ?_
        unfold colV colD
        rw [l2]
        refine repAll_map fun i hi => ?_
        have hi := List.mem_range.mp hi
        have hiv : i < vs.length := by omega
        have hlv := vl i _ (List.getElem?_eq_getElem hiv)
        have hlr := hr _ (List.getElem_mem hi)
        rw [List.getElem?_eq_getElem hiv, List.getElem?_eq_getElem hi, Option.getD_some, Option.getD_some, List.getElem?_eq_getElem (by omega), List.getElem?_eq_getElem (by omega), Option.getD_some, Option.getD_some]
        obtain ⟨d, e1, r1⟩ := (t2 i _ _ (List.getElem?_eq_getElem hiv) (List.getElem?_eq_getElem hi)).get (List.getElem?_eq_getElem (by omega) : vs[i][j]? = some _)
        rw [List.getElem?_eq_getElem (by omega)] at e1
        cases e1
        exact r1.mono f2.ez
      · refine (updAll_ne fun z => ?_).trans hS
        obtain ⟨j, _, e⟩ := cols_fst.mp z
        have e : @Eq Nat S (b + j) := e
        omega)
end
end DL
set_option Elab.async false
set_option linter.all false
set_option maxRecDepth 100000
set_option maxHeartbeats 8000000
set_option pp.maxSteps 600
namespace KX
open PySem PySem.Spec PyProof.Rows L2 DL GA
/-! ### tables of numbers, products, powers -/
def mkT (n : Nat) (f : Nat → Nat → Int) : List (List Int) := (List.range n).map fun i => (List.range n).map fun j => f i j
theorem mk_ent {n : Nat} {f : Nat → Nat → Int} {i j : Nat} (hi : i < n) (hj : j < n) : ent (mkT n f) i j = f i j := ent_map hi hj
theorem mk_tbl {n : Nat} {f : Nat → Nat → Int} (h1 : 1 ≤ n) (h8 : n ≤ 8) (h : ∀ i j, i < n → j < n → 0 ≤ f i j) : Tbl n (mkT n f) where
  len := by simp [mkT]
  rows := fun r hr => by
    obtain ⟨i, _, rfl⟩ := List.mem_map.mp hr
    simp
  pos := fun r hr x hx => by
    obtain ⟨i, hi, rfl⟩ := List.mem_map.mp hr
    obtain ⟨j, hj, rfl⟩ := List.mem_map.mp hx
    exact h i j (List.mem_range.mp hi) (List.mem_range.mp hj)
  n1 := h1
  n8 := h8
theorem mk_of {n : Nat} {T : List (List Int)} (hT : Tbl n T) : T = mkT n (ent T) := by
  conv => lhs; rw [tab_eq hT]
  unfold mkT
  exact List.map_congr_left fun i hi => row_eq hT (List.mem_range.mp hi)
theorem mk_congr {n : Nat} {f g : Nat → Nat → Int} (h : ∀ i j, i < n → j < n → f i j = g i j) : mkT n f = mkT n g := by
  unfold mkT
  refine List.map_congr_left fun i hi => List.map_congr_left fun j hj => h i j (List.mem_range.mp hi) (List.mem_range.mp hj)
def mulF (n : Nat) (f g : Nat → Nat → Int) : Nat → Nat → Int := fun i j => sg (List.range n) fun k => f i k * g k j
def pwT (n : Nat) (T : List (List Int)) (k : Nat) : List (List Int) := mkT n (pw n (ent T) k)
theorem pw_add {n : Nat} {A : Nat → Nat → Int} : ∀ (a b i j : Nat), i < n → mulF n (pw n A a) (pw n A b) i j = pw n A (a + b) i j
  | 0, b, i, j, hi => by
    unfold mulF
    rw [sg_rng hi]
    · show (if i = i then (1 : Int) else 0) * pw n A b i j = pw n A (0 + b) i j
      rw [if_pos rfl, Int.one_mul, Nat.zero_add]
    · intro x _ ne
      show (if i = x then (1 : Int) else 0) * pw n A b x j = 0
      rw [if_neg (Ne.symm ne), Int.zero_mul]
  | a + 1, b, i, j, hi => by
    rw [show a + 1 + b = (a + b) + 1 by omega]
    show sg (List.range n) (fun k => sg (List.range n) (fun m => A i m * pw n A a m k) * pw n A b k j) = sg (List.range n) fun m => A i m * pw n A (a + b) m j
    have e1 : ∀ k ∈ List.range n, sg (List.range n) (fun m => A i m * pw n A a m k) * pw n A b k j = sg (List.range n) fun m => A i m * (pw n A a m k * pw n A b k j) := fun k _ => by
      rw [← sg_mulR]
      exact sg_congr fun m _ => Int.mul_assoc _ _ _
    rw [sg_congr e1, sg_swap]
    refine sg_congr fun m hm => ?_
    rw [sg_mul, ← pw_add a b m j (List.mem_range.mp hm)]; rfl
theorem pw_one {n : Nat} {A : Nat → Nat → Int} {i j : Nat} (hj : j < n) : pw n A 1 i j = A i j := by
  show sg (List.range n) (fun m => A i m * (if m = j then (1 : Int) else 0)) = A i j
  rw [sg_rng hj]
  · rw [if_pos rfl, Int.mul_one]
  · intro x _ ne
    rw [if_neg ne, Int.mul_zero]
theorem pw_bd {n : Nat} {A : Nat → Nat → Int} (h8 : n ≤ 8) (h : ∀ i j, i < n → j < n → 0 ≤ A i j ∧ A i j ≤ 1000000) : ∀ (k i j : Nat), i < n → 0 ≤ pw n A k i j ∧ pw n A k i j ≤ 2 ^ (23 * k)
  | 0, i, j, _ => by
    show 0 ≤ (if i = j then (1 : Int) else 0) ∧ (if i = j then (1 : Int) else 0) ≤ 2 ^ (23 * 0)
    split <;> decide
  | k + 1, i, j, hi => by
    have ih := pw_bd h8 h k
    have hp : (0 : Int) ≤ 2 ^ (23 * k) := Int.le_of_lt (Int.pow_pos (by decide))
    refine ⟨sg_nonneg fun m hm => Int.mul_nonneg (h i m hi (List.mem_range.mp hm)).1 (ih m j (List.mem_range.mp hm)).1, ?_⟩
    have e1 : sg (List.range n) (fun m => A i m * pw n A k m j) ≤ sg (List.range n) fun _ => 1000000 * 2 ^ (23 * k) := sg_le fun m hm => by
      have hm := List.mem_range.mp hm
      have h1 := h i m hi hm
      have h2 := ih m j hm
      exact Int.le_trans (Int.mul_le_mul_of_nonneg_left h2.2 h1.1) (Int.mul_le_mul_of_nonneg_right h1.2 hp)
    rw [sg_const, List.length_range] at e1
    have e2 : (n : Int) * (1000000 * 2 ^ (23 * k)) ≤ 8 * (1000000 * 2 ^ (23 * k)) := Int.mul_le_mul_of_nonneg_right (by omega) (Int.mul_nonneg (by decide) hp)
    have e3 : (2 : Int) ^ (23 * (k + 1)) = 8388608 * 2 ^ (23 * k) := by
      rw [show 23 * (k + 1) = 23 + 23 * k by omega, Int.pow_add]; rfl
    show sg (List.range n) (fun m => A i m * pw n A k m j) ≤ _
    omega
def Sm20 (n : Nat) (T : List (List Int)) : Prop := ∀ i j, i < n → j < n → ent T i j ≤ 1000000
theorem sm_pw {n : Nat} {T : List (List Int)} (hT : Tbl n T) (h : Sm20 n T) (k i j : Nat) (hi : i < n) : 0 ≤ pw n (ent T) k i j ∧ pw n (ent T) k i j ≤ 2 ^ (23 * k) :=
  pw_bd hT.n8 (fun i j hi hj => ⟨ent_pos hT i j, h i j hi hj⟩) k i j hi
theorem pwT_tbl {n : Nat} {T : List (List Int)} (hT : Tbl n T) (h : Sm20 n T) (k : Nat) : Tbl n (pwT n T k) := mk_tbl hT.n1 hT.n8 fun i j hi _ => (sm_pw hT h k i j hi).1
theorem pwT_ent {n : Nat} {T : List (List Int)} {k i j : Nat} (hi : i < n) (hj : j < n) : ent (pwT n T k) i j = pw n (ent T) k i j := mk_ent hi hj
theorem pwT_mul {n : Nat} {T : List (List Int)} (a b : Nat) : mkT n (mulF n (ent (pwT n T a)) (ent (pwT n T b))) = pwT n T (a + b) := by
  unfold pwT
  refine mk_congr fun i j hi hj => ?_
  rw [← pw_add a b i j hi]
  exact sg_congr fun k hk => by
    have hk := List.mem_range.mp hk
    rw [mk_ent hi hk, mk_ent hk hj]
theorem pwT_one {n : Nat} {T : List (List Int)} (hT : Tbl n T) : pwT n T 1 = T := by
  conv => rhs; rw [mk_of hT]
  exact mk_congr fun i j _ hj => pw_one hj
/-- the sizes that a product may have -/
def MOk (n : Nat) (A B : List (List Int)) : Prop := ∀ i j k, i < n → j < n → k < n → (ent A i k).natAbs.log2 + (ent B k j).natAbs.log2 < 1000000
theorem log_le {x : Int} {k : Nat} (h0 : 0 ≤ x) (h : x ≤ 2 ^ k) : x.natAbs.log2 ≤ k := by
  rcases Nat.eq_zero_or_pos x.natAbs with z | z
  · rw [z]; exact Nat.zero_le _
  · have h1 : x.natAbs < 2 ^ (k + 1) := by
      have e : ((x.natAbs : Nat) : Int) = x := by omega
      have h2 : ((x.natAbs : Nat) : Int) ≤ ((2 ^ k : Nat) : Int) := by rw [e, Int.natCast_pow]; exact h
      have h3 : x.natAbs ≤ 2 ^ k := by exact_mod_cast h2
      exact Nat.lt_of_le_of_lt h3 (Nat.pow_lt_pow_right (by decide) (Nat.lt_succ_self k))
    exact Nat.le_of_lt_succ ((Nat.log2_lt (by omega)).mpr h1)
theorem mok_pw {n : Nat} {T : List (List Int)} (hT : Tbl n T) (h : Sm20 n T) {a b : Nat} (hab : 23 * a + 23 * b < 1000000) : MOk n (pwT n T a) (pwT n T b) := fun i j k hi hj hk => by
  rw [pwT_ent hi hk, pwT_ent hk hj]
  have h1 := sm_pw hT h a i k hi
  have h2 := sm_pw hT h b k j hk
  have := log_le h1.1 h1.2
  have := log_le h2.1 h2.2
  omega
theorem q_sumR {X : Cx} (hc : X.calm = true) {l : List Nat} {g : Nat → Int} : CallG X (.builtin "sum") 0 [.list (l.map fun k => .int (g k))] (.int (sg l g)) := by
  have := q_sumL (X := X) hc (ns := l.map g)
  rw [List.map_map] at this
  exact this
theorem zip_ints {n : Nat} {f g : Nat → Int} : zipD (((List.range n).map f).map .int) (((List.range n).map g).map .int) = (List.range n).map fun k => .tuple [.int (f k), .int (g k)] := by
  unfold zipD
  rw [List.map_map, List.map_map]
  apply List.ext_getElem?
  intro k
  rw [List.getElem?_zipWith]
  by_cases h : k < n
  · simp [h]
  · simp [h]
theorem col_eq {n : Nat} {B : List (List Int)} (hB : Tbl n B) {j : Nat} (hj : j < n) : colD (B.map fun r => r.map .int) j = ((List.range n).map fun k => ent B k j).map .int := by
  unfold colD
  rw [List.length_map, hB.len, List.map_map]
  refine List.map_congr_left fun k hk => ?_
  have hk := List.mem_range.mp hk
  have hr : B[k]? = some (row B k) := by
    have : k < B.length := by rw [hB.len]; exact hk
    simp [row, this]
  simp only [List.getElem?_map, hr, Option.map_some, Option.getD_some, Function.comp]
  rw [← List.getElem?_map, ent_get' hB hk hj]; rfl
theorem tb_mk (n : Nat) (f : Nat → Nat → Int) : tb (mkT n f) = .tuple ((List.range n).map fun i => rowD ((List.range n).map fun j => f i j)) := by
  unfold tb mkT
  rw [List.map_map]; rfl
section
variable {P : Program} {w : World} {K : Fg} {mg : Str → Option Value} {base : Heap} (G : Fre mg)
include G
def S_product_of : List D → D → Prop := fun ds d => ∃ n A B, Tbl n A ∧ Tbl n B ∧ MOk n A B ∧ ds = [tb A, tb B] ∧ d = tb (mkT n (mulF n (ent A) (ent B)))
abbrev n_product_of : List Str := ["one", "other", "columns", "row", "column", "a", "b"]
omit G in
theorem nd_product_of : n_product_of.Nodup := by decide
theorem b_product_of {k : Nat} {ds : List D} {d0 : D} (S : S_product_of ds d0) : BodyP P w K mg base k n_product_of ["one", "other"] (top 7) 0 ds (fun d' => d' = d0) (fun _ _ => False) := by
  obtain ⟨n, M1, M2, hA, hB, hM, rfl, rfl⟩ := S
  have a1 := hA.len
  have b1 := hB.len
  have n1 := hA.n1
  have n8 := hA.n8
  intro qual f cdv A outer s H E
  conv in (occs := *) defScope _ => all_goals whnf
  conv in defBody _ => whnf
  intro hr
  show SS _ _ _ _ [.pv (tb M1), .pv (tb M2), .no, .no, .no, .no, .no] _
  refine ss_cons (s1_set 2 (eg_freeze (eg_listZipS rfl G.list G.zip (ev_var 1 rfl ⟨M2.map fun r => r.map .int, n, ?_, fun r hr => ?_, by simp; omega, by simp; omega, by omega, lt_ok rfl, ?_⟩))) nd_product_of)
  · rw [List.map_map]; rfl
  · obtain ⟨q, hq, rfl⟩ := List.mem_map.mp hr
    rw [List.length_map]
    exact hB.rows q hq
  have ec : ((List.range n).map fun j => PyData.tuple (colD (M2.map fun r => r.map .int) j)) = (List.range n).map fun j => rowD ((List.range n).map fun k => ent M2 k j) := List.map_congr_left fun j hj => by rw [col_eq hB (List.mem_range.mp hj)]; rfl
  rw [ec]
  show SS _ _ _ _ [.pv (tb M1), .pv (tb M2), .pv (.list ((List.range n).map fun j => rowD ((List.range n).map fun k => ent M2 k j))), .no, .no, .no, .no] _
  refine ss_one (s1_ret (eg_callT1 G.tuple boot_tuple (eg_freeze (eg_lc (n := 0) (own := [("row", 3)]) rfl nd_product_of (ei_seq (ev_var 0 rfl ⟨M1.map rowD, rfl, ?_⟩)) (blkOk_by (by rfl))))))
  refine lci_mapL (List.range n) (fun i => rowD (row M1 i)) (fun i => rowD ((List.range n).map fun j => mulF n (ent M1) (ent M2) i j)) (tb_rows hA) (by simp; omega) rfl ⟨_, q_tuple rfl, le_ok rfl, (tb_mk n _).symm⟩ fun i hi s H C cl fp => gt_name 3 nd_product_of (lt_ok rfl) fun s H C cl fp => ?_
  have hi := List.mem_range.mp hi
  refine eg_callT1 G.tuple boot_tuple (eg_freeze (eg_lc (n := 0) (own := [("column", 4)]) rfl nd_product_of (ei_seq (ev_var 2 rfl ⟨_, rfl, ?_⟩)) (blkOk_by (by rfl))))
  refine lci_mapL (List.range n) (fun j => rowD ((List.range n).map fun k => ent M2 k j)) (fun j => .int (mulF n (ent M1) (ent M2) i j)) rfl (by simp; omega) rfl ⟨_, q_tuple rfl, by simp only [rowD, List.map_map]; rfl, rfl⟩ fun j hj s H C cl fp => gt_name 4 nd_product_of (lt_ok rfl) fun s H C cl fp => ?_
  have hj := List.mem_range.mp hj
  refine eg_callB1 G.sum boot_sum (eg_freeze (eg_lc (n := 0) (own := [("a", 5), ("b", 6)]) rfl nd_product_of (ei_zip G.zip (ev_var 3 rfl (ev_var 4 rfl ⟨_, _, .inr ⟨rfl, rfl⟩, ?_⟩))) (blkOk_by (by rfl))))
  rw [row_eq hA hi, zip_ints]
  refine lci_mapL (List.range n) (fun k => .tuple [.int (ent M1 i k), .int (ent M2 k j)]) (fun k => .int (ent M1 i k * ent M2 k j)) rfl (by simp; omega) rfl ⟨_, q_sumR rfl, rfl, rfl⟩ fun k hk s H C cl fp => gt_tup rfl (gts_cons (gt_name 5 nd_product_of (lt_ok rfl) (gts_cons (gt_name 6 nd_product_of (lt_ok rfl) (gts_nil fun s H C cl fp => ?_)))))
  exact eg_bin (ev_var 5 rfl (ev_var 6 rfl ⟨_, b_mulW (hM i j k hi hj (List.mem_range.mp hk)), rfl, rfl⟩))
def S_unit_table : List D → D → Prop := fun ds d => ∃ n : Nat, n ≤ 8 ∧ ds = [.int (n : Nat)] ∧ d = tb (mkT n fun i j => if i = j then 1 else 0)
abbrev n_unit_table : List Str := ["many", "i", "j"]
omit G in
theorem nd_unit_table : n_unit_table.Nodup := by decide
theorem b_unit_table {k : Nat} {ds : List D} {d0 : D} (S : S_unit_table ds d0) : BodyP P w K mg base k n_unit_table ["many"] (top 8) 0 ds (fun d' => d' = d0) (fun _ _ => False) := by
  obtain ⟨n, n8, rfl, rfl⟩ := S
  intro qual f cdv A outer s H E
  conv in (occs := *) defScope _ => all_goals whnf
  conv in defBody _ => whnf
  intro hr
  show SS _ _ _ _ [.pv (.int (n : Nat)), .no, .no] _
  have er : rngD 0 (n : Nat) = (List.range n).map fun (j : Nat) => .int (j : Nat) := by rw [rngD_eq, List.map_map]; rfl
  refine ss_one (s1_ret (eg_callT1 G.tuple boot_tuple (eg_freeze (eg_lc (n := 0) (own := [("i", 1)]) rfl nd_unit_table (ei_range1 G.range (ev_var 0 rfl ⟨(n : Nat), rfl, by omega, by omega, ?_⟩)) (blkOk_by (by rfl))))))
  refine lci_mapL (List.range n) (fun (j : Nat) => .int (j : Nat)) (fun i => rowD ((List.range n).map fun j => if i = j then 1 else 0)) er (by simp; omega) rfl ⟨_, q_tuple rfl, le_ok rfl, (tb_mk n _).symm⟩ fun i hi s H C cl fp => gt_name 1 nd_unit_table (lt_ok rfl) fun s H C cl fp => ?_
  refine eg_callT1 G.tuple boot_tuple (eg_freeze (eg_lc (n := 0) (own := [("j", 2)]) rfl nd_unit_table (ei_range1 G.range (ev_var 0 rfl ⟨(n : Nat), rfl, by omega, by omega, ?_⟩)) (blkOk_by (by rfl))))
  refine lci_mapL (List.range n) (fun (j : Nat) => .int (j : Nat)) (fun j => .int (if i = j then 1 else 0)) er (by simp; omega) rfl ⟨_, q_tuple rfl, by simp only [rowD, List.map_map]; rfl, rfl⟩ fun j hj s H C cl fp => gt_name 2 nd_unit_table (lt_ok rfl) fun s H C cl fp => ?_
  refine eg_if (et_cmp (ev_var 1 rfl (ev_var 2 rfl ⟨_, c_eqI, fun h => ev_int ⟨?_, rfl⟩, fun h => ev_int ⟨?_, rfl⟩⟩)))
  · have := of_decide_eq_true h
    rw [if_pos (by omega)]
  · have := of_decide_eq_false h
    rw [if_neg (by omega)]
def S_trace_of : List D → D → Prop := fun ds d => ∃ n T, Tbl n T ∧ ds = [tb T] ∧ d = .int (sg (List.range n) fun i => ent T i i)
abbrev n_trace_of : List Str := ["table", "i", "row"]
omit G in
theorem nd_trace_of : n_trace_of.Nodup := by decide
theorem enum_rows {n : Nat} {T : List (List Int)} (hT : Tbl n T) : enumD (T.map rowD) = (List.range n).map fun (i : Nat) => .tuple [.int (i : Nat), rowD (row T i)] := by
  apply List.ext_getElem?
  intro i
  by_cases hi : i < n
  · rw [enumD_get (row_get' hT hi)]
    simp [hi]
  · have := hT.len
    rw [List.getElem?_eq_none (by rw [enumD_len]; simp; omega), List.getElem?_eq_none (by simp; omega)]
theorem b_trace_of {k : Nat} {ds : List D} {d0 : D} (S : S_trace_of ds d0) : BodyP P w K mg base k n_trace_of ["table"] (top 10) 0 ds (fun d' => d' = d0) (fun _ _ => False) := by
  obtain ⟨n, T, hT, rfl, rfl⟩ := S
  have n8 := hT.n8
  intro qual f cdv A outer s H E
  conv in (occs := *) defScope _ => all_goals whnf
  conv in defBody _ => whnf
  intro hr
  show SS _ _ _ _ [.pv (tb T), .no, .no] _
  refine ss_one (s1_ret (eg_callB1 G.sum boot_sum (eg_freeze (eg_lc (n := 0) (own := [("i", 1), ("row", 2)]) rfl nd_trace_of (ei_enum G.enum (ev_var 0 rfl ⟨T.map rowD, rfl, ?_⟩)) (blkOk_by (by rfl))))))
  rw [enum_rows G hT]
  refine lci_mapL (List.range n) (fun (i : Nat) => .tuple [.int (i : Nat), rowD (row T i)]) (fun i => .int (ent T i i)) rfl (by simp; omega) rfl ⟨_, q_sumR rfl, le_ok rfl, rfl⟩ fun i hi s H C cl fp => gt_tup rfl (gts_cons (gt_name 1 nd_trace_of (lt_ok rfl) (gts_cons (gt_name 2 nd_trace_of (lt_ok rfl) (gts_nil fun s H C cl fp => ?_)))))
  have hi := List.mem_range.mp hi
  exact ev_sub (ev_var 2 rfl (ev_var 1 rfl ⟨_, sub_tup (at_nat (ent_get' hT hi hi)), rfl, rfl⟩))
def S_power_of : List D → D → Prop := fun ds d => ∃ n T, ∃ e : Nat, Tbl n T ∧ Sm20 n T ∧ e ≤ 10000 ∧ ds = [tb T, .int (e : Nat)] ∧ d = tb (pwT n T e)
abbrev n_power_of : List Str := ["table", "exponent", "found", "square"]
omit G in
theorem nd_power_of : n_power_of.Nodup := by decide
theorem b_power_of (F1 : Df P w K mg base 1 "unit_table" (top 8) ["many"] 0 (pfs S_unit_table)) (F2 : Df P w K mg base 1 "product_of" (top 7) ["one", "other"] 0 (pfs S_product_of)) {k : Nat} (hk : 1 ≤ k) {ds : List D} {d0 : D} (S : S_power_of ds d0) :
    BodyP P w K mg base k n_power_of ["table", "exponent"] (top 9) 0 ds (fun d' => d' = d0) (fun _ _ => False) := by
  obtain ⟨n, T, e, hT, hs, he, rfl, rfl⟩ := S
  have l1 := hT.len
  have n8 := hT.n8
  intro qual f cdv A outer s H E
  conv in (occs := *) defScope _ => all_goals whnf
  conv in defBody _ => whnf
  intro hr
  show SS _ _ _ _ [.pv (tb T), .pv (.int (e : Nat)), .no, .no] _
  refine ss_cons (s1_par2 2 3 0 0 rfl nd_power_of (eg_callS F1 hr hk (eg_callB1 G.len boot_len (ev_var 0 rfl ⟨_, q_len (ds := T.map rowD) rfl, rfl, _, ⟨n, n8, by simp [l1], rfl⟩, ev_var 0 rfl ⟨lt_ok rfl, lt_ok rfl, fun _ _ => ?_⟩⟩)) ⟨rfl, trivial⟩))
  show SS _ _ _ _ [.pv (tb T), .pv (.int (e : Nat)), .pv (tb (pwT n T 0)), .pv (tb T)] _
  refine ss_cons (s1_while (passes_of rfl) (fun x Γ => ∃ f q : Nat, f + q * x = e ∧ (0 < x → q ≤ e) ∧ Γ = [.pv (tb T), .pv (.int (x : Nat)), .pv (tb (pwT n T f)), .pv (tb (pwT n T q))]) ⟨e, 0, 1, by omega, fun _ => by omega, by rw [pwT_one hT]⟩ ?_)
  rintro x Γ ⟨f, q, hx, hq, rfl⟩
  refine et_cmp (ev_var 1 rfl (ev_int ⟨_, c_gt, fun h0 => ?_, fun h0 => ?_⟩))
  · have h0 : 0 < x := by have := of_decide_eq_true h0; omega
    have hq := hq h0
    have qx : q ≤ q * x := Nat.le_mul_of_pos_right q h0
    refine ss_cons (S1.nxi (N := fun Γ' => ∃ f', f' + q * (x - x % 2) = e ∧ Γ' = [.pv (tb T), .pv (.int (x : Nat)), .pv (tb (pwT n T f')), .pv (tb (pwT n T q))]) ?_ ?_)
    · refine s1_if (et_cmp (eg_bin (ev_var 1 rfl (ev_int ⟨_, b_mod (by decide), ev_int ⟨_, c_eqI, fun h1 => ?_, fun h1 => ?_⟩⟩))))
      · have h1 := of_decide_eq_true h1
        have hm : x % 2 = 1 := by omega
        refine ss_one (s1_set 2 (eg_callS F2 hr hk (ev_var 2 rfl (ev_var 3 rfl ⟨rfl, _, ⟨n, _, _, pwT_tbl hT hs f, pwT_tbl hT hs q, mok_pw hT hs (by omega), rfl, rfl⟩, lt_ok rfl, f + q, ?_, by rw [pwT_mul]; rfl⟩)) ⟨rfl, rfl, trivial⟩) nd_power_of)
        have : q * x = q * (x - 1) + q := by
          conv => lhs; rw [show x = (x - 1) + 1 by omega, Nat.mul_add, Nat.mul_one]
        rw [hm]; omega
      · have h1 := of_decide_eq_false h1
        have hm : x % 2 = 0 := by omega
        exact ss_nil ⟨f, by rw [hm]; simpa using hx, rfl⟩
    · rintro Γ' ⟨f', hf', rfl⟩
      have hd : x - x % 2 = 2 * (x / 2) := by omega
      rw [hd] at hf'
      refine ss_cons (s1_set 1 (eg_bin (ev_var 1 rfl (ev_int ⟨_, b_fdiv ⟨by decide, by decide⟩, lt_ok rfl, ?_⟩))) nd_power_of)
      rw [show ((x : Nat) : Int) / 2 = ((x / 2 : Nat) : Int) by omega]
      show SS _ _ _ _ [.pv (tb T), .pv (.int (x / 2 : Nat)), .pv (tb (pwT n T f')), .pv (tb (pwT n T q))] _
      refine ss_one (s1_if (et_cmp (ev_var 1 rfl (ev_int ⟨_, c_gt, fun h2 => ?_, fun h2 => ?_⟩))))
      · have h2 : 0 < x / 2 := by have := of_decide_eq_true h2; omega
        have q2 : 2 * q ≤ e := by
          have : q * 2 ≤ q * (2 * (x / 2)) := Nat.mul_le_mul_left q (by omega)
          omega
        refine ss_one (s1_set 3 (eg_callS F2 hr hk (ev_var 3 rfl (ev_var 3 rfl ⟨rfl, _, ⟨n, _, _, pwT_tbl hT hs q, pwT_tbl hT hs q, mok_pw hT hs (by omega), rfl, rfl⟩, lt_ok rfl, x / 2, by omega, f', q + q, ?_, fun _ => by omega, by rw [pwT_mul]; rfl⟩)) ⟨rfl, rfl, trivial⟩) nd_power_of)
        rw [← hf', Nat.add_mul, Nat.two_mul, Nat.mul_add]
      · have h2 : x / 2 = 0 := by have := of_decide_eq_false h2; omega
        refine ss_nil ⟨x / 2, by omega, f', q, ?_, fun z => by omega, rfl⟩
        rw [h2] at hf' ⊢
        omega
  · have h0 : x = 0 := by have := of_decide_eq_false h0; omega
    subst h0
    refine ss_one (s1_ret (ev_var 2 rfl ⟨le_ok rfl, ?_⟩))
    rw [← hx]; simp
end
end KX
set_option Elab.async false
set_option linter.all false
set_option maxRecDepth 100000
set_option maxHeartbeats 4000000
set_option pp.maxSteps 600
namespace KX
open PySem PySem.Spec PyProof.Rows L2 DL
theorem min_ex : ∀ {l : List Int}, l ≠ [] → ∃ m, m ∈ l ∧ ∀ y ∈ l, m ≤ y
  | [], h => absurd rfl h
  | [x], _ => ⟨x, by simp, by simp⟩
  | x :: y :: l, _ => by
    obtain ⟨m, h1, h2⟩ := min_ex (l := y :: l) (by simp)
    by_cases c : x ≤ m
    · refine ⟨x, by simp, fun z hz => ?_⟩
      rcases List.mem_cons.mp hz with rfl | hz
      · exact Int.le_refl _
      · exact Int.le_trans c (h2 z hz)
    · refine ⟨m, List.mem_cons_of_mem _ h1, fun z hz => ?_⟩
      rcases List.mem_cons.mp hz with rfl | hz
      · omega
      · exact h2 z hz
theorem max_ex {l : List Int} (h : l ≠ []) : ∃ m, m ∈ l ∧ ∀ y ∈ l, y ≤ m := by
  obtain ⟨m, h1, h2⟩ := min_ex (l := l.map (- ·)) (by simpa using h)
  obtain ⟨a, ha, rfl⟩ := List.mem_map.mp h1
  refine ⟨a, ha, fun y hy => ?_⟩
  have := h2 (-y) (List.mem_map.mpr ⟨y, hy, rfl⟩)
  omega
section
variable {P : Program} {w : World} {K : Fg} {mg : Str → Option Value} {base : Heap} (G : Fre mg)
include G
def S_unafter_table : List D → D → Prop := fun ds d => ∃ n T i j t, Tbl n T ∧ Sm T ∧ i < n ∧ j < n ∧ ds = [tb T, .int (i : Nat), .int (j : Nat), .int t] ∧ d = optD (rawU n T i j t)
end
end KX
set_option Elab.async false
set_option linter.all false
set_option maxRecDepth 100000
set_option maxHeartbeats 4000000
set_option pp.maxSteps 600
namespace KX
open PySem PySem.Spec PyProof.Rows L2 DL
/-! ### deeds -/
inductive RW where
  | after | before | unafter | unbefore
def RW.str : RW → Str
  | .after => "after"
  | .before => "before"
  | .unafter => "unafter"
  | .unbefore => "unbefore"
inductive Deed where
  | turn (o : List Nat)
  | pass (r : Nat)
  | stretch (i j : Nat)
  | rep (w : RW) (i j : Nat) (t : Int)
def Deed.D : Deed → D
  | .turn o => .tuple [.str "turn", rowD (o.map Int.ofNat)]
  | .pass r => .tuple [.str "pass", .int (r : Nat)]
  | .stretch i j => .tuple [.str "stretch", .int (i : Nat), .int (j : Nat)]
  | .rep w i j t => .tuple [.str w.str, .int (i : Nat), .int (j : Nat), .int t]
def Deed.Ok (n : Nat) : Deed → Prop
  | .turn o => o.length = n ∧ (List.range n).Perm o
  | .pass r => r < n
  | .stretch i j => i < n ∧ j < n
  | .rep _ i j t => i < n ∧ j < n ∧ i ≠ j ∧ 1 ≤ t
def Deed.raw (n : Nat) (T : List (List Int)) : Deed → Option (List (List Int))
  | .turn o => some (renT T o)
  | .pass r => if 0 < ent T r r ∨ n = 1 then none else some (passT n T r)
  | .stretch i j => if ent T i j < 1 ∨ 8 ≤ n then none else some (strT n T i j)
  | .rep .after i j t => rawA n T i j t
  | .rep .unafter i j t => rawU n T i j t
  | .rep .before i j t => (rawA n (turnT n T) j i t).map (turnT n)
  | .rep .unbefore i j t => (rawU n (turnT n T) j i t).map (turnT n)
theorem turn_lt {n : Nat} {o : List Nat} (h : (Deed.turn o).Ok n) : ∀ i ∈ o, i < n := fun i hi => List.mem_range.mp (h.2.symm.subset hi)
theorem set_tbl {n : Nat} {T : List (List Int)} (hT : Tbl n T) {i : Nat} {f : Nat → Int} (h : ∀ k, k < n → 0 ≤ f k) : Tbl n (T.set i ((List.range n).map f)) := by
  refine ⟨by rw [List.length_set]; exact hT.len, fun r m => ?_, fun r m x hx => ?_, hT.n1, hT.n8⟩
  · rcases List.mem_or_eq_of_mem_set m with m | rfl
    · exact hT.rows r m
    · simp
  · rcases List.mem_or_eq_of_mem_set m with m | rfl
    · exact hT.pos r m x hx
    · obtain ⟨k, hk, rfl⟩ := List.mem_map.mp hx
      exact h k (List.mem_range.mp hk)
theorem rawA_tbl {n : Nat} {T M : List (List Int)} {i j : Nat} {t : Int} (hT : Tbl n T) (ht : 1 ≤ t) (h : rawA n T i j t = some M) : Tbl n M := by
  unfold rawA at h
  split at h
  · cases h
  · rename_i hc
    obtain rfl := Option.some.inj h
    refine set_tbl hT fun k _ => ?_
    have p1 := ent_pos hT i k
    have p2 := ent_pos hT j k
    unfold adj
    split
    · rename_i e
      subst e
      by_cases z : ent T k k = 0
      · have : ¬ ent T i k < t := fun q => hc (.inr ⟨z, q⟩)
        rw [z]
        omega
      · have : 0 ≤ t * (ent T k k - 1) := Int.mul_nonneg (by omega) (by omega)
        omega
    · have : 0 ≤ t * ent T j k := Int.mul_nonneg (by omega) p2
      omega
theorem rawU_tbl {n : Nat} {T M : List (List Int)} {i j : Nat} {t : Int} (hT : Tbl n T) (h : rawU n T i j t = some M) : Tbl n M := by
  unfold rawU at h
  split at h
  · cases h
  · rename_i hc
    obtain rfl := Option.some.inj h
    refine set_tbl hT fun k hk => ?_
    have : ¬ (ent T i k - t * adj T j k < 0) := fun q => hc (.inl ⟨k, hk, q⟩)
    omega
theorem map_tbl {n m : Nat} {L : List Nat} {f : Nat → Nat → Int} (hl : L.length = n) (h1 : 1 ≤ n) (h8 : n ≤ 8) (h : ∀ i ∈ L, ∀ k ∈ L, 0 ≤ f i k) : Tbl n (L.map fun i => L.map fun k => f i k) := by
  refine ⟨by simp [hl], fun r m => ?_, fun r m x hx => ?_, h1, h8⟩
  · obtain ⟨i, _, rfl⟩ := List.mem_map.mp m
    simp [hl]
  · obtain ⟨i, hi, rfl⟩ := List.mem_map.mp m
    obtain ⟨k, hk, rfl⟩ := List.mem_map.mp hx
    exact h i hi k hk
theorem ren_tbl {n : Nat} {T : List (List Int)} (hT : Tbl n T) {o : List Nat} (hl : o.length = n) : Tbl n (renT T o) := map_tbl (m := 0) hl hT.n1 hT.n8 fun i _ k _ => ent_pos hT i k
theorem others_len {n r : Nat} (h : r < n) : (others n r).length = n - 1 := by
  unfold others
  have h1 : ((List.range n).filter fun x => x != r).length + ((List.range n).filter fun x => x == r).length = n := by
    have := List.length_eq_countP_add_countP (fun x => x != r) (l := List.range n)
    rw [List.length_range] at this
    rw [List.countP_eq_length_filter, List.countP_eq_length_filter] at this
    have e : (fun a => decide ¬(a != r) = true) = fun x : Nat => x == r := by funext x; simp [Bool.beq_eq_decide_eq, bne]
    rw [e] at this
    omega
  have h2 : ((List.range n).filter fun x => x == r).length = 1 := by
    have := List.count_range (n := n) (a := r)
    rw [List.count, List.countP_eq_length_filter, if_pos h] at this
    exact this
  omega
theorem raw_tbl {n : Nat} {T M : List (List Int)} {dd : Deed} (hT : Tbl n T) (ok : dd.Ok n) (h : dd.raw n T = some M) : ∃ m, Tbl m M := by
  cases dd with
  | turn o => obtain rfl := Option.some.inj h; exact ⟨n, ren_tbl hT ok.1⟩
  | pass r =>
    simp only [Deed.raw] at h
    split at h
    · cases h
    · rename_i hc
      obtain rfl := Option.some.inj h
      have hr : r < n := ok
      have := hT.n8
      refine ⟨n - 1, map_tbl (m := 0) (others_len hr) (by omega) (by omega) fun i _ k _ => ?_⟩
      have := ent_pos hT i k
      have := Int.mul_nonneg (ent_pos hT i r) (ent_pos hT r k)
      omega
  | stretch i j =>
    simp only [Deed.raw] at h
    split at h
    · cases h
    · rename_i hc
      obtain rfl := Option.some.inj h
      obtain ⟨hi, hj⟩ : i < n ∧ j < n := ok
      refine ⟨n + 1, by simp [strT], fun r m => ?_, fun r m x hx => ?_, by omega, by omega⟩
      · unfold strT at m
        rcases List.mem_append.mp m with m | m
        · obtain ⟨a, _, rfl⟩ := List.mem_map.mp m
          simp [strR]
        · rw [List.mem_singleton.mp m]; simp
      · unfold strT at m
        rcases List.mem_append.mp m with m | m
        · obtain ⟨a, _, rfl⟩ := List.mem_map.mp m
          unfold strR at hx
          rcases List.mem_append.mp hx with hx | hx
          · obtain ⟨k, _, rfl⟩ := List.mem_map.mp hx
            have := ent_pos hT a k
            split
            · rename_i e
              obtain ⟨rfl, rfl⟩ := e
              omega
            · exact this
          · rw [List.mem_singleton.mp hx]; split <;> omega
        · rw [List.mem_singleton.mp m] at hx
          rcases List.mem_append.mp hx with hx | hx
          · obtain ⟨k, _, rfl⟩ := List.mem_map.mp hx
            split <;> omega
          · rw [List.mem_singleton.mp hx]; exact Int.le_refl _
  | rep w i j t =>
    obtain ⟨hi, hj, ne, ht⟩ := ok
    cases w with
    | after => exact ⟨n, rawA_tbl hT ht h⟩
    | unafter => exact ⟨n, rawU_tbl hT h⟩
    | before =>
      simp only [Deed.raw, Option.map_eq_some_iff] at h
      obtain ⟨M', h1, rfl⟩ := h
      exact ⟨n, turn_tbl (rawA_tbl (turn_tbl hT) ht h1)⟩
    | unbefore =>
      simp only [Deed.raw, Option.map_eq_some_iff] at h
      obtain ⟨M', h1, rfl⟩ := h
      exact ⟨n, turn_tbl (rawU_tbl (turn_tbl hT) h1)⟩
/-- what the deed makes, if it is a web -/
noncomputable def deedW (n : Nat) (T : List (List Int)) (dd : Deed) : Option (List (List Int)) := match dd.raw n T with
  | some M => if isWebB (tb M) = true then some M else none
  | none => none
section
variable {P : Program} {w : World} {K : Fg} {mg : Str → Option Value} {base : Heap} (G : Fre mg)
include G
def S_raw_table : List D → D → Prop := fun ds d => ∃ n T dd, Tbl n T ∧ Sm T ∧ Deed.Ok n dd ∧ ds = [tb T, dd.D] ∧ d = optD (dd.raw n T)
def S_deed_table : List D → D → Prop := fun ds d => ∃ n T dd, Tbl n T ∧ Sm T ∧ Deed.Ok n dd ∧ ds = [tb T, dd.D] ∧ d = optD (deedW n T dd)
def S_is_from : List D → D → Prop := fun ds d => ∃ x a, ds = [x, .int a] ∧ realD x = true ∧ d = .bool (isFrom a x)
abbrev n_is_from : List Str := ["thing", "least"]
omit G in
theorem nd_is_from : n_is_from.Nodup := by decide
theorem b_is_from (F1 : Df P w K mg base 1 "is_integer" (top 16) ["thing"] 0 (pfs S_is_integer)) {k : Nat} (hk : 1 ≤ k) {ds : List D} {d0 : D} (S : S_is_from ds d0) : BodyP P w K mg base k n_is_from ["thing", "least"] (top 17) 0 ds (fun d' => d' = d0) (fun _ _ => False) := by
  obtain ⟨x, a, rfl, hx, rfl⟩ := S
  intro qual f cdv A outer s H E
  conv in (occs := *) defScope _ => all_goals whnf
  conv in defBody _ => whnf
  intro hr
  show SS _ _ _ _ [.pv x, .pv (.int a)] _
  refine (ss_one (s1_ret (ev_and (eg_callS F1 hr hk (ev_var 0 rfl ⟨rfl, _, ⟨_, rfl, hx, rfl⟩, ⟨_, rfl, fun h1 => ?_, fun h2 => ⟨le_ok rfl, ?_⟩⟩⟩) ⟨rfl, trivial⟩))))
  · obtain ⟨i, rfl⟩ := isI_of h1
    exact ev_one (ev_cmp (ev_var 0 rfl (ev_var 1 rfl ⟨_, c_ge, ⟨le_ok rfl, rfl⟩⟩)))
  · cases x <;> first | rfl | cases h2
end
end KX
set_option Elab.async false
set_option linter.all false
set_option maxRecDepth 100000
set_option maxHeartbeats 1000000
namespace DL
open PySem PySem.Spec PyProof.Rows L2
variable {X : Cx} {R : XP} {W : WX} {Γ : Gam} {m n : Nat} {e : Expr} {pos pos' : Pos} {P : Po}
/-- name op= e, a name that holds data; the operator is told as the binary one's twin -/
def IpG (X : Cx) (op : Operator) (d1 d2 d3 : D) : Prop := OpR X (inplaceOp op) fun x y H Q => Rep X.K H x d1 ∧ Rep X.K H y d2 ∧ ∀ v, Rep X.K H v d3 → Q v H
theorem i_add {i j : Int} : IpG X .Add (.int i) (.int j) (.int (i + j)) := fun pins s σ H x y v u Q I rx ry ⟨r1, r2, q⟩ => by
  cases r1
  cases r2
  exact iop_add pins s σ H _ _ v u Q I rx ry ⟨i, j, rfl, rfl, q _ (.int _)⟩
theorem i_sub {i j : Int} : IpG X .Sub (.int i) (.int j) (.int (i - j)) := fun pins s σ H x y v u Q I rx ry ⟨r1, r2, q⟩ => by
  cases r1
  cases r2
  exact iop_sub pins s σ H _ _ v u Q I rx ry ⟨i, j, rfl, rfl, q _ (.int _)⟩
theorem s1_aug (i : Nat) {x : Str} {op : Operator} {d1 : D} (hd : Γ[i]? = some (.pv d1)) (h : EV X R e Γ fun d2 Γ1 => ∃ d3, IpG X op d1 d2 d3 ∧ i < Γ1.length ∧ P.nx (Γ1.set i (.pv d3))) (hN : X.N.Nodup) (hi : X.N[i]? = some x := by rfl) (hx : Loc X.env.scope x := by first | exact Or.inl rfl | exact Or.inr rfl)
    (hf : X.fn x = true ∨ X.env.scope.names.lookup x = some .local := by first | exact .inl rfl | exact .inr rfl) : S1 X R m (.AugAssign (.Name x pos') op e pos) Γ P := fun W tk =>
  ps_weak (ps_aug (ti := fun x y H Q => ∃ d1 d2 d3, IpG X op d1 d2 d3 ∧ Rep X.K H x d1 ∧ Rep X.K H y d2 ∧ ∀ v, Rep X.K H v d3 → Q v H) hN hi hx (pe_any (n := 0) tk)
    (fun pins s σ H x y v u Q I rx ry ⟨d1, d2, d3, hb, r1, r2, q⟩ => hb pins s σ H x y v u Q I rx ry ⟨r1, r2, q⟩) hf) fun D σ H ⟨fp, hE, k, _, _, _, x⟩ => by
    obtain ⟨v, e1, r1⟩ := hE.1.pvAt hd
    exact ⟨v, e1, Any.go h hE x (Kt.of0 fun u d2 Γ1 H1 fp1 ⟨d3, hb, hl, p⟩ r2 E1 f1 => ⟨d1, d2, d3, hb, r1.mono f1.ez, r2, fun z rz => by
      obtain ⟨fp2, E2, sub⟩ := E1.putPv hl rz
      exact k _ _ H1 fp2 p E2 (f1.sub sub)⟩)⟩
end DL
namespace DL
open PySem PySem.Spec PyProof.Rows L2
theorem q_boolI {X : Cx} {b : Bool} : CallG X (.type "int") 0 [.bool b] (.int (if b = true then 1 else 0)) := fun pins s σ H xs us Q I rv ⟨r, q⟩ => by
  obtain ⟨v, rfl, h⟩ := rep1 r
  cases h
  have := q (.int (if b = true then 1 else 0)) H [] (Own.int _) List.nodup_nil .refl
  exact call_int1 pins s σ H _ us Q I rv (.inr ⟨b, rfl, by cases b <;> exact this⟩)
end DL
set_option Elab.async false
set_option linter.all false
set_option maxRecDepth 100000
set_option maxHeartbeats 1000000
namespace DL
open PySem PySem.Spec PyProof.Rows L2
/-- the facts of the class House, as a check that the head runs -/
def hscB (K : Fg) : Bool :=
  (He.Fa.cls "House").ok K && (decide (PySem.W.findIn K (.ref (hsA K)) "__class__" = some (some (.builtin "object.__class__"))) && (decide (PySem.W.specialIn K (.builtin "object.__class__") "__get__" = some (some (.builtin "getset_descriptor.__get__"))) &&
  (decide (PySem.W.takesIn K (.builtin "object.__class__") = some true) && (decide (PySem.W.mroIn K (hsA K) (.type "object") = some true) && ((hsTs.all fun T => decide (PySem.W.kitOne K (.ref (hsA K)) (.type T) = some false)) &&
  (decide (PySem.W.kitOne K (.ref (hsA K)) (.ref (hsA K)) = some true) && (("NoneType" :: hsTs).all fun T => decide (PySem.W.kitOne K (.type T) (.ref (hsA K)) = some false))))))))
theorem hsc_ok {K : Fg} (h : hscB K = true) : HsC K := by
  unfold hscB at h
  simp only [Bool.and_eq_true, decide_eq_true_eq, List.all_eq_true] at h
  obtain ⟨h1, h2, h3, h4, h5, h6, h7, h8⟩ := h
  exact ⟨He.cls_ok h1, h2, h3, h4, h5, h6, h7, h8⟩
end DL
set_option Elab.async false
set_option linter.all false
set_option maxRecDepth 100000
set_option maxHeartbeats 2000000
namespace DL
open PySem PySem.Spec PyProof.Rows L2
/-! ### repr of data with dicts in it -/
mutual
def dcOk : D → Bool
  | .list ds => dcAll ds
  | .tuple ds => dcAll ds
  | .dict kvs => dcKv kvs
  | _ => true
def dcAll : List D → Bool
  | [] => true
  | d :: ds => dcOk d && dcAll ds
def dcKv : List (D × D) → Bool
  | [] => true
  | p :: r => keyOk p.1 && dcOk p.2 && dcKv r
end
theorem key_shown {s : Shared} {P : Program} {w : World} {k : Key} {u : Value} (hk : keyIs k u = true) (hs : (kD k).showable = true) (hz : (kD k).shown.length ≤ sizeLine) : Reads s.heap u (kD k) [] ∧ ReprK P w [] s.heap 0 u (kD k).shown := by
  rcases keyIs_shape hk with ⟨i, t, rfl, rfl⟩ | ⟨x, t, rfl, rfl⟩
  · refine ⟨.int i t, ?_⟩
    show ReprK P w [] s.heap 0 _ (PyData.int i).shown
    simp only [PyData.shown]
    exact .of_is (ReprIs.int t (by simpa [kD, PyData.showable] using hs)) _ _ _
  · refine ⟨.str x t, ?_⟩
    show ReprK P w [] s.heap 0 _ (PyData.str x).shown
    simp only [PyData.shown]
    exact .of_is (ReprIs.str x t (by simpa only [kD, PyData.shown] using hz)) _ _ _
section
variable {X : Cx} {pins : List (Addr × Obj)} {σ : Sl} {H : Hp} {s : Shared}
theorem rep_keys {P : Program} {w : World} : ∀ {ks : List (Key × V)} {kvs : List (D × D)} {es : List DictEntry} {vs : List (Key × Value)}, RepKV X.K H ks kvs → KV ks vs → Pairs (mixKind P w) es vs →
    PyData.showableAll (kvs.map (·.1)) = true → (∀ t ∈ PyData.shownAll (kvs.map (·.1)), t.length ≤ sizeLine) →
    (∃ as, ReadsAll s.heap (es.map (·.key)) (kvs.map (·.1)) as) ∧ ReprAllK P w [] s.heap 0 (es.map (·.key)) (PyData.shownAll (kvs.map (·.1)))
  | _, _, _, _, .nil, r, p, _, _ => by
    cases r
    cases p
    exact ⟨⟨_, .nil⟩, by simp only [List.map_nil, PyData.shownAll]; exact .nil⟩
  | _, _, _, _, .cons (k := k) (d := d) (kvs := kvs) _ rk, r, p, hs, hz => by
    cases r with
    | cons r1 r2 =>
      cases p with
      | cons p1 p2 p3 =>
        obtain ⟨r1, _⟩ := r1
        dsimp only at r1
        have hs' : (kD k).showable = true ∧ PyData.showableAll (kvs.map (·.1)) = true := by simpa [PyData.showableAll] using hs
        have hz1 : (kD k).shown.length ≤ sizeLine := hz _ (by simp only [List.map_cons, PyData.shownAll]; exact List.mem_cons_self ..)
        obtain ⟨⟨as, q1⟩, q2⟩ := rep_keys rk r2 p3 hs'.2 fun t ht => hz t (by simp only [List.map_cons, PyData.shownAll]; exact List.mem_cons_of_mem _ ht)
        have p1' : keyIs k _ = true := r1 ▸ p1
        obtain ⟨k1, k2⟩ := key_shown (s := s) (P := P) (w := w) p1' hs'.1 hz1
        exact ⟨⟨_, .cons k1 q1⟩, by simp only [List.map_cons, PyData.shownAll]; exact .cons k2 q2⟩
theorem kv_vals {P : Program} {w : World} : ∀ {es : List DictEntry} {vs : List (Key × Value)} {ks : List (Key × V)}, Pairs (mixKind P w) es vs → KV ks vs → Vals (ks.map (·.2)) (es.map (·.val))
  | _, _, _, .nil, r => by
    cases r
    exact .nil
  | _, _, _, .cons _ p2 p3, r => by
    cases r with
    | cons r1 r2 => exact .cons (by dsimp only; rw [p2]; exact r1.2) (kv_vals p3 r2)
/-- how a thing is shown -/
def Shn (X : Cx) (s : Shared) (u : Value) (d : D) : Prop :=
  ∃ as bs, Reads s.heap u d as ∧ ReadAtMost s.heap d.depth bs ∧ ReprK X.prog X.w bs s.heap d.depth u d.shown ∧ ∀ a, u = .ref a → ∃ T idr, ShowsBy X.prog X.w s.heap a d T idr
def ShnAll (X : Cx) (s : Shared) (us : List Value) (ds : List D) : Prop :=
  ∃ as bs, ReadsAll s.heap us ds as ∧ ReadAtMost s.heap (PyData.depthAll ds) bs ∧ ReprAllK X.prog X.w bs s.heap (PyData.depthAll ds) us (PyData.shownAll ds)
theorem Shn.cons {u : Value} {us : List Value} {d : D} {ds : List D} (h : Shn X s u d) (h' : ShnAll X s us ds) : ShnAll X s (u :: us) (d :: ds) := by
  obtain ⟨a1, b1, r1, m1, k1, _⟩ := h
  obtain ⟨a2, b2, r2, m2, k2⟩ := h'
  refine ⟨_, b1 ++ b2, .cons r1 r2, ?_, ?_⟩
  · simp only [PyData.depthAll]
    exact (m1.mono (Nat.le_max_left _ _)).append (m2.mono (Nat.le_max_right _ _))
  · simp only [PyData.depthAll, PyData.shownAll]
    exact .cons ((k1.more fun b q => List.mem_append_left _ q).level_le (Nat.le_max_left _ _)) (k2.more_le (fun b q => List.mem_append_right _ q) (Nat.le_max_right _ _))
theorem shn_list {a : Addr} {o : Obj} {its : List Value} {n : Nat} {ds : List D} (ho : s.heap.get? a = some o) (hc : o.cls = .type "list") (hd : o.data = .seq its.toArray n) (h : ShnAll X s its ds) (hz : (PyData.list ds).shown.length ≤ sizeLine) : Shn X s (.ref a) (.list ds) := by
  have zt : (listText (PyData.shownAll ds)).length ≤ sizeLine := by simpa only [PyData.shown] using hz
  obtain ⟨as, bs, hr, hm, hk⟩ := h
  have rr : Reads s.heap (.ref a) (.list ds) (a :: as) := .list ho hc hd hr
  have out : a ∉ bs := not_mem_of_deeper rr (by simp only [PyData.depth]; omega) hm
  refine ⟨_, a :: bs, rr, ReadAtMost.cons rr (by simp only [PyData.depth]; omega) hm, ?_, fun b eb => ?_⟩
  · simp only [PyData.depth, PyData.shown]
    cases its with
    | nil =>
      cases hr
      simp only [PyData.shownAll, listText_nil]
      exact ReprK.listEmpty ho hc hd
    | cons y l => exact ReprK.list ho hc hd out (by simpa using hk.length_eq) fun i z e => hk.item i z (by simpa using e)
  · cases eb
    refine ⟨"list", "list.__repr__", F.slot_list_repr.toG, F.slot_list_str, F.slot_list_format, fun s' hk' => ⟨o, hk' _ _ ho, hc⟩, fun A E s' Q hg hu hk' hQ => ?_⟩
    simp only [PyData.depth] at hu
    simp only [PyData.shown] at hQ
    cases its with
    | nil =>
      cases hr
      simp only [PyData.shownAll, listText_nil] at hQ
      exact call_list_repr_empty ⟨o, hk' _ _ ho, hc⟩ (hk' _ _ ho) hd (hQ s'.heap _ _ fun _ _ e => e)
    | cons y l => exact call_list_reprK ho hc hd out (by simpa using hk.length_eq) (fun i z e => hk.item i z (by simpa using e)) hg (fun b _ => Clear.nil b) hu hk' hQ zt
theorem shn_tuple {a : Addr} {o : Obj} {its : List Value} {n : Nat} {ds : List D} (ho : s.heap.get? a = some o) (hc : o.cls = .type "tuple") (hd : o.data = .seq its.toArray n) (h : ShnAll X s its ds) (hz : (PyData.tuple ds).shown.length ≤ sizeLine) : Shn X s (.ref a) (.tuple ds) := by
  have zt : (tupleText (PyData.shownAll ds)).length ≤ sizeLine := by simpa only [PyData.shown] using hz
  obtain ⟨as, bs, hr, hm, hk⟩ := h
  have rr : Reads s.heap (.ref a) (.tuple ds) as := .tuple ho hc hd hr
  have out : a ∉ bs := not_mem_of_deeper rr (by simp only [PyData.depth]; omega) hm
  refine ⟨_, a :: bs, rr, ReadAtMost.cons rr (by simp only [PyData.depth]; omega) hm, ?_, fun b eb => ?_⟩
  · simp only [PyData.depth, PyData.shown]
    exact ReprK.tuple ho hc hd out hk
  · cases eb
    refine ⟨"tuple", "tuple.__repr__", F.slot_tuple_repr, F.slot_tuple_str, F.slot_tuple_format, fun s' hk' => ⟨o, hk' _ _ ho, hc⟩, fun A E s' Q hg hu hk' hQ => ?_⟩
    simp only [PyData.depth] at hu
    simp only [PyData.shown] at hQ
    exact call_tuple_reprK ho hc hd out hk hg (fun b _ => Clear.nil b) hu hk' hQ zt
theorem shn_dict {a : Addr} {o : Obj} {es : Array DictEntry} {n : Nat} {kvs : List (D × D)} (ho : s.heap.get? a = some o) (hc : o.cls = .type "dict") (hd : o.data = .dict es n) (hsys : (a == sysModules) = false)
    (hk : (∃ as, ReadsAll s.heap (es.toList.map (·.key)) (kvs.map (·.1)) as) ∧ ReprAllK X.prog X.w [] s.heap 0 (es.toList.map (·.key)) (PyData.shownAll (kvs.map (·.1))))
    (hv : ShnAll X s (es.toList.map (·.val)) (kvs.map (·.2))) (hz : (PyData.dict kvs).shown.length ≤ sizeLine) : Shn X s (.ref a) (.dict kvs) := by
  have zt : (dictText (PyData.shownKv kvs)).length ≤ sizeLine := by simpa only [PyData.shown] using hz
  obtain ⟨⟨a1, r1⟩, k1⟩ := hk
  obtain ⟨a2, b2, r2, m2, k2⟩ := hv
  have rr : Reads s.heap (.ref a) (.dict kvs) (a :: a1 ++ a2) := .dict ho hc hd r1 r2
  have mm : ReadAtMost s.heap (PyData.depthKv kvs) b2 := m2.mono (PyData.depthAll_vals_le kvs)
  have out : a ∉ b2 := not_mem_of_deeper rr (by simp only [PyData.depth]; omega) mm
  have ent := ReprEntriesK.of_two es.toList _ _ (k1.more_le (as' := b2) (fun b q => absurd q (by simp)) (Nat.zero_le (PyData.depthKv kvs))) (k2.more_le (fun b q => q) (PyData.depthAll_vals_le kvs))
  refine ⟨_, a :: b2, rr, ReadAtMost.cons rr (by simp only [PyData.depth]; omega) mm, ?_, fun b eb => ?_⟩
  · simp only [PyData.depth, PyData.shown, PyData.shownKv_eq]
    exact ReprK.dict ho hc hd hsys out ent
  · cases eb
    refine ⟨"dict", "dict.__repr__", F.slot_dict_repr, F.slot_dict_str, F.slot_dict_format, fun s' hk' => ⟨o, hk' _ _ ho, hc⟩, fun A E s' Q hg hu hk' hQ => ?_⟩
    simp only [PyData.depth] at hu
    simp only [PyData.shown, PyData.shownKv_eq] at hQ
    exact call_dict_reprK ho hc hd hsys out ent hg (fun b _ => Clear.nil b) hu hk' hQ (by rw [← PyData.shownKv_eq]; exact zt)
mutual
theorem Rep.shn (I : Inv X pins σ H s) : ∀ (d : D) (v : V) (u : Value), Rep X.K H v d → RelV v u → dcOk d = true → d.showable = true → d.shown.length ≤ sizeLine → Shn X s u d
  | .none, _, _, h, r, _, _, _ => by
    cases h
    cases r
    exact ⟨[], [], .none, (fun _ q => nomatch q), by simp only [PyData.shown]; exact .of_is ReprIs.none _ _ _, fun _ q => nomatch q⟩
  | .bool b, _, _, h, r, _, _, _ => by
    cases h
    cases r
    exact ⟨[], [], .bool b, (fun _ q => nomatch q), by simp only [PyData.shown]; exact .of_is (ReprIs.bool b) _ _ _, fun _ q => nomatch q⟩
  | .int i, _, _, h, r, _, sw, _ => by
    cases h
    obtain ⟨t, rfl⟩ := r
    exact ⟨[], [], .int i t, (fun _ q => nomatch q), by simp only [PyData.shown]; exact .of_is (ReprIs.int t (by simpa [PyData.showable] using sw)) _ _ _, fun _ q => nomatch q⟩
  | .str x, _, _, h, r, _, _, hz => by
    cases h
    obtain ⟨t, rfl⟩ := r
    exact ⟨[], [], .str x t, (fun _ q => nomatch q), by simp only [PyData.shown]; exact .of_is (ReprIs.str x t (by simpa only [PyData.shown] using hz)) _ _ _, fun _ q => nomatch q⟩
  | .list ds, _, _, h, r, ok, sw, hz => by
    cases h with
    | lst h1 ra =>
      cases r
      obtain ⟨its, rv, ⟨oo, n, ho, hc, _, hd⟩, _⟩ := I.list h1.sq
      exact shn_list ho hc hd (Rep.shnAll I ds _ its ra rv (by simpa [dcOk] using ok) (by simpa [PyData.showable] using sw) fun t q => Nat.le_trans (listText_mem_le q) (by simpa only [PyData.shown] using hz)) hz
  | .tuple ds, _, _, h, r, ok, sw, hz => by
    cases h with
    | tup h1 ra =>
      cases r
      obtain ⟨its, rv, ⟨oo, ho, hc, n, hd⟩, _⟩ := I.tuple h1.sq
      exact shn_tuple ho hc hd (Rep.shnAll I ds _ its ra rv (by simpa [dcOk] using ok) (by simpa [PyData.showable] using sw) fun t q => Nat.le_trans (tupleText_mem_le q) (by simpa only [PyData.shown] using hz)) hz
  | .dict kvs, _, _, h, r, ok, sw, hz => by
    cases h with
    | dct h1 rk =>
      cases r
      obtain ⟨_, _, hsys, vs, kv, ob, es, ep, hg, hx, hdt, _, pr, _⟩ := I.hok _ _ h1
      obtain ⟨s1, s2⟩ := PyData.showableKv_split kvs (by simpa [PyData.showable] using sw)
      have zt : (dictText (PyData.shownKv kvs)).length ≤ sizeLine := by simpa only [PyData.shown] using hz
      exact shn_dict hg hx.1 hdt hsys (rep_keys rk kv pr s1 fun t q => let ⟨p, hp, hl⟩ := PyData.shownKv_key_le kvs t q; Nat.le_trans hl (Nat.le_trans (dictText_mem_le hp) zt))
        (Rep.shnKv I kvs _ _ rk (kv_vals pr kv) (by simpa [dcOk] using ok) s2 fun t q => let ⟨p, hp, hl⟩ := PyData.shownKv_val_le kvs t q; Nat.le_trans hl (Nat.le_trans (dictText_mem_le hp) zt)) hz
    | _ => simp [dcOk, dcKv, keyOk] at ok
theorem Rep.shnAll (I : Inv X pins σ H s) : ∀ (ds : List D) (vs : List V) (us : List Value), RepAll X.K H vs ds → Vals vs us → dcAll ds = true → PyData.showableAll ds = true → (∀ t ∈ PyData.shownAll ds, t.length ≤ sizeLine) → ShnAll X s us ds
  | [], _, _, h, r, _, _, _ => by
    cases h
    cases r
    exact ⟨_, [], .nil, (fun _ q => nomatch q), by simp only [PyData.shownAll]; exact .nil⟩
  | d :: ds, _, _, h, r, ok, sw, hz => by
    cases h with
    | cons h1 h2 =>
      cases r with
      | cons r1 r2 =>
        have ok' : dcOk d = true ∧ dcAll ds = true := by simpa [dcAll] using ok
        have sw' : d.showable = true ∧ PyData.showableAll ds = true := by simpa [PyData.showableAll] using sw
        exact (Rep.shn I d _ _ h1 r1 ok'.1 sw'.1 (hz _ (by simp only [PyData.shownAll]; exact List.mem_cons_self ..))).cons (Rep.shnAll I ds _ _ h2 r2 ok'.2 sw'.2 fun t q => hz t (by simp only [PyData.shownAll]; exact List.mem_cons_of_mem _ q))
theorem Rep.shnKv (I : Inv X pins σ H s) : ∀ (kvs : List (D × D)) (ks : List (Key × V)) (us : List Value), RepKV X.K H ks kvs → Vals (ks.map (·.2)) us → dcKv kvs = true → PyData.showableAll (kvs.map (·.2)) = true → (∀ t ∈ PyData.shownAll (kvs.map (·.2)), t.length ≤ sizeLine) → ShnAll X s us (kvs.map (·.2))
  | [], _, _, h, r, _, _, _ => by
    cases h
    cases r
    exact ⟨_, [], .nil, (fun _ q => nomatch q), by simp only [List.map_nil, PyData.shownAll]; exact .nil⟩
  | p :: kvs, _, _, h, r, ok, sw, hz => by
    obtain ⟨p1, p2⟩ := p
    cases h with
    | cons h1 h2 =>
      cases r with
      | cons r1 r2 =>
        have ok' : dcOk p2 = true ∧ dcKv kvs = true := by
          simp only [dcKv, Bool.and_eq_true] at ok
          exact ⟨ok.1.2, ok.2⟩
        have sw' : p2.showable = true ∧ PyData.showableAll (kvs.map (·.2)) = true := by simpa [PyData.showableAll] using sw
        exact (Rep.shn I p2 _ _ h1 r1 ok'.1 sw'.1 (hz _ (by simp only [List.map_cons, PyData.shownAll]; exact List.mem_cons_self ..))).cons (Rep.shnKv I kvs _ _ h2 r2 ok'.2 sw'.2 fun t q => hz t (by simp only [List.map_cons, PyData.shownAll]; exact List.mem_cons_of_mem _ q))
end
end
theorem q_reprV {X : Cx} (gd : X.A.guards = some []) {d : D} (ok : dcOk d = true) (sh : d.showable = true) (hu : X.A.units + (d.depth + 1) < cLine) (sz : d.shown.length ≤ sizeLine) : CallG X (.builtin "repr") 0 [d] (.str d.shown) := fun pins s σ H xs us Q I rv ⟨r, q⟩ => by
  obtain ⟨v, rfl, h⟩ := rep1 r
  obtain ⟨u, rfl, ru⟩ := vals1 rv
  have leaf : leafD d = true → _ := fun z => q_reprL (X := X) z pins s σ H _ _ Q I rv ⟨.cons h .nil, q⟩
  have sh0 := Rep.shn I d v u h ru ok sh sz
  obtain ⟨_, _, _, _, _, hS⟩ := sh0
  have fin : ∀ a, u = .ref a → wpAny (model X.prog X.w) X.A (call (.builtin "repr") [u]) (EP X pins σ Q) X.xe s := fun a e => by
    subst e
    obtain ⟨T, idr, S⟩ := hS a rfl
    exact call_repr_slot (by omega) (S.typeIs s fun _ _ e => e) S.slotRepr (S.call X.A.in1 X.xe s _ gd (by show X.A.units + 1 + d.depth < cLine; omega) (fun _ _ e => e) fun h' t tk hk => ⟨_, _, rfl, .str d.shown, H, I.kept hk, ⟨t, rfl⟩, q _ H [] ⟨.str _, rfl⟩ List.nodup_nil .refl⟩)
  cases d with
  | none => exact leaf rfl
  | bool b => exact leaf rfl
  | int i => exact leaf (by simpa [PyData.showable, leafD] using sh)
  | str x => exact leaf (decide_eq_true (by rw [sizeLine_eq] at sz; simpa only [PyData.shown] using sz))
  | list ds => cases h with | lst _ _ => cases ru; exact fin _ rfl
  | tuple ds => cases h with | tup _ _ => cases ru; exact fin _ rfl
  | dict kvs => cases h <;> (cases ru; exact fin _ rfl)
end DL
set_option Elab.async false
set_option linter.all false
set_option maxRecDepth 100000
set_option maxHeartbeats 2000000
namespace DL
open PySem PySem.Spec PyProof.Rows L2
/-! ### data by weight -/
mutual
def wt : D → Nat
  | .list ds => wtA ds + 100
  | .tuple ds => wtA ds + 100
  | .dict kvs => wtK kvs + 100
  | _ => 1000
def wtA : List D → Nat
  | [] => 0
  | d :: ds => wt d + 2 + wtA ds
def wtK : List (D × D) → Nat
  | [] => 0
  | p :: r => wt p.1 + wt p.2 + 4 + wtK r
end
mutual
def gd : D → Bool
  | .list ds => gdA ds
  | .tuple ds => gdA ds
  | .dict kvs => gdK kvs
  | .int i => decide (i.natAbs < 10 ^ 90)
  | .str x => decide ((reprText x).length ≤ 1000)
  | _ => true
def gdA : List D → Bool
  | [] => true
  | d :: ds => gd d && gdA ds
def gdK : List (D × D) → Bool
  | [] => true
  | p :: r => keyOk p.1 && gd p.1 && gd p.2 && gdK r
end
theorem gdA_iff : ∀ {ds : List D}, gdA ds = true ↔ ∀ d ∈ ds, gd d = true
  | [] => by simp [gdA]
  | d :: ds => by simp [gdA, gdA_iff (ds := ds)]
theorem wtA_app : ∀ {l l' : List D}, wtA (l ++ l') = wtA l + wtA l'
  | [], l' => by simp [wtA]
  | d :: l, l' => by simp only [List.cons_append, wtA, wtA_app (l := l)]; omega
theorem wt_pos : ∀ d : D, 100 ≤ wt d
  | .list ds => by simp only [wt]; omega
  | .tuple ds => by simp only [wt]; omega
  | .dict ds => by simp only [wt]; omega
  | .none => by simp [wt]
  | .bool _ => by simp [wt]
  | .int _ => by simp [wt]
  | .str _ => by simp [wt]
theorem wtA_len : ∀ ds : List D, 100 * ds.length ≤ wtA ds
  | [] => by simp
  | d :: ds => by
    have := wt_pos d
    have := wtA_len ds
    simp only [List.length_cons, wtA]; omega
theorem wtA_sub {l l' : List D} (h : l.Sublist l') : wtA l ≤ wtA l' := by
  induction h with
  | slnil => exact Nat.le_refl _
  | cons a _ ih => simp only [wtA]; omega
  | cons_cons a _ ih => simp only [wtA]; omega
theorem wtA_rev : ∀ l : List D, wtA l.reverse = wtA l
  | [] => rfl
  | d :: l => by
    rw [List.reverse_cons, wtA_app, wtA_rev l]
    simp only [wtA]; omega
theorem wtA_mem {l : List D} {d : D} (h : d ∈ l) : wt d + 2 ≤ wtA l := by
  induction l with
  | nil => simp at h
  | cons a l ih =>
    simp only [wtA]
    rcases List.mem_cons.mp h with rfl | h
    · omega
    · have := ih h; omega
theorem piled_wt : ∀ {ds : List D}, (∀ d ∈ ds, d.shown.length ≤ wt d) → piled (PyData.shownAll ds) ≤ wtA ds
  | [], _ => by simp [piled, PyData.shownAll, wtA]
  | d :: ds, h => by
    have ih := piled_wt (ds := ds) fun x m => h x (List.mem_cons_of_mem _ m)
    have := h d List.mem_cons_self
    have e : piled (PyData.shownAll (d :: ds)) = d.shown.length + 2 + piled (PyData.shownAll ds) := by simp [piled, PyData.shownAll]
    rw [e]
    simp only [wtA]; omega
theorem join_piled (ts : List Str) : (Str.join ", " ts).length ≤ piled ts := by
  by_cases e : ts = []
  · subst e; show (0 : Nat) ≤ _; omega
  · have := join_length_add _ e
    omega
theorem piled_sum : ∀ ts : List Str, (ts.map (·.length)).sum + 2 * ts.length = piled ts
  | [] => rfl
  | t :: r => by
    have ih := piled_sum r
    have e : piled (t :: r) = t.length + 2 + piled r := by simp [piled]
    rw [e, ← ih]
    simp only [List.map_cons, List.sum_cons, List.length_cons]; omega
theorem piled_kv : ∀ {kvs : List (D × D)}, (∀ p ∈ kvs, p.1.shown.length ≤ wt p.1 ∧ p.2.shown.length ≤ wt p.2) → piled (PyData.shownKv kvs) ≤ wtK kvs
  | [], _ => by simp [piled, PyData.shownKv, wtK]
  | p :: kvs, h => by
    have ih := piled_kv (kvs := kvs) fun x m => h x (List.mem_cons_of_mem _ m)
    obtain ⟨h1, h2⟩ := h p List.mem_cons_self
    have e : piled (PyData.shownKv (p :: kvs)) = (p.1.shown ++ ": " ++ p.2.shown).length + 2 + piled (PyData.shownKv kvs) := by simp [piled, PyData.shownKv]
    rw [e, strLen_append, strLen_append]
    have c : ((": " : String) : Str).length = 2 := by decide
    simp only [wtK]; omega
mutual
theorem shown_wt : ∀ {d : D}, gd d = true → d.shown.length ≤ wt d
  | .none, _ => by decide
  | .bool b, _ => by cases b <;> decide
  | .int i, h => by
    simp only [PyData.shown, wt]
    rw [PySem.ofString_length]
    have := int_text_length_le10 (a := i) (k := 90) (by decide) (of_decide_eq_true h)
    omega
  | .str x, h => by
    simp only [PyData.shown, wt]
    exact of_decide_eq_true h
  | .list ds, h => by
    have p := piled_wt (ds := ds) (shownA_wt (by simpa [gd] using h))
    have j := textFrom_len_le (PyData.shownAll ds) 0 "["
    have j2 := piled_sum (PyData.shownAll ds)
    simp only [PyData.shown, wt]
    unfold listText
    rw [strLen_append]
    have o : (("[" : String) : Str).length = 1 := by decide
    have c : (("]" : String) : Str).length = 1 := by decide
    omega
  | .tuple ds, h => by
    have p := piled_wt (ds := ds) (shownA_wt (by simpa [gd] using h))
    have j := join_piled (PyData.shownAll ds)
    simp only [PyData.shown, wt]
    unfold tupleText
    rw [strLen_append, strLen_append]
    have o : (("(" : String) : Str).length = 1 := by decide
    have c : (((if (PyData.shownAll ds).length == 1 then ",)" else ")" : String) : Str)).length ≤ 2 := by split <;> decide
    omega
  | .dict kvs, h => by
    have p := piled_kv (kvs := kvs) (shownK_wt (by simpa [gd] using h))
    have j := join_piled (PyData.shownKv kvs)
    simp only [PyData.shown, wt]
    unfold dictText
    rw [strLen_append, strLen_append]
    have o : (("{" : String) : Str).length = 1 := by decide
    have c : (("}" : String) : Str).length = 1 := by decide
    omega
theorem shownA_wt : ∀ {ds : List D}, gdA ds = true → ∀ d ∈ ds, d.shown.length ≤ wt d
  | [], _, _, m => by simp at m
  | d :: ds, h, e, m => by
    have h' : gd d = true ∧ gdA ds = true := by simpa [gdA] using h
    rcases List.mem_cons.mp m with z | z
    · rw [z]; exact shown_wt h'.1
    · exact shownA_wt h'.2 e z
theorem shownK_wt : ∀ {kvs : List (D × D)}, gdK kvs = true → ∀ p ∈ kvs, p.1.shown.length ≤ wt p.1 ∧ p.2.shown.length ≤ wt p.2
  | [], _, _, m => by simp at m
  | p :: r, h, e, m => by
    have h' : ((keyOk p.1 = true ∧ gd p.1 = true) ∧ gd p.2 = true) ∧ gdK r = true := by simpa [gdK] using h
    rcases List.mem_cons.mp m with z | z
    · rw [z]; exact ⟨shown_wt h'.1.1.2, shown_wt h'.1.2⟩
    · exact shownK_wt h'.2 e z
end
mutual
theorem gd_dc : ∀ {d : D}, gd d = true → dcOk d = true ∧ d.showable = true
  | .none, _ => ⟨rfl, rfl⟩
  | .bool _, _ => ⟨rfl, rfl⟩
  | .int i, h => ⟨rfl, by
    have h := of_decide_eq_true h
    simp only [PyData.showable, decide_eq_true_eq]
    rcases Nat.eq_zero_or_pos i.natAbs with z | z
    · rw [z]; decide
    · exact Nat.lt_trans ((Nat.log2_lt (by omega)).mpr (Nat.lt_trans h (by decide : 10 ^ 90 < 2 ^ 300))) (by decide)⟩
  | .str _, _ => ⟨rfl, rfl⟩
  | .list ds, h => by simpa [dcOk, PyData.showable] using gdA_dc (by simpa [gd] using h)
  | .tuple ds, h => by simpa [dcOk, PyData.showable] using gdA_dc (by simpa [gd] using h)
  | .dict kvs, h => by simpa [dcOk, PyData.showable] using gdK_dc (by simpa [gd] using h)
theorem gdA_dc : ∀ {ds : List D}, gdA ds = true → dcAll ds = true ∧ PyData.showableAll ds = true
  | [], _ => ⟨rfl, rfl⟩
  | d :: ds, h => by
    have h' : gd d = true ∧ gdA ds = true := by simpa [gdA] using h
    have a := gd_dc h'.1
    have b := gdA_dc h'.2
    simp [dcAll, PyData.showableAll, a.1, a.2, b.1, b.2]
theorem gdK_dc : ∀ {kvs : List (D × D)}, gdK kvs = true → dcKv kvs = true ∧ PyData.showableKv kvs = true
  | [], _ => ⟨rfl, rfl⟩
  | p :: r, h => by
    have h' : ((keyOk p.1 = true ∧ gd p.1 = true) ∧ gd p.2 = true) ∧ gdK r = true := by simpa [gdK] using h
    have a := gd_dc h'.1.2
    have c := gd_dc h'.1.1.2
    have b := gdK_dc h'.2
    simp [dcKv, PyData.showableKv, a.1, a.2, b.1, b.2, c.2, h'.1.1.1]
end
/-- repr of good data -/
theorem q_reprG {X : Cx} (gd' : X.A.guards = some []) {d : D} (h : gd d = true) (hd : d.depth ≤ 40) (hw : wt d ≤ 16000000) (hu : X.A.units + 64 < cLine) : CallG X (.builtin "repr") 0 [d] (.str d.shown) :=
  q_reprV gd' (gd_dc h).1 (gd_dc h).2 (by omega) (by rw [sizeLine_eq]; exact Nat.le_trans (shown_wt h) (by omega))
/-! ### of any kind, good, of such a depth and weight -/
structure Vw (N k : Nat) (d : D) : Prop where
  gd : gd d = true
  dp : d.depth ≤ k
  wt : wt d ≤ N
theorem Vw.mono {N N' k k' : Nat} {d : D} (h : Vw N k d) (hN : N ≤ N') (hk : k ≤ k') : Vw N' k' d := ⟨h.gd, Nat.le_trans h.dp hk, Nat.le_trans h.wt hN⟩
def vwB (N k : Nat) (d : D) : Bool := DL.gd d && decide (d.depth ≤ k) && decide (DL.wt d ≤ N)
theorem vw_of {N k : Nat} {d : D} (h : vwB N k d = true) : Vw N k d := by
  simp only [vwB, Bool.and_eq_true, decide_eq_true_eq] at h
  exact ⟨h.1.1, h.1.2, h.2⟩
theorem depthA_le {k : Nat} : ∀ {ds : List D}, (∀ d ∈ ds, d.depth ≤ k) → PyData.depthAll ds ≤ k
  | [], _ => Nat.zero_le _
  | d :: ds, h => by
    rw [PyData.depthAll]
    exact Nat.max_le.mpr ⟨h d List.mem_cons_self, depthA_le fun x m => h x (List.mem_cons_of_mem _ m)⟩
theorem depthA_mem {d : D} : ∀ {ds : List D}, d ∈ ds → d.depth ≤ PyData.depthAll ds
  | e :: ds, m => by
    rw [PyData.depthAll]
    rcases List.mem_cons.mp m with rfl | m
    · exact Nat.le_max_left _ _
    · exact Nat.le_trans (depthA_mem m) (Nat.le_max_right _ _)
theorem vw_tup {N k : Nat} {ds : List D} (h : ∀ d ∈ ds, gd d = true ∧ d.depth ≤ k) (hw : wtA ds + 100 ≤ N) : Vw N (k + 1) (.tuple ds) :=
  ⟨by simp only [gd]; exact gdA_iff.mpr fun d m => (h d m).1, by rw [PyData.depth]; have := depthA_le fun d m => (h d m).2; omega, by simpa [wt] using hw⟩
theorem vw_lst {N k : Nat} {ds : List D} (h : ∀ d ∈ ds, gd d = true ∧ d.depth ≤ k) (hw : wtA ds + 100 ≤ N) : Vw N (k + 1) (.list ds) :=
  ⟨by simp only [gd]; exact gdA_iff.mpr fun d m => (h d m).1, by rw [PyData.depth]; have := depthA_le fun d m => (h d m).2; omega, by simpa [wt] using hw⟩
theorem Vw.tup {N k : Nat} {ds : List D} (h : Vw N k (.tuple ds)) : ∃ j, k = j + 1 ∧ (∀ d ∈ ds, DL.gd d = true ∧ d.depth ≤ j) ∧ wtA ds + 100 ≤ N := by
  have h1 := h.dp
  rw [PyData.depth] at h1
  refine ⟨k - 1, by omega, fun d m => ⟨gdA_iff.mp (by simpa [DL.gd] using h.gd) d m, ?_⟩, by simpa [DL.wt] using h.wt⟩
  have := depthA_mem m
  omega
mutual
theorem gd_ok : ∀ {d : D}, gd d = true → wt d ≤ 900000 → okD d = true
  | .none, _, _ => rfl
  | .bool _, _, _ => rfl
  | .int _, _, _ => rfl
  | .str x, h, _ => by
    have := of_decide_eq_true h
    first | rfl | simp only [okD, decide_eq_true_eq]; omega
  | .list ds, h, w => by
    have w : wtA ds + 100 ≤ 900000 := by simpa [wt] using w
    have l := wtA_len ds
    exact okD_lst (by omega) (gdA_ok (by simpa [gd] using h) (by omega))
  | .tuple ds, h, w => by
    have w : wtA ds + 100 ≤ 900000 := by simpa [wt] using w
    have l := wtA_len ds
    exact okD_tup (by omega) (gdA_ok (by simpa [gd] using h) (by omega))
  | .dict kvs, h, w => by
    have w : wtK kvs + 100 ≤ 900000 := by simpa [wt] using w
    simp only [okD, Bool.or_eq_true, Bool.and_eq_true, decide_eq_true_eq, okKV_iff]
    exact .inr (gdK_ok (by simpa [gd] using h) (by omega))
theorem gdA_ok : ∀ {ds : List D}, gdA ds = true → wtA ds ≤ 900000 → ∀ d ∈ ds, okD d = true
  | [], _, _, _, m => by simp at m
  | d :: ds, h, w, e, m => by
    have h' : gd d = true ∧ gdA ds = true := by simpa [gdA] using h
    simp only [wtA] at w
    rcases List.mem_cons.mp m with z | z
    · rw [z]; exact gd_ok h'.1 (by omega)
    · exact gdA_ok h'.2 (by omega) e z
theorem gdK_ok : ∀ {kvs : List (D × D)}, gdK kvs = true → wtK kvs ≤ 900000 → kvs.length ≤ 10000 ∧ ∀ p ∈ kvs, keyOk p.1 = true ∧ okD p.2 = true
  | [], _, _ => ⟨by simp, fun _ m => by simp at m⟩
  | p :: r, h, w => by
    have h' : ((keyOk p.1 = true ∧ gd p.1 = true) ∧ gd p.2 = true) ∧ gdK r = true := by simpa [gdK] using h
    simp only [wtK] at w
    have p1 := wt_pos p.1
    have p2 := wt_pos p.2
    have b := gdK_ok h'.2 (by omega)
    have bl := wtK_len r
    refine ⟨by simp only [List.length_cons]; omega, fun q m => ?_⟩
    rcases List.mem_cons.mp m with z | z
    · rw [z]; exact ⟨h'.1.1.1, gd_ok h'.1.2 (by omega)⟩
    · exact b.2 q z
theorem wtK_len : ∀ kvs : List (D × D), 200 * kvs.length ≤ wtK kvs
  | [] => by simp
  | p :: r => by
    have := wt_pos p.1
    have := wt_pos p.2
    have := wtK_len r
    simp only [List.length_cons, wtK]; omega
end
theorem Vw.ok {N k : Nat} {d : D} (h : Vw N k d) (hN : N ≤ 900000) : okD d = true := gd_ok h.gd (Nat.le_trans h.wt hN)
/-! ### tuples in one another, of small numbers -/
mutual
def itV : D → Bool
  | .int i => decide (i.natAbs ≤ 10 ^ 41)
  | .tuple ds => itA ds
  | _ => false
def itA : List D → Bool
  | [] => true
  | d :: ds => itV d && itA ds
end
theorem itA_iff : ∀ {ds : List D}, itA ds = true ↔ ∀ d ∈ ds, itV d = true
  | [] => by simp [itA]
  | d :: ds => by simp [itA, itA_iff (ds := ds)]
mutual
theorem itV_gd : ∀ {d : D}, itV d = true → gd d = true
  | .int i, h => by
    have h : i.natAbs ≤ 10 ^ 41 := of_decide_eq_true h
    simp only [gd, decide_eq_true_eq]
    exact Nat.lt_of_le_of_lt h (by decide)
  | .tuple ds, h => by
    simp only [gd]
    exact itA_gd (by simpa [itV] using h)
theorem itA_gd : ∀ {ds : List D}, itA ds = true → gdA ds = true
  | [], _ => rfl
  | d :: ds, h => by
    have h' : itV d = true ∧ itA ds = true := by simpa [itA] using h
    simp only [gdA, itV_gd h'.1, itA_gd h'.2, Bool.and_self]
end
end DL
set_option Elab.async false
set_option linter.all false
set_option maxRecDepth 100000
set_option maxHeartbeats 1000000
namespace DL
open PySem PySem.Spec PyProof.Rows L2
/-! ### texts and numbers -/
section
variable {X : Cx}
def repS (x : Str) (k : Int) : Str := ⟨(List.replicate k.toNat x.cps).foldl (· ++ ·) #[]⟩
theorem b_strRep {x : Str} {k : Int} (h2 : 2 ≤ k) (hk : k ≤ 1000) (h1 : 1 ≤ x.length) (hb : (x.length : Int) ≤ (2 ^ 63 - 1) / k) (ht : PySem.Builtin.Str.tooLong (x.length * k.toNat) = false) (hy : (repS x k).length ≤ sizeLine) : BinG X (binaryOp .Mult) 0 (.str x) (.int k) (.str (repS x k)) :=
  fun pins s σ H a b v u Q I rx ry ⟨r1, r2, q⟩ => by
    cases r1
    cases r2
    obtain ⟨t, rfl⟩ := rx
    obtain ⟨t2, rfl⟩ := ry
    have n1 : ¬ k < 1 := by omega
    have n2 : (k == 1 || x.length == 0) = false := by
      rw [Bool.or_eq_false_iff]
      exact ⟨beq_eq_false_iff_ne.mpr (by omega), beq_eq_false_iff_ne.mpr (by omega)⟩
    refine PySem.P.mul_str (by rw [decide_eq_false (by omega), decide_eq_false (by omega)]; rfl) (fun _ _ => by omega) (fun _ _ => ht) ?_
    rw [if_neg n1, n2]
    exact ⟨hy, .str _, H, I.tok _, ⟨_, rfl⟩, q _ H [] ⟨.str _, rfl⟩ List.nodup_nil .refl⟩
theorem q_intS {x : Str} {n : Int} (h : PySem.intText? x = some n) (hl : x.length ≤ 640) : CallG X (.type "int") 0 [.str x] (.int n) := fun pins s σ H xs us Q I rv ⟨r, q⟩ => by
  obtain ⟨v, rfl, h1⟩ := rep1 r
  cases h1
  exact call_int_str pins s σ H _ us Q I rv ⟨x, n, rfl, h, hl, q _ H [] (Own.int _) List.nodup_nil .refl⟩
theorem q_strI {i : Int} (h : i.natAbs.log2 < 1920) : CallG X (.type "str") 0 [.int i] (.str (toString i)) := fun pins s σ H xs us Q I rv ⟨r, q⟩ => by
  obtain ⟨v, rfl, h1⟩ := rep1 r
  cases h1
  exact call_str_int pins s σ H _ us Q I rv ⟨i, rfl, h, q _ H [] ⟨.str _, rfl⟩ List.nodup_nil .refl⟩
end
/-- {} -/
theorem eg_disp0 {X : Cx} {R : XP} {Γ : Gam} {pos : Pos} {n : Nat} {P : D → Gam → Prop} (h : P (.dict []) Γ) : EG X R (n + 1) (.Dict [] [] pos) Γ P :=
  eg_of pe_dnewK fun σ H Q fp hE k p0 hp => by
    have E1 := hE.alloc (o := .dK []) hp
    have np : p0 ∉ fp := fun m => (hE.1.wr p0 m).ne hp
    exact k (.ref p0) (.dict []) [p0] Γ _ fp h (.inr (.inl ⟨p0, [], [], [], rfl, rfl, upd_same, .nil, rfl⟩)) E1.1 (List.nodup_cons.mpr ⟨np, hE.2⟩) (Fr.alloc hp)
end DL
set_option Elab.async false
set_option linter.all false
set_option maxRecDepth 100000
set_option maxHeartbeats 1000000
namespace DL
open PySem PySem.Spec PyProof.Rows L2 HT
/-! ### t[::-1] of a tuple -/
section
variable {prog : Program} {w : World} {A : Around} {E : Value → Shared → Prop} {s : Shared}
theorem adj_back (n : Nat) : Builtin.Slice.sliceAdjust none none (-1) (n : Int) = ((n : Int) - 1, -1) := by
  unfold Builtin.Slice.sliceAdjust
  simp
theorem pl_back (n : Nat) : Builtin.Slice.slicePlaces ((n : Int) - 1) (-1) (-1) = n := by
  unfold Builtin.Slice.slicePlaces
  simp
  all_goals omega
theorem applied_back {z : Addr} {a b c : Value} {n : Nat} {Q : Int × Int × Nat → Shared → Prop} (hz : s.heap.IsSliceOf z a b c) (pa : IsPart a none) (pb : IsPart b none) (pc : IsPart c (some (-1))) (h : Q ((n : Int) - 1, -1, n) s) : wpAny (model prog w) A (Builtin.Slice.sliceApplied (.ref z) (pure (n : Int))) Q E s := by
  obtain ⟨oz, e1, e2, e3⟩ := id hz
  unfold Builtin.Slice.sliceApplied Builtin.Slice.sliceFields
  refine wpAny_bind (wpAny_bind (wpAny_field e1 e3 (x := a) rfl (wpAny_bind (wpAny_field e1 e3 (x := b) rfl (wpAny_bind (wpAny_field e1 e3 (x := c) rfl (wpAny_pure ?_)))))))
  refine wpAny_bind (slicePart_ pc ?_)
  show wpAny _ _ (if ((-1 : Int) == 0) = true then _ else _) _ _ s
  rw [if_neg (by decide)]
  refine wpAny_bind (slicePart_ pa (wpAny_bind (slicePart_ pb (wpAny_bind (wpAny_pure ?_)))))
  show wpAny _ _ (match Builtin.Slice.sliceAdjust none none (-1) (n : Int) with | (lo, hi) => pure (lo, (-1 : Int), Builtin.Slice.slicePlaces lo hi (-1))) _ _ s
  rw [adj_back n]
  show wpAny _ _ (pure ((n : Int) - 1, (-1 : Int), Builtin.Slice.slicePlaces ((n : Int) - 1) (-1) (-1))) _ _ s
  rw [pl_back]
  exact wpAny_pure h
theorem fm_congr {α β : Type} {f g : α → Option β} : ∀ {l : List α}, (∀ x ∈ l, f x = g x) → l.filterMap f = l.filterMap g
  | [], _ => rfl
  | a :: l, h => by
    have ih := fm_congr (l := l) fun x m => h x (List.mem_cons_of_mem _ m)
    rw [List.filterMap_cons, List.filterMap_cons, h a List.mem_cons_self, ih]
theorem fm_take {α : Type} (l : List α) : ∀ n, (List.range n).filterMap (fun m => l[m]?) = l.take n
  | 0 => rfl
  | n + 1 => by
    rw [List.range_succ, List.filterMap_append, fm_take l n, List.take_succ]
    congr 1
    all_goals (first | rfl | (cases e : l[n]? <;> simp_all))
theorem pick_back (xs : Array Value) : ((List.range xs.size).filterMap fun (m : Nat) => xs[((xs.size : Int) - 1 + (m : Int) * (-1)).toNat]?).toArray = xs.toList.reverse.toArray := by
  congr 1
  rw [fm_congr (g := fun m => (xs.toList.reverse)[m]?) fun m hm => ?_]
  · rw [fm_take]
    exact List.take_of_length_le (by simp)
  · have hm := List.mem_range.mp hm
    rw [List.getElem?_reverse (by simpa using hm), show ((xs.size : Int) - 1 + (m : Int) * (-1)).toNat = xs.size - 1 - m by omega]
    simp
theorem item_back {t z : Addr} {items : Array Value} {a b c : Value} {Q : Value → Shared → Prop} (h0 : IsTup s.heap t items) (hz : s.heap.IsSliceOf z a b c) (pa : IsPart a none) (pb : IsPart b none) (pc : IsPart c (some (-1)))
    (h : Q (.ref s.heap.objs.size) { s with heap := s.heap.push { cls := .type "tuple", data := .seq items.toList.reverse.toArray } }) (sz : items.size ≤ sizeLine) : wpAny (model prog w) A (getItem (.ref t) (.ref z)) Q E s := by
  have fit : sizeOk (.seq items.toList.reverse.toArray) := by
    show items.toList.reverse.toArray.size ≤ sizeLine
    simpa using sz
  obtain ⟨oz, e1, e2, e3⟩ := id hz
  have ty : s.TypeIs (.ref z) "slice" := ⟨oz, e1, e2⟩
  unfold getItem
  try with_reducible refine wpAny_holding ?_
  first | refine wpAny_bind (wpAny_pure ?_) | skip
  refine wpAny_bind (wpAny_sequenceKey h0.typeIs (by decide) ?_)
  refine wpAny_bind (wpAny_callSpecial?_slot (name := Str.ofString "__getitem__") h0.typeIs PyProof.Rows.slot_tuple_getitem (wpAny_call_entry PyProof.Rows.slot_tuple_getitem h0.typeIs entry_tuple_getitem ?_ (args_tuple_getitem _ _)))
  show wpAny _ _ (Builtin.Tuple.tupleItemsOf (.ref t) >>= _) _ _ s
  refine wpAny_bind (tupleItemsOf_ h0 ?_)
  refine wpAny_bind (wpAny_typeOf ty ?_)
  rw [if_pos (by decide)]
  refine wpAny_bind (applied_back hz pa pb pc ?_)
  have no : ¬ ((((items.size : Int) - 1) == 0 && (-1 : Int) == 1 && items.size == items.size) = true) := by simp
  show wpAny _ _ (if (((items.size : Int) - 1) == 0 && (-1 : Int) == 1 && items.size == items.size) = true then _ else _) _ _ s
  rw [if_neg no, pick_back]
  first
    | exact wpAny_bind (m := Builtin.Tuple.tupleExact _) (wpAny_newObj_type (wpAny_pure ⟨_, rfl, wpAny_pure h⟩) fit)
    | exact wpAny_bind (m := Builtin.Tuple.tupleExact _) (wpAny_newObj_type (wpAny_bind (wpAny_pure (wpAny_pure ⟨_, rfl, wpAny_pure h⟩))) fit)
    | exact wpAny_bind (wpAny_bind (m := Builtin.Tuple.tupleExact _) (wpAny_newObj_type (wpAny_pure (wpAny_pure ⟨_, rfl, wpAny_pure h⟩)) fit))
    | exact wpAny_bind (wpAny_bind (m := Builtin.Tuple.tupleExact _) (wpAny_newObj_type (wpAny_pure ⟨_, rfl, wpAny_pure h⟩) fit))
end
def tRevT (K : Fg) (te : TE) : TE := fun σ H Q => te σ H fun x H1 => ∃ a xs, x = .ref a ∧ SqT K H1 a xs ∧ ∀ p, H1 p = none → Q (.ref p) (upd H1 p (.tup xs.reverse))
section
variable {X : Cx} {R : XP} {Γ : Gam} {e : Expr} {p2 pos : Pos}
theorem pe_revT {te : TE} {k : Nat} {p1 p3 : Pos} (he : PE X e te) : PE X (.Subscript e (.Slice none none (some (.UnaryOp .USub (.Constant (.int 1) k p1) p2)) p3) pos) (tRevT X.K te) := by
  refine ⟨fun pins s σ H Q I h => ?_⟩
  refine Subscript_ (thn (he.run pins s σ H _ I h) fun v s1 ⟨x, H1, I1, r1, q1⟩ => ?_)
  obtain ⟨a, xs, ex, hx, q⟩ := q1
  subst ex
  cases r1
  have part : PO X (some (.UnaryOp .USub (.Constant (.int 1) k p1) p2)) (tPart (tUn (rU fun i => .int (-i)) (tC (.int 1)))) := po_some (pe_un un_neg pe_int)
  refine wpAny_Slice (thn (po_none.run pins s1 σ H1 (fun o H2 => o = none ∧ H2 = H1) I1 ⟨rfl, rfl⟩) fun va s2 ⟨l, H2, I2, pl, el, e2⟩ => ?_)
  subst el e2
  refine thn (po_none.run pins s2 σ H2 (fun o H3 => o = none ∧ H3 = H2) I2 ⟨rfl, rfl⟩) fun vb s3 ⟨u, H3, I3, pu, eu, e3⟩ => ?_
  subst eu e3
  refine thn (part.run pins s3 σ H3 (fun o H4 => o = some (-1) ∧ H4 = H3) I3 ⟨1, rfl, -1, rfl, rfl, rfl⟩) fun vc s4 ⟨o, H4, I4, ps, eo, e4⟩ => ?_
  subst eo e4
  have I5 : Inv X pins σ H4 { s4 with heap := s4.heap.push { cls := .type "slice", data := .fields #[va, vb, vc] } } := I4.kept (t' := s4.toks) fun b ob q => Heap.get?_push_of_some _ q
  obtain ⟨its, r, it, hz⟩ := I5.tuple hx
  have hlen := r.length
  show wpAny (model X.prog X.w) X.A (subscriptTail e (.Slice none none (some (.UnaryOp .USub (.Constant (.int 1) k p1) p2)) p3) (.ref a) (.ref s4.heap.objs.size)) (EP X pins σ Q) X.xe { s4 with heap := s4.heap.push { cls := .type "slice", data := .fields #[va, vb, vc] } }
  refine tail_any (ops := [.ref a, .ref s4.heap.objs.size]) it.typeIs PyProof.Rows.slot_tuple_getitem.lookup ?_ (by with_unfolding_all rfl)
  refine item_back it (Heap.IsSliceOf.new _ va vb vc) pl pu ps ?_ (by rw [List.size_toArray]; omega)
  refine ⟨.ref _, _, I5.laid (t' := s4.toks) (o := .tup xs.reverse) (fun b ob q => Heap.get?_push_of_some _ q) (Nat.le_refl _) ?_, rfl, q _ (I5.hok.fresh (Nat.le_refl _))⟩
  refine ⟨by rw [List.length_reverse]; exact hz, its.reverse, r.reverse, ⟨_, Heap.get?_push_size _ rfl, rfl, 0, ?_⟩⟩
  simp
theorem ev_revT {P : D → Gam → Prop} {k0 : Nat} {p1 p3 : Pos} (h : EV X R e Γ fun d Γ1 => ∃ ds, d = .tuple ds ∧ P (.tuple ds.reverse) Γ1) : EV X R (.Subscript e (.Slice none none (some (.UnaryOp .USub (.Constant (.int 1) k0 p1) p2)) p3) pos) Γ P := fun W tk =>
  pe_weak (pe_revT (pe_any (n := 0) tk)) fun σ H Q ⟨fp, hE, k, x⟩ => Any.go h hE x (Kt.of0 fun v d Γ1 H1 fp1 ⟨ds, e1, q⟩ r E1 f1 => by
    subst e1
    cases r with
    | tup ht ra => exact ⟨_, _, rfl, ht.sq, fun p hp => (k.to0 q (own_tup hp ra.reverse) (E1.alloc hp) (f1.trans (Fr.alloc0 hp)))⟩)
end
end DL
set_option Elab.async false
set_option linter.all false
set_option maxRecDepth 100000
set_option maxHeartbeats 1000000
namespace DL
open PySem PySem.Spec PyProof.Rows L2
theorem c_neNilL {X : Cx} {ds : List D} (hu : X.A.units + 64 < cLine) : CmpG X .NotEq (.list ds) (.list []) (!ds.isEmpty) :=
  fun pins s σ H _ _ v u Q I rx ry ⟨r1, r2, q⟩ => by
    cases r1 with
    | lst h1 q1 =>
      cases r2 with
      | lst h2 q2 =>
        cases q2
        cases rx
        cases ry
        obtain ⟨its, rv, p, _⟩ := I.list h1.sq
        obtain ⟨its2, rv2, p2, _⟩ := I.list h2.sq
        cases rv2
        have e1 := rv.length
        have e2 := q1.length
        cases ds with
        | nil =>
          have : its = [] := List.eq_nil_of_length_eq_zero (by rw [← e1, e2]; rfl)
          subst this
          exact SeqAt.RcNeAt.lists (e := fun _ => true) p.isList p2.isList rfl (by omega) (fun j _ h => by simp at h) X.prog X.w X.xe _ ⟨.bl false, H, I, rfl, q⟩
        | cons d ds =>
          have : its ≠ [] := fun z => by
            have : (d :: ds).length = 0 := by rw [← e2, e1, z]; rfl
            simp at this
          exact SeqAt.RcNeAt.lists_lengths p.isList p2.isList (by cases its with | nil => exact absurd rfl this | cons _ _ => simp) (by omega) X.prog X.w X.xe _ ⟨.bl true, H, I, rfl, q⟩
theorem c_eqNilL {X : Cx} {ds : List D} (hu : X.A.units + 64 < cLine) : CmpG X .Eq (.list ds) (.list []) ds.isEmpty :=
  fun pins s σ H _ _ v u Q I rx ry ⟨r1, r2, q⟩ => by
    cases r1 with
    | lst h1 q1 =>
      cases r2 with
      | lst h2 q2 =>
        cases q2
        cases rx
        cases ry
        obtain ⟨its, rv, p, _⟩ := I.list h1.sq
        obtain ⟨its2, rv2, p2, _⟩ := I.list h2.sq
        cases rv2
        have e1 := rv.length
        have e2 := q1.length
        cases ds with
        | nil =>
          have : its = [] := List.eq_nil_of_length_eq_zero (by rw [← e1, e2]; rfl)
          subst this
          exact SeqAt.RcAt.lists (e := fun _ => true) p.isList p2.isList rfl (by omega) (fun j _ h => by simp at h) X.prog X.w X.xe _ ⟨.bl true, H, I, rfl, q⟩
        | cons d ds =>
          have : its ≠ [] := fun z => by
            have : (d :: ds).length = 0 := by rw [← e2, e1, z]; rfl
            simp at this
          exact SeqAt.RcAt.lists_lengths p.isList p2.isList (by cases its with | nil => exact absurd rfl this | cons _ _ => simp) (by omega) X.prog X.w X.xe _ ⟨.bl false, H, I, rfl, q⟩
theorem ET.flt {X : Cx} {R : XP} {c : Expr} {Γ Γn : Gam} {t : Bool} {Q S : Gam → Prop} (h : ET X R c Γ fun b Γ' => (b = true → t = true ∧ Γ' = Γn) ∧ (b = false → t = false ∧ Γ' = Γn)) (hq : Q Γn) (hs : t = true → S Γn) : ET X R c Γ fun b Γ' => b = t ∧ Q Γ' ∧ (b = true → S Γ') := by
  refine ET.imp h ?_
  rintro b Γ' ⟨h1, h2⟩
  cases b with
  | true => obtain ⟨e1, rfl⟩ := h1 rfl; exact ⟨e1.symm, hq, fun _ => hs e1⟩
  | false => obtain ⟨e1, rfl⟩ := h2 rfl; exact ⟨e1.symm, hq, fun z => nomatch z⟩
end DL
set_option Elab.async false
set_option linter.all false
set_option maxRecDepth 100000
set_option maxHeartbeats 8000000
set_option pp.maxSteps 600
namespace KX
open PySem PySem.Spec PyProof.Rows L2 DL GA
theorem mob_small : ∀ n, n < 41 → -1 ≤ mob n ∧ mob n ≤ 1 := by decide +kernel
theorem divs_sg {L : Nat} (hL : 1 ≤ L) (f : Nat → Int) : sg (divs L) f = sg (List.range L) fun i => if L % (i + 1) = 0 then f (i + 1) else 0 := by
  unfold divs
  rw [sg_filter, List.range_succ_eq_map, sg_cons, sg_map]
  rw [if_neg (by simp; omega), Int.zero_add]
  refine sg_congr fun i _ => ?_
  by_cases c : L % (i + 1) = 0
  · rw [if_pos (decide_eq_true c), if_pos c]
  · rw [if_neg (by simpa using c), if_neg c]
def mobT (L i : Nat) : Bool := decide (L % (i + 1) = 0) && !decide (mob (i + 1) = 0)
theorem divs_mob {L : Nat} (hL : 1 ≤ L) (f : Nat → Int) : sg (divs L) (fun d => mob d * f d) = sg ((List.range L).filter (mobT L)) fun i => mob (i + 1) * f (i + 1) := by
  rw [divs_sg hL, sg_filter]
  refine sg_congr fun i _ => ?_
  unfold mobT
  by_cases c : L % (i + 1) = 0
  · by_cases c2 : mob (i + 1) = 0
    · simp [c, c2]
    · simp [c, c2]
  · simp [c]
/-- the number of told rounds, by the closed numbers -/
def toldN (n : Nat) (T : List (List Int)) (L : Nat) : Int := sg (divs L) (fun d => mob d * tr n (ent T) (L / d)) / L
theorem tr_pw {n : Nat} {T : List (List Int)} {L : Nat} : (sg (List.range n) fun i => ent (pwT n T L) i i) = tr n (ent T) L :=
  sg_congr fun i hi => pwT_ent (List.mem_range.mp hi) (List.mem_range.mp hi)
section
variable {P : Program} {w : World} {K : Fg} {mg : Str → Option Value} {base : Heap} (G : Fre mg)
include G
def S_mobius : List D → D → Prop := fun ds d => ∃ n k0 : Nat, ∃ r : Int, mobF k0 1 2 n = some r ∧ 1 ≤ n ∧ n ≤ 10000 ∧ ds = [.int (n : Nat)] ∧ d = .int r
omit G in
theorem mob_S {n : Nat} (h1 : 1 ≤ n) (h : n < 41) : S_mobius [.int (n : Nat)] (.int (mob n)) := by
  obtain ⟨r, hr⟩ := Option.isSome_iff_exists.mp (mob_ok n h)
  exact ⟨n, 8, r, hr, h1, by omega, rfl, by unfold mob; rw [hr]; rfl⟩
def S_told_at : List D → D → Prop := fun ds d => ∃ n T, ∃ L : Nat, Tbl n T ∧ Sm20 n T ∧ 1 ≤ L ∧ L < 41 ∧ ds = [tb T, .int (L : Nat)] ∧ d = .int (toldN n T L)
end
end KX
set_option Elab.async false
set_option linter.all false
set_option maxRecDepth 100000
set_option maxHeartbeats 8000000
set_option pp.maxSteps 600
namespace KX
open PySem PySem.Spec PyProof.Rows L2 DL GA
abbrev xTh (x : D) : List (Str × D) := [(Str.ofString "thing", x)]
def S_need_length (CL : Addr) : List D → Out → Prop := fun ds o => ∃ x a, ds = [x, .int a] ∧ realD x = true ∧ o = if isFrom a x = true then .ret .none else .exn CL (xTh x)
theorem needL_ok {CL : Addr} {x : D} {a : Int} (hx : realD x = true) (h : isFrom a x = true) : S_need_length CL [x, .int a] (.ret .none) := ⟨x, a, rfl, hx, by rw [if_pos h]⟩
theorem needL_no {CL : Addr} {x : D} {a : Int} (hx : realD x = true) (h : isFrom a x = false) : S_need_length CL [x, .int a] (.exn CL (xTh x)) := ⟨x, a, rfl, hx, by rw [if_neg (by simp [h])]⟩
theorem needW_no {CW : Addr} {x : D} (hx : okD x = true) (h : isWebB x = false) : S_need_web CW [x] (.exn CW (xTh x)) := ⟨x, rfl, hx, by rw [if_neg (by simp [h])]⟩
def S_power (CW CL : Addr) : List D → Out → Prop := fun ds o => ∃ x l, ds = [x, l] ∧ okD x = true ∧ realD l = true ∧ ((isWebB x = false ∧ o = .exn CW (xTh x)) ∨ ∃ n T, Web n T ∧ Sm20 n T ∧ x = tb T ∧ ((isFrom 0 l = false ∧ o = .exn CL (xTh l)) ∨ ∃ L : Nat, L ≤ 10000 ∧ l = .int (L : Nat) ∧ o = .ret (tb (pwT n T L))))
def S_closed (CW CL : Addr) : List D → Out → Prop := fun ds o => ∃ x l, ds = [x, l] ∧ okD x = true ∧ realD l = true ∧ ((isWebB x = false ∧ o = .exn CW (xTh x)) ∨ ∃ n T, Web n T ∧ Sm20 n T ∧ x = tb T ∧ ((isFrom 1 l = false ∧ o = .exn CL (xTh l)) ∨ ∃ L : Nat, 1 ≤ L ∧ L ≤ 10000 ∧ l = .int (L : Nat) ∧ o = .ret (.int (tr n (ent T) L))))
def S_rounds (CW CL : Addr) : List D → Out → Prop := fun ds o => ∃ x l, ds = [x, l] ∧ okD x = true ∧ realD l = true ∧ ((isWebB x = false ∧ o = .exn CW (xTh x)) ∨ ∃ n T, Web n T ∧ Sm20 n T ∧ x = tb T ∧ ((isFrom 1 l = false ∧ o = .exn CL (xTh l)) ∨ ∃ L : Nat, 1 ≤ L ∧ L < 41 ∧ l = .int (L : Nat) ∧ o = .ret (.int (toldN n T L))))
def S_walks (CW CR CL : Addr) : List D → Out → Prop := fun ds o => ∃ x i j l, ds = [x, i, j, l] ∧ okD x = true ∧ realD i = true ∧ realD j = true ∧ realD l = true ∧ ((isWebB x = false ∧ o = .exn CW (xTh x)) ∨ ∃ n T, Web n T ∧ Sm20 n T ∧ x = tb T ∧
  ((isBet 0 ((n : Nat) - 1) i = false ∧ o = .exn CR (xTh i)) ∨ (isBet 0 ((n : Nat) - 1) i = true ∧ isBet 0 ((n : Nat) - 1) j = false ∧ o = .exn CR (xTh j)) ∨ (isBet 0 ((n : Nat) - 1) i = true ∧ isBet 0 ((n : Nat) - 1) j = true ∧ isFrom 0 l = false ∧ o = .exn CL (xTh l)) ∨
    ∃ a b L : Nat, a < n ∧ b < n ∧ L ≤ 10000 ∧ i = .int (a : Nat) ∧ j = .int (b : Nat) ∧ l = .int (L : Nat) ∧ o = .ret (.int (pw n (ent T) L a b))))
section
variable {P : Program} {w : World} {K : Fg} {mg : Str → Option Value} {base : Heap} (G : Fre mg)
include G
abbrev n_need_length : List Str := ["length", "least"]
omit G in
theorem nd_need_length : n_need_length.Nodup := by decide
theorem b_need_length {CL : Addr} (NBadLength : Exn P w K mg base "BadLength" "thing" CL) (F1 : Df P w K mg base 2 "is_from" (top 17) ["thing", "least"] 0 (pfs S_is_from)) {k : Nat} (hk : 2 ≤ k) {ds : List D} {o : Out} (S : S_need_length CL ds o) :
    BodyP P w K mg base k n_need_length ["length", "least"] (top 24) 0 ds (fun d' => o = .ret d') (fun C fs => o = .exn C fs) := by
  obtain ⟨x, a, rfl, hx, rfl⟩ := S
  intro qual f cdv A outer s H E
  conv in (occs := *) defScope _ => all_goals whnf
  conv in defBody _ => whnf
  intro hr
  show SS _ _ _ _ [.pv x, .pv (.int a)] _
  refine (ss_one (s1_if (et_not (et_val (eg_callS F1 hr hk (ev_var 0 rfl (ev_var 1 rfl ⟨rfl, _, ⟨_, _, rfl, hx, rfl⟩, ⟨_, rfl, fun h1 => (ss_one (s1_rs NBadLength hr (by omega) (ev_var 0 rfl ⟨le_ok rfl, ?_⟩))), fun h2 => (ss_nil ?_)⟩⟩)) ⟨rfl, rfl, trivial⟩)))))
  · rw [if_neg (by simpa using h1)]
  · rw [if_pos (by simpa using h2)]
    exact ⟨le_ok rfl, rfl⟩
abbrev n_power : List Str := ["web", "length"]
omit G in
theorem nd_power : n_power.Nodup := by decide
theorem b_power {CW CL : Addr} (F1 : Df P w K mg base 6 "need_web" (top 23) ["web"] 0 (pfo (S_need_web CW))) (F2 : Df P w K mg base 3 "need_length" (top 24) ["length", "least"] 0 (pfo (S_need_length CL))) (F3 : Df P w K mg base 2 "power_of" (top 9) ["table", "exponent"] 0 (pfs S_power_of))
    {k : Nat} (hk : 6 ≤ k) {ds : List D} {o : Out} (S : S_power CW CL ds o) : BodyP P w K mg base k n_power ["web", "length"] (top 26) 0 ds (fun d' => o = .ret d') (fun C fs => o = .exn C fs) := by
  obtain ⟨x, l, rfl, hx, hl, h⟩ := S
  intro qual f cdv A outer s H E
  conv in (occs := *) defScope _ => all_goals whnf
  conv in defBody _ => whnf
  intro hr
  show SS _ _ _ _ [.pv x, .pv l] _
  rcases h with ⟨hw, rfl⟩ | ⟨n, T, hw, hs, rfl, h⟩
  · exact ss_cons (s1_expr (eg_callSX F1 hr hk (ev_var 0 rfl ⟨rfl, .inr ⟨CW, _, needW_no hx hw, le_ok rfl, rfl⟩⟩) ⟨rfl, trivial⟩))
  · refine ss_cons (s1_expr (eg_callSX F1 hr hk (ev_var 0 rfl ⟨rfl, .inl ⟨_, need_ok hw hx, ?_⟩⟩) ⟨rfl, trivial⟩))
    rcases h with ⟨hf, rfl⟩ | ⟨L, hL, rfl, rfl⟩
    · exact ss_cons (s1_expr (eg_callSX F2 hr (by omega) (ev_var 1 rfl (ev_int ⟨rfl, .inr ⟨CL, _, needL_no hl hf, le_ok rfl, rfl⟩⟩)) ⟨rfl, rfl, trivial⟩))
    · refine ss_cons (s1_expr (eg_callSX F2 hr (by omega) (ev_var 1 rfl (ev_int ⟨rfl, .inl ⟨_, needL_ok rfl (by simp [isFrom]), ?_⟩⟩)) ⟨rfl, rfl, trivial⟩))
      exact ss_one (s1_ret (eg_callS F3 hr (by omega) (ev_var 0 rfl (ev_var 1 rfl ⟨rfl, _, ⟨n, T, L, hw.tbl, hs, hL, rfl, rfl⟩, le_ok rfl, rfl⟩)) ⟨rfl, rfl, trivial⟩))
abbrev n_closed_many : List Str := ["web", "length"]
omit G in
theorem nd_closed_many : n_closed_many.Nodup := by decide
theorem b_closed_many {CW CL : Addr} (F1 : Df P w K mg base 6 "need_web" (top 23) ["web"] 0 (pfo (S_need_web CW))) (F2 : Df P w K mg base 3 "need_length" (top 24) ["length", "least"] 0 (pfo (S_need_length CL))) (F3 : Df P w K mg base 2 "power_of" (top 9) ["table", "exponent"] 0 (pfs S_power_of))
    (F4 : Df P w K mg base 1 "trace_of" (top 10) ["table"] 0 (pfs S_trace_of)) {k : Nat} (hk : 6 ≤ k) {ds : List D} {o : Out} (S : S_closed CW CL ds o) : BodyP P w K mg base k n_closed_many ["web", "length"] (top 29) 0 ds (fun d' => o = .ret d') (fun C fs => o = .exn C fs) := by
  obtain ⟨x, l, rfl, hx, hl, h⟩ := S
  intro qual f cdv A outer s H E
  conv in (occs := *) defScope _ => all_goals whnf
  conv in defBody _ => whnf
  intro hr
  show SS _ _ _ _ [.pv x, .pv l] _
  rcases h with ⟨hw, rfl⟩ | ⟨n, T, hw, hs, rfl, h⟩
  · exact ss_cons (s1_expr (eg_callSX F1 hr hk (ev_var 0 rfl ⟨rfl, .inr ⟨CW, _, needW_no hx hw, le_ok rfl, rfl⟩⟩) ⟨rfl, trivial⟩))
  · refine ss_cons (s1_expr (eg_callSX F1 hr hk (ev_var 0 rfl ⟨rfl, .inl ⟨_, need_ok hw hx, ?_⟩⟩) ⟨rfl, trivial⟩))
    rcases h with ⟨hf, rfl⟩ | ⟨L, h1, hL, rfl, rfl⟩
    · exact ss_cons (s1_expr (eg_callSX F2 hr (by omega) (ev_var 1 rfl (ev_int ⟨rfl, .inr ⟨CL, _, needL_no hl hf, le_ok rfl, rfl⟩⟩)) ⟨rfl, rfl, trivial⟩))
    · refine ss_cons (s1_expr (eg_callSX F2 hr (by omega) (ev_var 1 rfl (ev_int ⟨rfl, .inl ⟨_, needL_ok rfl (by simp [isFrom]; omega), ?_⟩⟩)) ⟨rfl, rfl, trivial⟩))
      exact ss_one (s1_ret (eg_callS F4 hr (by omega) (eg_callS F3 hr (by omega) (ev_var 0 rfl (ev_var 1 rfl ⟨rfl, _, ⟨n, T, L, hw.tbl, hs, hL, rfl, rfl⟩, rfl, _, ⟨n, _, pwT_tbl hw.tbl hs L, rfl, rfl⟩, le_ok rfl, by rw [tr_pw]⟩)) ⟨rfl, rfl, trivial⟩) ⟨rfl, trivial⟩))
abbrev n_walks_many : List Str := ["web", "i", "j", "length", "room"]
omit G in
theorem nd_walks_many : n_walks_many.Nodup := by decide
theorem b_walks_many {CW CR CL : Addr} (NR : Exn P w K mg base "BadRoom" "thing" CR) (F1 : Df P w K mg base 6 "need_web" (top 23) ["web"] 0 (pfo (S_need_web CW))) (F2 : Df P w K mg base 3 "need_length" (top 24) ["length", "least"] 0 (pfo (S_need_length CL))) (F3 : Df P w K mg base 2 "power_of" (top 9) ["table", "exponent"] 0 (pfs S_power_of))
    (F4 : Df P w K mg base 2 "is_between" (top 18) ["thing", "least", "most"] 0 (pfs S_is_between)) {k : Nat} (hk : 6 ≤ k) {ds : List D} {o : Out} (S : S_walks CW CR CL ds o) : BodyP P w K mg base k n_walks_many ["web", "i", "j", "length"] (top 28) 0 ds (fun d' => o = .ret d') (fun C fs => o = .exn C fs) := by
  obtain ⟨x, i, j, l, rfl, hx, hi, hj, hl, h⟩ := S
  intro qual f cdv A outer s H E
  conv in (occs := *) defScope _ => all_goals whnf
  conv in defBody _ => whnf
  intro hr
  show SS _ _ _ _ [.pv x, .pv i, .pv j, .pv l, .no] _
  rcases h with ⟨hw, rfl⟩ | ⟨n, T, hw, hs, rfl, h⟩
  · exact ss_cons (s1_expr (eg_callSX F1 hr hk (ev_var 0 rfl ⟨rfl, .inr ⟨CW, _, needW_no hx hw, le_ok rfl, rfl⟩⟩) ⟨rfl, trivial⟩))
  · have l1 := hw.tbl.len
    refine ss_cons (s1_expr (eg_callSX F1 hr hk (ev_var 0 rfl ⟨rfl, .inl ⟨_, need_ok hw hx, ?_⟩⟩) ⟨rfl, trivial⟩))
    -- the first room that is none
    refine ss_cons (S1.nxi (N := fun Γ' => (isBet 0 ((n : Nat) - 1) i = true ∧ isBet 0 ((n : Nat) - 1) j = true) ∧ ∃ s4, Γ' = [.pv (tb T), .pv i, .pv j, .pv l, s4]) ?_ ?_)
    · refine s1_for (ix := [4]) (passes_of rfl) rfl (ei_seq (ev_tups (le_ok rfl) (ev_var 1 rfl (ev_var 2 rfl ⟨[i, j], rfl, ?_⟩)) ⟨rfl, rfl, trivial⟩))
      refine ⟨fun q Γ => (0 < q → isBet 0 ((n : Nat) - 1) i = true) ∧ (1 < q → isBet 0 ((n : Nat) - 1) j = true) ∧ ∃ s4, Γ = [.pv (tb T), .pv i, .pv j, .pv l, s4], ⟨fun z => absurd z (by omega), fun z => absurd z (by omega), _, rfl⟩, ?_, ?_⟩
      · rintro q d Γ hd ⟨b1, b2, s4, rfl⟩
        have hrd : realD d = true ∧ ((q = 0 ∧ d = i) ∨ (q = 1 ∧ d = j)) := by
          match q, hd with
          | 0, hd => cases hd; exact ⟨hi, .inl ⟨rfl, rfl⟩⟩
          | 1, hd => cases hd; exact ⟨hj, .inr ⟨rfl, rfl⟩⟩
        obtain ⟨hrd, hq⟩ := hrd
        refine gt_name 4 nd_walks_many (lt_ok rfl) ?_
        refine ss_one (s1_if (et_not (et_val (eg_callS F4 hr (by omega) (ev_var 4 rfl (ev_int (eg_bin (eg_callB1 G.len boot_len (ev_var 0 rfl ⟨_, q_len (ds := T.map rowD) rfl, ev_int ⟨_, b_sub, rfl, _, ⟨d, 0, (n : Nat) - 1, by simp [l1], hrd, rfl⟩, isBet 0 ((n : Nat) - 1) d, rfl, fun h1 => ?_, fun h1 => ?_⟩⟩))))) ⟨rfl, rfl, rfl, trivial⟩))))
        · have h1 : isBet 0 ((n : Nat) - 1) d = false := by simpa using h1
          refine ss_one (s1_rs NR hr (by omega) (ev_var 4 rfl ⟨le_ok rfl, ?_⟩))
          rcases hq with ⟨rfl, rfl⟩ | ⟨rfl, rfl⟩
          · rcases h with ⟨_, rfl⟩ | ⟨z, _⟩ | ⟨z, _⟩ | ⟨a, b, L, ha, hb, hL, rfl, rfl, rfl, rfl⟩
            · rfl
            · rw [h1] at z; cases z
            · rw [h1] at z; cases z
            · simp [isBet] at h1; omega
          · have b1 := b1 (by omega)
            rcases h with ⟨z, rfl⟩ | ⟨_, _, rfl⟩ | ⟨_, z, _⟩ | ⟨a, b, L, ha, hb, hL, rfl, rfl, rfl, rfl⟩
            · rw [b1] at z; cases z
            · rfl
            · rw [h1] at z; cases z
            · simp [isBet] at h1; omega
        · have h1 : isBet 0 ((n : Nat) - 1) d = true := by simpa using h1
          refine ss_nil ?_
          rcases hq with ⟨rfl, rfl⟩ | ⟨rfl, rfl⟩
          · exact ⟨fun _ => h1, fun z => absurd z (by omega), _, rfl⟩
          · exact ⟨fun _ => b1 (by omega), fun _ => h1, _, rfl⟩
      · rintro Γ ⟨b1, b2, s4, rfl⟩
        exact ⟨⟨b1 (by simp), b2 (by simp)⟩, s4, rfl⟩
    rintro Γ' ⟨⟨b1, b2⟩, s4, rfl⟩
    rcases h with ⟨z, rfl⟩ | ⟨_, z, rfl⟩ | ⟨_, _, hf, rfl⟩ | ⟨a, b, L, ha, hb, hL, rfl, rfl, rfl, rfl⟩
    · rw [b1] at z; cases z
    · rw [b2] at z; cases z
    · exact ss_cons (s1_expr (eg_callSX F2 hr (by omega) (ev_var 3 rfl (ev_int ⟨rfl, .inr ⟨CL, _, needL_no hl hf, le_ok rfl, rfl⟩⟩)) ⟨rfl, rfl, trivial⟩))
    · refine ss_cons (s1_expr (eg_callSX F2 hr (by omega) (ev_var 3 rfl (ev_int ⟨rfl, .inl ⟨_, needL_ok rfl (by simp [isFrom]), ?_⟩⟩)) ⟨rfl, rfl, trivial⟩))
      have hP := pwT_tbl hw.tbl hs L
      refine ss_one (s1_ret (ev_sub (ev_sub (eg_callS F3 hr (by omega) (ev_var 0 rfl (ev_var 3 rfl ⟨rfl, _, ⟨n, T, L, hw.tbl, hs, hL, rfl, rfl⟩, ev_var 1 rfl ⟨_, sub_tup (at_nat (row_get' hP ha)), ev_var 2 rfl ⟨_, sub_tup (at_nat (ent_get' hP ha hb)), le_ok rfl, ?_⟩⟩⟩)) ⟨rfl, rfl, trivial⟩))))
      rw [pwT_ent ha hb]
end
end KX
set_option Elab.async false
set_option linter.all false
set_option maxRecDepth 100000
set_option maxHeartbeats 8000000
namespace KX
open GA
/-! ### polynomials as lists, worked out by the kernel -/
abbrev Mon := List Nat
abbrev Pol := List (Mon × Int)
def vM (x : Nat → Int) : Mon → Int
  | [] => 1
  | v :: m => x v * vM x m
def vP (x : Nat → Int) : Pol → Int
  | [] => 0
  | mc :: p => mc.2 * vM x mc.1 + vP x p
def insV (v : Nat) : Mon → Mon
  | [] => [v]
  | u :: m => bif Nat.ble v u then v :: u :: m else u :: insV v m
theorem insV_ok (x : Nat → Int) (v : Nat) : ∀ m : Mon, vM x (insV v m) = x v * vM x m
  | [] => rfl
  | u :: m => by
    unfold insV
    cases Nat.ble v u with
    | true => rfl
    | false =>
      show x u * vM x (insV v m) = x v * (x u * vM x m)
      rw [insV_ok x v m, ← Int.mul_assoc, ← Int.mul_assoc, Int.mul_comm (x u)]
/-- 0: equal, 1: less, 2: greater -/
def cmpM : Mon → Mon → Nat
  | [], [] => 0
  | [], _ :: _ => 1
  | _ :: _, [] => 2
  | a :: m, b :: n => bif Nat.beq a b then cmpM m n else bif Nat.blt a b then 1 else 2
theorem cmpM_eq : ∀ {m n : Mon}, cmpM m n = 0 → m = n
  | [], [], _ => rfl
  | [], _ :: _, h => nomatch h
  | _ :: _, [], h => nomatch h
  | a :: m, b :: n, h => by
    unfold cmpM at h
    cases e : Nat.beq a b with
    | true =>
      rw [e] at h
      rw [Nat.eq_of_beq_eq_true e, cmpM_eq h]
    | false =>
      rw [e] at h
      cases e' : Nat.blt a b <;> · rw [e'] at h; nomatch h
def isZ : Int → Bool
  | .ofNat 0 => true
  | _ => false
theorem isZ_eq : ∀ {i : Int}, isZ i = true → i = 0
  | .ofNat 0, _ => rfl
  | .ofNat (_ + 1), h => nomatch h
  | .negSucc _, h => nomatch h
def addP : Nat → Pol → Pol → Pol
  | 0, p, q => p ++ q
  | _ + 1, [], q => q
  | _ + 1, p :: ps, [] => p :: ps
  | k + 1, (m, c) :: p, (n, d) :: q =>
    match cmpM m n with
    | 0 => bif isZ (c + d) then addP k p q else (m, c + d) :: addP k p q
    | 1 => (m, c) :: addP k p ((n, d) :: q)
    | _ => (n, d) :: addP k ((m, c) :: p) q
theorem vP_app (x : Nat → Int) : ∀ p q : Pol, vP x (p ++ q) = vP x p + vP x q
  | [], q => by simp [vP]
  | a :: p, q => by
    show a.2 * vM x a.1 + vP x (p ++ q) = a.2 * vM x a.1 + vP x p + vP x q
    rw [vP_app x p q]; omega
theorem addP_ok (x : Nat → Int) : ∀ (k : Nat) (p q : Pol), vP x (addP k p q) = vP x p + vP x q
  | 0, p, q => vP_app x p q
  | k + 1, [], q => by
    show vP x q = 0 + vP x q
    omega
  | k + 1, a :: p, [] => by
    show vP x (a :: p) = vP x (a :: p) + 0
    omega
  | k + 1, (m, c) :: p, (n, d) :: q => by
    unfold addP
    have h1 : vP x ((m, c) :: p) = c * vM x m + vP x p := rfl
    have h2 : vP x ((n, d) :: q) = d * vM x n + vP x q := rfl
    split
    · rename_i e
      have e := cmpM_eq e
      subst e
      have h3 := addP_ok x k p q
      have h4 : (c + d) * vM x m = c * vM x m + d * vM x m := Int.add_mul _ _ _
      cases e' : isZ (c + d) with
      | true =>
        have e0 : c + d = 0 := isZ_eq e'
        rw [e0, Int.zero_mul] at h4
        show vP x (addP k p q) = _
        omega
      | false =>
        show (c + d) * vM x m + vP x (addP k p q) = _
        omega
    · have h3 := addP_ok x k p ((n, d) :: q)
      show c * vM x m + vP x (addP k p ((n, d) :: q)) = _
      omega
    · have h3 := addP_ok x k ((m, c) :: p) q
      show d * vM x n + vP x (addP k ((m, c) :: p) q) = _
      omega
def mulV (v : Nat) (p : Pol) : Pol := p.map fun mc => (insV v mc.1, mc.2)
theorem mulV_ok (x : Nat → Int) (v : Nat) : ∀ p : Pol, vP x (mulV v p) = x v * vP x p
  | [] => by simp [mulV, vP]
  | a :: p => by
    show a.2 * vM x (insV v a.1) + vP x (mulV v p) = x v * (a.2 * vM x a.1 + vP x p)
    rw [mulV_ok x v p, insV_ok, Int.mul_add]
    congr 1
    rw [← Int.mul_assoc, ← Int.mul_assoc, Int.mul_comm a.2]
def sumP : List Pol → Pol
  | [] => []
  | p :: l => addP 2000 p (sumP l)
theorem sumP_ok (x : Nat → Int) {α : Type} (f : α → Pol) : ∀ l : List α, vP x (sumP (l.map f)) = sg l fun a => vP x (f a)
  | [] => rfl
  | a :: l => by
    show vP x (addP 2000 (f a) (sumP (l.map f))) = _
    rw [addP_ok, sumP_ok x f l, sg_cons]
def gp (B : List (List Pol)) (i j : Nat) : Pol := ((B[i]?).getD [])[j]?.getD []
def mkP (n : Nat) (f : Nat → Nat → Pol) : List (List Pol) := (List.range n).map fun i => (List.range n).map fun j => f i j
theorem gp_mk {n : Nat} {f : Nat → Nat → Pol} {i j : Nat} (hi : i < n) (hj : j < n) : gp (mkP n f) i j = f i j := by
  simp [gp, mkP, hi, hj]
def abP (n : Nat) (B : List (List Pol)) (i j : Nat) : Pol := sumP ((List.range n).map fun m => mulV (8 * i + m) (gp B m j))
def negd (k : Nat) (p : Pol) : Pol := p.map fun mc => (mc.1, -(mc.2 / (k : Int)))
def dvs (k : Nat) (p : Pol) : Bool := p.all fun mc => isZ (mc.2 % (k : Int))
theorem negd_ok (x : Nat → Int) (k : Nat) : ∀ p : Pol, dvs k p = true → (k : Int) * vP x (negd k p) = - vP x p
  | [], _ => by simp [negd, vP]
  | a :: p, h => by
    have h := Bool.and_eq_true_iff.mp (show (isZ (a.2 % (k : Int)) && dvs k p) = true from h)
    have h1 : a.2 % (k : Int) = 0 := isZ_eq h.1
    have h2 := Int.mul_ediv_add_emod a.2 (k : Int)
    rw [h1, Int.add_zero] at h2
    show (k : Int) * (-(a.2 / (k : Int)) * vM x a.1 + vP x (negd k p)) = -(a.2 * vM x a.1 + vP x p)
    rw [Int.mul_add, negd_ok x k p h.2, ← Int.mul_assoc, Int.mul_neg, h2, Int.neg_mul]
    omega
def trP (n : Nat) (B : List (List Pol)) : Pol := sumP ((List.range n).map fun i => gp B i i)
def nextP (n k : Nat) (AB : List (List Pol)) : List (List Pol) := mkP n fun i j => bif Nat.beq i j then addP 2000 (gp AB i j) (negd k (trP n AB)) else gp AB i j
def runP (n : Nat) : Nat → Nat → List (List Pol) → Bool
  | 0, _, B => B.all fun r => r.all fun p => p.isEmpty
  | s + 1, k, B => dvs k (trP n (mkP n (abP n B))) && runP n s (k + 1) (nextP n k (mkP n (abP n B)))
def unitP (n : Nat) : List (List Pol) := mkP n fun i j => bif Nat.beq i j then [([], 1)] else []
theorem run1 : runP 1 1 1 (unitP 1) = true := by decide +kernel
theorem run2 : runP 2 2 1 (unitP 2) = true := by decide +kernel
theorem run3 : runP 3 3 1 (unitP 3) = true := by decide +kernel
theorem run4 : runP 4 4 1 (unitP 4) = true := by decide +kernel
theorem run5 : runP 5 5 1 (unitP 5) = true := by decide +kernel
/-! ### what it means -/
theorem nbeq {i j : Nat} (h : i ≠ j) : Nat.beq i j = false := by
  cases e : Nat.beq i j with
  | false => rfl
  | true => exact absurd (Nat.eq_of_beq_eq_true e) h
def Chain (n : Nat) (A : Nat → Nat → Int) : Nat → Nat → (Nat → Nat → Int) → Prop
  | 0, _, B => ∀ i j, i < n → j < n → B i j = 0
  | s + 1, k, B => ∃ c : Int, (k : Int) * c = - sg (List.range n) (fun i => sg (List.range n) fun m => A i m * B m i) ∧
      Chain n A s (k + 1) fun i j => (sg (List.range n) fun m => A i m * B m j) + if i = j then c else 0
theorem chain_congr {n : Nat} {A : Nat → Nat → Int} : ∀ {s k : Nat} {B B' : Nat → Nat → Int}, (∀ i j, i < n → j < n → B i j = B' i j) → Chain n A s k B → Chain n A s k B'
  | 0, _, B, B', h, H => fun i j hi hj => by rw [← h i j hi hj]; exact H i j hi hj
  | s + 1, k, B, B', h, ⟨c, h1, h2⟩ => by
    have e : ∀ i j, j < n → (sg (List.range n) fun m => A i m * B m j) = sg (List.range n) fun m => A i m * B' m j := fun i j hj => sg_congr fun m hm => by rw [h m j (List.mem_range.mp hm) hj]
    refine ⟨c, ?_, chain_congr (fun i j hi hj => ?_) h2⟩
    · rw [h1]
      congr 1
      exact sg_congr fun i hi => e i i (List.mem_range.mp hi)
    · show _ + _ = _ + _
      rw [e i j hj]
theorem empty_all {B : List (List Pol)} (h : (B.all fun r => r.all fun p => p.isEmpty) = true) (x : Nat → Int) (i j : Nat) : vP x (gp B i j) = 0 := by
  unfold gp
  cases h1 : B[i]? with
  | none => rfl
  | some r =>
    show vP x (r[j]?.getD []) = 0
    cases h2 : r[j]? with
    | none => rfl
    | some p =>
      have h3 := List.all_eq_true.mp h r (List.mem_of_getElem? h1)
      have h4 := List.all_eq_true.mp h3 p (List.mem_of_getElem? h2)
      have : p = [] := by simpa using h4
      subst this; rfl
theorem run_chain {n : Nat} {A : Nat → Nat → Int} (x : Nat → Int) (hx : ∀ i j, i < n → j < n → x (8 * i + j) = A i j) : ∀ (s k : Nat) (B : List (List Pol)), runP n s k B = true → Chain n A s k fun i j => vP x (gp B i j)
  | 0, k, B, h => fun i j _ _ => empty_all h x i j
  | s + 1, k, B, h => by
    have h := Bool.and_eq_true_iff.mp (show (dvs k (trP n (mkP n (abP n B))) && runP n s (k + 1) (nextP n k (mkP n (abP n B)))) = true from h)
    have ab : ∀ i j, i < n → j < n → vP x (gp (mkP n (abP n B)) i j) = sg (List.range n) fun m => A i m * vP x (gp B m j) := fun i j hi hj => by
      rw [gp_mk hi hj]
      unfold abP
      rw [sumP_ok]
      exact sg_congr fun m hm => by rw [mulV_ok, hx i m hi (List.mem_range.mp hm)]
    refine ⟨vP x (negd k (trP n (mkP n (abP n B)))), ?_, chain_congr (fun i j hi hj => ?_) (run_chain x hx s (k + 1) _ h.2)⟩
    · rw [negd_ok x k _ h.1]
      unfold trP
      rw [sumP_ok]
      congr 1
      exact sg_congr fun i hi => ab i i (List.mem_range.mp hi) (List.mem_range.mp hi)
    · unfold nextP
      rw [gp_mk hi hj]
      by_cases e : i = j
      · subst e
        rw [if_pos rfl, show Nat.beq i i = true from Nat.beq_refl i]
        show vP x (addP _ _ _) = _
        rw [addP_ok, ab i i hi hi]
      · rw [if_neg e, show Nat.beq i j = false from nbeq e, Int.add_zero]
        exact ab i j hi hj
theorem chain_ex {n : Nat} {A : Nat → Nat → Int} : ∀ (s k : Nat) (c : Nat → Int) (B : Nat → Nat → Int), 1 ≤ k → (∀ i j, i < n → j < n → B i j = sg (List.range k) fun q => c q * pw n A (k - 1 - q) i j) → Chain n A s k B →
    ∃ c' : Nat → Int, (∀ q, q < k → c' q = c q) ∧ (∀ q, k ≤ q → q < k + s → (q : Int) * c' q = - sg (List.range q) fun i => c' i * tr n A (q - i)) ∧
      ∀ i j, i < n → j < n → (sg (List.range (k + s)) fun q => c' q * pw n A (k + s - 1 - q) i j) = 0
  | 0, k, c, B, _, hB, H => ⟨c, fun _ _ => rfl, fun q h1 h2 => by omega, fun i j hi hj => by
      have e := hB i j hi hj
      rw [H i j hi hj] at e
      exact e.symm⟩
  | s + 1, k, c, B, k1, hB, ⟨v, h1, h2⟩ => by
    have hAB : ∀ i j, j < n → (sg (List.range n) fun m => A i m * B m j) = sg (List.range k) fun q => c q * pw n A (k - q) i j := fun i j hj => by
      have e1 : (sg (List.range n) fun m => A i m * B m j) = sg (List.range n) fun m => sg (List.range k) fun q => c q * (A i m * pw n A (k - 1 - q) m j) := sg_congr fun m hm => by
        rw [hB m j (List.mem_range.mp hm) hj, ← sg_mul]
        exact sg_congr fun q _ => by rw [← Int.mul_assoc, ← Int.mul_assoc, Int.mul_comm (A i m)]
      rw [e1, sg_swap]
      refine sg_congr fun q hq => ?_
      have hq := List.mem_range.mp hq
      rw [sg_mul, show k - q = (k - 1 - q) + 1 by omega]; rfl
    obtain ⟨c', g1, g2, g3⟩ := chain_ex s (k + 1) (fun q => if q = k then v else c q) _ (by omega) (fun i j hi hj => by
      show (sg (List.range n) fun m => A i m * B m j) + (if i = j then v else 0) = _
      rw [List.range_succ, sg_app, sg_cons, sg_nil, hAB i j hj]
      congr 1
      · refine sg_congr fun q hq => ?_
        have hq := List.mem_range.mp hq
        rw [if_neg (by omega), show k + 1 - 1 - q = k - q by omega]
      · rw [if_pos rfl, show k + 1 - 1 - k = 0 by omega, Int.add_zero]
        show _ = v * (if i = j then (1 : Int) else 0)
        by_cases e : i = j
        · rw [if_pos e, if_pos e, Int.mul_one]
        · rw [if_neg e, if_neg e, Int.mul_zero]) h2
    refine ⟨c', fun q hq => ?_, fun q h3 h4 => ?_, fun i j hi hj => ?_⟩
    · rw [g1 q (by omega), if_neg (by omega)]
    · rcases Nat.lt_or_ge k q with h | h
      · exact g2 q (by omega) (by omega)
      · have e : q = k := by omega
        subst e
        rw [g1 q (by omega), if_pos rfl, h1]
        congr 1
        have e2 : (sg (List.range n) fun i => sg (List.range n) fun m => A i m * B m i) = sg (List.range n) fun i => sg (List.range q) fun r => c r * pw n A (q - r) i i := sg_congr fun i hi => hAB i i (List.mem_range.mp hi)
        rw [e2, sg_swap]
        refine sg_congr fun r hr => ?_
        have hr := List.mem_range.mp hr
        rw [sg_mul, g1 r (by omega), if_neg (by omega)]; rfl
    · rw [show k + (s + 1) = k + 1 + s by omega]
      exact g3 i j hi hj
theorem bot_ex {n : Nat} (h1 : 1 ≤ n) (h5 : n ≤ 5) (A : Nat → Nat → Int) : ∃ c : Nat → Int, c 0 = 1 ∧ (∀ q, 1 ≤ q → q ≤ n → (q : Int) * c q = - sg (List.range q) fun i => c i * tr n A (q - i)) ∧
    (∀ q, n < q → c q = 0) ∧ ∀ i j, i < n → j < n → (sg (List.range (n + 1)) fun q => c q * pw n A (n - q) i j) = 0 := by
  have hr : runP n n 1 (unitP n) = true := by
    rcases (by omega : n = 1 ∨ n = 2 ∨ n = 3 ∨ n = 4 ∨ n = 5) with rfl | rfl | rfl | rfl | rfl
    · exact run1
    · exact run2
    · exact run3
    · exact run4
    · exact run5
  have C := run_chain (n := n) (A := A) (fun v => A (v / 8) (v % 8)) (fun i j hi hj => by
    show A ((8 * i + j) / 8) ((8 * i + j) % 8) = A i j
    rw [show (8 * i + j) / 8 = i by omega, show (8 * i + j) % 8 = j by omega]) n 1 (unitP n) hr
  obtain ⟨c, g1, g2, g3⟩ := chain_ex n 1 (fun _ => 1) _ (Nat.le_refl 1) (fun i j hi hj => by
    unfold unitP
    rw [gp_mk hi hj]
    show _ = (1 : Int) * (if i = j then 1 else 0) + 0
    by_cases e : i = j
    · subst e
      rw [if_pos rfl, show Nat.beq i i = true from Nat.beq_refl i]; rfl
    · rw [if_neg e, show Nat.beq i j = false from nbeq e]; rfl) C
  refine ⟨fun q => if q ≤ n then c q else 0, ?_, fun q q1 qn => ?_, fun q hq => if_neg (by omega), fun i j hi hj => ?_⟩
  · show (if 0 ≤ n then c 0 else 0) = 1
    rw [if_pos (Nat.zero_le _)]
    exact g1 0 (by omega)
  · show (q : Int) * (if q ≤ n then c q else 0) = _
    rw [if_pos qn, g2 q q1 (by omega)]
    congr 1
    exact sg_congr fun i hi => by
      show _ = (if i ≤ n then c i else 0) * _
      rw [if_pos (by have := List.mem_range.mp hi; omega)]
  · have := g3 i j hi hj
    rw [show 1 + n = n + 1 by omega] at this
    refine Eq.trans (sg_congr fun q hq => ?_) this
    show (if q ≤ n then c q else 0) * _ = _
    rw [if_pos (by have := List.mem_range.mp hq; omega), show n + 1 - 1 - q = n - q by omega]
end KX
set_option Elab.async false
set_option linter.all false
set_option maxRecDepth 100000
set_option maxHeartbeats 4000000
set_option pp.maxSteps 600
namespace KX
open PySem PySem.Spec PyProof.Rows L2 DL
theorem at0 {α : Type} {a : α} {r : List α} : L2.atI (a :: r) 0 = some a := show L2.atI (a :: r) ((0 : Nat) : Int) = some a from at_nat rfl
theorem at1 {α : Type} {a b : α} {r : List α} : L2.atI (a :: b :: r) 1 = some b := show L2.atI (a :: b :: r) ((1 : Nat) : Int) = some b from at_nat rfl
theorem at2 {α : Type} {a b c : α} {r : List α} : L2.atI (a :: b :: c :: r) 2 = some c := show L2.atI (a :: b :: c :: r) ((2 : Nat) : Int) = some c from at_nat rfl
theorem at3 {α : Type} {a b c d : α} {r : List α} : L2.atI (a :: b :: c :: d :: r) 3 = some d := show L2.atI (a :: b :: c :: d :: r) ((3 : Nat) : Int) = some d from at_nat rfl
/-! ### any value as a deed -/
open Classical in
noncomputable def isDeedB (n : Nat) (x : D) : Bool := decide (∃ dd, Deed.Ok n dd ∧ x = dd.D)
theorem isDeed_of {n : Nat} {x : D} (h : isDeedB n x = true) : ∃ dd, Deed.Ok n dd ∧ x = dd.D := by simpa [isDeedB] using h
theorem isDeed_D {n : Nat} {dd : Deed} (h : dd.Ok n) : isDeedB n dd.D = true := by simp only [isDeedB, decide_eq_true_eq]; exact ⟨dd, h, rfl⟩
theorem noDeed {n : Nat} {x : D} (h : ∀ dd : Deed, Deed.Ok n dd → x ≠ dd.D) : isDeedB n x = false := by
  rw [Bool.eq_false_iff]
  intro z
  obtain ⟨dd, ok, e⟩ := isDeed_of z
  exact h dd ok e
theorem isBet_of {n : Nat} (h1 : 1 ≤ n) {x : D} (h : isBet 0 ((n : Nat) - 1) x = true) : ∃ i : Nat, i < n ∧ x = .int (i : Nat) := by
  cases x <;> try (cases h; done)
  rename_i i
  have := of_decide_eq_true h
  refine ⟨i.toNat, by omega, ?_⟩
  congr 1
  omega
theorem isBet_int {n i : Nat} (h : i < n) : isBet 0 ((n : Nat) - 1) (.int (i : Nat)) = true := decide_eq_true (by omega)
theorem isFrom_of {a : Int} {x : D} (h : isFrom a x = true) : ∃ i, x = .int i ∧ a ≤ i := by
  cases x <;> try (cases h; done)
  exact ⟨_, rfl, of_decide_eq_true h⟩
theorem isOrd_row2 {n : Nat} {o : List Nat} (h1 : o.length = n) (h2 : (List.range n).Perm o) : isOrdB n (rowD (o.map Int.ofNat)) = true := by
  simp only [isOrdB, decide_eq_true_eq]
  exact ⟨o, h1, h2, rfl⟩
theorem Deed.D_ne {dd : Deed} : dd.D ≠ .tuple [] := by cases dd <;> simp [Deed.D]
theorem rep_word {w : Str} (h : w ∈ (["after", "before", "unafter", "unbefore"] : List Str)) : ∃ rw : RW, w = rw.str := by
  simp only [List.mem_cons, List.not_mem_nil, or_false] at h
  rcases h with rfl | rfl | rfl | rfl
  · exact ⟨.after, rfl⟩
  · exact ⟨.before, rfl⟩
  · exact ⟨.unafter, rfl⟩
  · exact ⟨.unbefore, rfl⟩
theorem RW.mem (w : RW) : w.str ∈ (["after", "before", "unafter", "unbefore"] : List Str) := by cases w <;> simp [RW.str]
theorem pass_nr : (Str.ofString "pass") ∉ (["after", "before", "unafter", "unbefore"] : List Str) := by decide
theorem stretch_nr : (Str.ofString "stretch") ∉ (["after", "before", "unafter", "unbefore"] : List Str) := by decide
theorem turn_nr : (Str.ofString "turn") ∉ (["after", "before", "unafter", "unbefore"] : List Str) := by decide
theorem RW.inj {a b : RW} (h : a.str = b.str) : a = b := by
  cases a <;> cases b <;> first | rfl | exact absurd h (by decide)
theorem rep_D {rw : RW} {r : List D} {dd : Deed} (h : .tuple (.str rw.str :: r) = dd.D) : ∃ (i j : Nat) (t : Int), dd = .rep rw i j t ∧ r = [.int (i : Nat), .int (j : Nat), .int t] := by
  cases dd with
  | rep w i j t =>
    simp only [Deed.D, PyData.tuple.injEq, List.cons.injEq, PyData.str.injEq] at h
    obtain rfl := RW.inj h.1
    exact ⟨i, j, t, rfl, h.2⟩
  | turn o => simp only [Deed.D, PyData.tuple.injEq, List.cons.injEq, PyData.str.injEq] at h; exact absurd (h.1 ▸ RW.mem rw) turn_nr
  | pass r => simp only [Deed.D, PyData.tuple.injEq, List.cons.injEq, PyData.str.injEq] at h; exact absurd (h.1 ▸ RW.mem rw) pass_nr
  | stretch i j => simp only [Deed.D, PyData.tuple.injEq, List.cons.injEq, PyData.str.injEq] at h; exact absurd (h.1 ▸ RW.mem rw) stretch_nr
theorem deed_rep {n : Nat} (h1 : 1 ≤ n) (rw : RW) (b c e : D) : isDeedB n (.tuple [.str rw.str, b, c, e]) = (isBet 0 ((n : Nat) - 1) b && (isBet 0 ((n : Nat) - 1) c && (!PyData.eqv b c && isFrom 1 e))) := by
  rw [Bool.eq_iff_iff]
  simp only [Bool.and_eq_true]
  constructor
  · intro h
    obtain ⟨dd, ok, e⟩ := isDeed_of h
    obtain ⟨i, j, t, rfl, q⟩ := rep_D e
    simp only [List.cons.injEq] at q
    obtain ⟨rfl, rfl, rfl, _⟩ := q
    obtain ⟨hi, hj, ne, ht⟩ := ok
    refine ⟨isBet_int hi, isBet_int hj, ?_, decide_eq_true ht⟩
    simp [PyData.eqv]
    omega
  · rintro ⟨q1, q2, q3, q4⟩
    obtain ⟨i, hi, rfl⟩ := isBet_of h1 q1
    obtain ⟨j, hj, rfl⟩ := isBet_of h1 q2
    obtain ⟨t, rfl, ht⟩ := isFrom_of q4
    refine isDeed_D (dd := .rep rw i j t) ⟨hi, hj, ?_, ht⟩
    rintro rfl
    simp [PyData.eqv] at q3
theorem deed_rep_no {n : Nat} (rw : RW) (r : List D) (h : r.length ≠ 3) : isDeedB n (.tuple (.str rw.str :: r)) = false := noDeed fun dd _ e => by
  obtain ⟨i, j, t, _, q⟩ := rep_D e
  exact h (by rw [q]; rfl)
theorem pass_D {r : List D} {dd : Deed} (h : .tuple (.str "pass" :: r) = dd.D) : ∃ i, dd = .pass i ∧ r = [.int (i : Nat)] := by
  cases dd with
  | pass i => simp only [Deed.D, PyData.tuple.injEq, List.cons.injEq] at h; exact ⟨i, rfl, h.2⟩
  | rep w i j t => simp only [Deed.D, PyData.tuple.injEq, List.cons.injEq, PyData.str.injEq] at h; exact absurd (h.1 ▸ RW.mem w) pass_nr
  | turn o => simp only [Deed.D, PyData.tuple.injEq, List.cons.injEq, PyData.str.injEq] at h; exact absurd h.1 (by decide)
  | stretch i j => simp only [Deed.D, PyData.tuple.injEq, List.cons.injEq, PyData.str.injEq] at h; exact absurd h.1 (by decide)
theorem stretch_D {r : List D} {dd : Deed} (h : .tuple (.str "stretch" :: r) = dd.D) : ∃ i j, dd = .stretch i j ∧ r = [.int (i : Nat), .int (j : Nat)] := by
  cases dd with
  | stretch i j => simp only [Deed.D, PyData.tuple.injEq, List.cons.injEq] at h; exact ⟨i, j, rfl, h.2⟩
  | rep w i j t => simp only [Deed.D, PyData.tuple.injEq, List.cons.injEq, PyData.str.injEq] at h; exact absurd (h.1 ▸ RW.mem w) stretch_nr
  | turn o => simp only [Deed.D, PyData.tuple.injEq, List.cons.injEq, PyData.str.injEq] at h; exact absurd h.1 (by decide)
  | pass i => simp only [Deed.D, PyData.tuple.injEq, List.cons.injEq, PyData.str.injEq] at h; exact absurd h.1 (by decide)
theorem turn_D {r : List D} {dd : Deed} (h : .tuple (.str "turn" :: r) = dd.D) : ∃ o, dd = .turn o ∧ r = [rowD (o.map Int.ofNat)] := by
  cases dd with
  | turn o => simp only [Deed.D, PyData.tuple.injEq, List.cons.injEq] at h; exact ⟨o, rfl, h.2⟩
  | rep w i j t => simp only [Deed.D, PyData.tuple.injEq, List.cons.injEq, PyData.str.injEq] at h; exact absurd (h.1 ▸ RW.mem w) turn_nr
  | stretch i j => simp only [Deed.D, PyData.tuple.injEq, List.cons.injEq, PyData.str.injEq] at h; exact absurd h.1 (by decide)
  | pass i => simp only [Deed.D, PyData.tuple.injEq, List.cons.injEq, PyData.str.injEq] at h; exact absurd h.1 (by decide)
theorem deed_pass_no {n : Nat} (r : List D) (h : r.length ≠ 1) : isDeedB n (.tuple (.str "pass" :: r)) = false := noDeed fun dd _ e => by
  obtain ⟨i, _, q⟩ := pass_D e
  exact h (by rw [q]; rfl)
theorem deed_stretch_no {n : Nat} (r : List D) (h : r.length ≠ 2) : isDeedB n (.tuple (.str "stretch" :: r)) = false := noDeed fun dd _ e => by
  obtain ⟨i, j, _, q⟩ := stretch_D e
  exact h (by rw [q]; rfl)
theorem deed_turn_no {n : Nat} (r : List D) (h : r.length ≠ 1) : isDeedB n (.tuple (.str "turn" :: r)) = false := noDeed fun dd _ e => by
  obtain ⟨i, _, q⟩ := turn_D e
  exact h (by rw [q]; rfl)
theorem deed_other {n : Nat} {w : Str} (r : List D) (h0 : w ∉ (["after", "before", "unafter", "unbefore"] : List Str)) (h1 : w ≠ "pass") (h2 : w ≠ "stretch") (h3 : w ≠ "turn") : isDeedB n (.tuple (.str w :: r)) = false := noDeed fun dd _ e => by
  cases dd with
  | rep w' i j t => simp only [Deed.D, PyData.tuple.injEq, List.cons.injEq, PyData.str.injEq] at e; exact h0 (e.1 ▸ RW.mem w')
  | turn o => simp only [Deed.D, PyData.tuple.injEq, List.cons.injEq, PyData.str.injEq] at e; exact h3 e.1
  | pass o => simp only [Deed.D, PyData.tuple.injEq, List.cons.injEq, PyData.str.injEq] at e; exact h1 e.1
  | stretch i j => simp only [Deed.D, PyData.tuple.injEq, List.cons.injEq, PyData.str.injEq] at e; exact h2 e.1
theorem deed_pass {n : Nat} (h1 : 1 ≤ n) (b : D) : isDeedB n (.tuple [.str "pass", b]) = isBet 0 ((n : Nat) - 1) b := by
  rw [Bool.eq_iff_iff]
  constructor
  · intro h
    obtain ⟨dd, ok, e⟩ := isDeed_of h
    obtain ⟨i, rfl, q⟩ := pass_D e
    simp only [List.cons.injEq] at q
    rw [q.1]
    exact isBet_int ok
  · intro h
    obtain ⟨i, hi, rfl⟩ := isBet_of h1 h
    exact isDeed_D (dd := .pass i) hi
theorem deed_stretch {n : Nat} (h1 : 1 ≤ n) (b c : D) : isDeedB n (.tuple [.str "stretch", b, c]) = (isBet 0 ((n : Nat) - 1) b && isBet 0 ((n : Nat) - 1) c) := by
  rw [Bool.eq_iff_iff, Bool.and_eq_true]
  constructor
  · intro h
    obtain ⟨dd, ok, e⟩ := isDeed_of h
    obtain ⟨i, j, rfl, q⟩ := stretch_D e
    simp only [List.cons.injEq] at q
    rw [q.1, q.2.1]
    exact ⟨isBet_int ok.1, isBet_int ok.2⟩
  · rintro ⟨h, h'⟩
    obtain ⟨i, hi, rfl⟩ := isBet_of h1 h
    obtain ⟨j, hj, rfl⟩ := isBet_of h1 h'
    exact isDeed_D (dd := .stretch i j) ⟨hi, hj⟩
theorem deed_turn {n : Nat} (b : D) : isDeedB n (.tuple [.str "turn", b]) = isOrdB n b := by
  rw [Bool.eq_iff_iff]
  constructor
  · intro h
    obtain ⟨dd, ok, e⟩ := isDeed_of h
    obtain ⟨o, rfl, q⟩ := turn_D e
    simp only [List.cons.injEq] at q
    rw [q.1]
    exact isOrd_row2 ok.1 ok.2
  · intro h
    obtain ⟨o, ho1, ho2, rfl⟩ := isOrd_of h
    exact isDeed_D (dd := .turn o) ⟨ho1, ho2⟩
section
variable {P : Program} {w : World} {K : Fg} {mg : Str → Option Value} {base : Heap} (G : Fre mg)
include G
def S_is_deed_thing : List D → D → Prop := fun ds d => ∃ n T x, Tbl n T ∧ okD x = true ∧ ds = [tb T, x] ∧ d = .bool (isDeedB n x)
def repD : D := .tuple [.str "after", .str "before", .str "unafter", .str "unbefore"]
end
end KX
set_option Elab.async false
set_option linter.all false
set_option maxRecDepth 100000
set_option maxHeartbeats 4000000
set_option pp.maxSteps 600
namespace KX
open PySem PySem.Spec PyProof.Rows L2 DL
theorem ok_rowD {r : List Int} (h : r.length ≤ 10000) : okD (rowD r) = true := by
  refine okD_tup (by simpa using h) fun d m => ?_
  obtain ⟨i, _, rfl⟩ := List.mem_map.mp m
  rfl
theorem Deed.ok {n : Nat} (h8 : n ≤ 8) {dd : Deed} (h : dd.Ok n) : okD dd.D = true := by
  cases dd with
  | turn o =>
    refine okD_tup (le_ok rfl) fun d m => ?_
    simp only [List.mem_cons, List.not_mem_nil, or_false] at m
    rcases m with rfl | rfl
    · rfl
    · have := h.1
      exact ok_rowD (by simp; omega)
  | _ => refine okD_tup (le_ok rfl) fun d m => ?_; simp only [List.mem_cons, List.not_mem_nil, or_false] at m; rcases m with rfl | rfl | rfl | rfl <;> rfl
section
variable {P : Program} {w : World} {K : Fg} {mg : Str → Option Value} {base : Heap} (G : Fre mg)
include G
def S_is_deed (CW : Addr) : List D → Out → Prop := fun ds o => ∃ x y, ds = [x, y] ∧ okD x = true ∧ okD y = true ∧ ((isWebB x = false ∧ o = .exn CW [(Str.ofString "thing", x)]) ∨ ∃ n T, Web n T ∧ x = tb T ∧ o = .ret (.bool (isDeedB n y)))
end
end KX
set_option Elab.async false
set_option linter.all false
set_option maxRecDepth 100000
set_option maxHeartbeats 4000000
set_option pp.maxSteps 600
namespace KX
open PySem PySem.Spec PyProof.Rows L2 DL
/-! ### what is shown -/
theorem piled_le {b : Nat} : ∀ {ts : List Str}, (∀ t ∈ ts, t.length ≤ b) → piled ts ≤ ts.length * (b + 2)
  | [], _ => by simp [piled]
  | t :: ts, h => by
    have ih := piled_le (ts := ts) fun x m => h x (List.mem_cons_of_mem _ m)
    have := h t List.mem_cons_self
    have e : piled (t :: ts) = t.length + 2 + piled ts := by simp [piled]
    rw [e, List.length_cons, Nat.succ_mul]
    omega
theorem shownAll_len : ∀ ds : List D, (PyData.shownAll ds).length = ds.length
  | [] => rfl
  | d :: ds => by simp [PyData.shownAll, shownAll_len ds]
theorem shownAll_mem {b : Nat} : ∀ {ds : List D}, (∀ d ∈ ds, d.shown.length ≤ b) → ∀ t ∈ PyData.shownAll ds, t.length ≤ b
  | [], _, t, m => by simp [PyData.shownAll] at m
  | d :: ds, h, t, m => by
    rw [PyData.shownAll] at m
    rcases List.mem_cons.mp m with rfl | m
    · exact h d List.mem_cons_self
    · exact shownAll_mem (fun x q => h x (List.mem_cons_of_mem _ q)) t m
theorem shown_tuple {b : Nat} {ds : List D} (h : ∀ d ∈ ds, d.shown.length ≤ b) : (PyData.shown (.tuple ds)).length ≤ ds.length * (b + 2) + 3 := by
  have p := piled_le (shownAll_mem h)
  rw [shownAll_len] at p
  rw [PyData.shown]
  unfold tupleText
  rw [strLen_append, strLen_append]
  have j : (Str.join ", " (PyData.shownAll ds)).length ≤ ds.length * (b + 2) := by
    by_cases e : PyData.shownAll ds = []
    · rw [e]; show (0 : Nat) ≤ _; omega
    · have := join_length_add _ e
      omega
  have c : (((if (PyData.shownAll ds).length == 1 then ",)" else ")" : String) : Str)).length ≤ 2 := by split <;> decide
  have o : (("(" : String) : Str).length = 1 := by decide
  omega
theorem shown_int_c : ∀ i : Fin 400, (PyData.shown (.int (i.val : Nat))).length ≤ 8 := by decide +kernel
theorem shown_int {i : Int} (h0 : 0 ≤ i) (h1 : i < 400) : (PyData.shown (.int i)).length ≤ 8 := by
  have := shown_int_c ⟨i.toNat, by omega⟩
  simp only [] at this
  rw [show ((i.toNat : Nat) : Int) = i from Int.toNat_of_nonneg h0] at this
  exact this
structure Shw (b dp : Nat) (d : D) : Prop where
  nd : d.hasDict = false
  sh : d.showable = true
  dp : d.depth ≤ dp
  sz : d.shown.length ≤ b
theorem shw_int {i : Int} (h0 : 0 ≤ i) (h1 : i < 400) : Shw 8 0 (.int i) := ⟨rfl, by
  simp only [PyData.showable, decide_eq_true_eq]
  have : i.natAbs.log2 ≤ i.natAbs := Nat.log2_le_self _
  omega, Nat.le_refl _, shown_int h0 h1⟩
theorem Shw.mono {b b' p p' : Nat} {d : D} (h : Shw b p d) (hb : b ≤ b') (hp : p ≤ p') : Shw b' p' d := ⟨h.nd, h.sh, Nat.le_trans h.dp hp, Nat.le_trans h.sz hb⟩
theorem shw_tuple {b p : Nat} {ds : List D} (h : ∀ d ∈ ds, Shw b p d) : Shw (ds.length * (b + 2) + 3) (p + 1) (.tuple ds) := by
  refine ⟨?_, ?_, ?_, shown_tuple fun d m => (h d m).sz⟩
  · have : ∀ l : List D, (∀ d ∈ l, Shw b p d) → PyData.hasDictAll l = false := by
      intro l
      induction l with
      | nil => intro _; rfl
      | cons d l ih => intro h; rw [PyData.hasDictAll, (h d List.mem_cons_self).nd, ih fun x m => h x (List.mem_cons_of_mem _ m)]; rfl
    rw [PyData.hasDict]; exact this ds h
  · have : ∀ l : List D, (∀ d ∈ l, Shw b p d) → PyData.showableAll l = true := by
      intro l
      induction l with
      | nil => intro _; rfl
      | cons d l ih => intro h; rw [PyData.showableAll, (h d List.mem_cons_self).sh, ih fun x m => h x (List.mem_cons_of_mem _ m)]; rfl
    rw [PyData.showable]; exact this ds h
  · have : ∀ l : List D, (∀ d ∈ l, Shw b p d) → PyData.depthAll l ≤ p := by
      intro l
      induction l with
      | nil => intro _; exact Nat.zero_le _
      | cons d l ih =>
        intro h
        rw [PyData.depthAll]
        exact Nat.max_le.mpr ⟨(h d List.mem_cons_self).dp, ih fun x m => h x (List.mem_cons_of_mem _ m)⟩
    rw [PyData.depth]
    exact Nat.succ_le_succ (this ds h)
/-- a table of at most 9 rows of at most 9 small numbers -/
structure Shp (T : List (List Int)) : Prop where
  len : T.length ≤ 9
  rows : ∀ r ∈ T, r.length ≤ 9
  small : ∀ r ∈ T, ∀ x ∈ r, 0 ≤ x ∧ x < 400
theorem shw_row {r : List Int} (h : r.length ≤ 9) (s : ∀ x ∈ r, 0 ≤ x ∧ x < 400) : Shw 93 1 (rowD r) := by
  refine (shw_tuple (b := 8) (p := 0) fun d m => ?_).mono ?_ (Nat.le_refl _)
  · obtain ⟨x, hx, rfl⟩ := List.mem_map.mp m
    exact shw_int (s x hx).1 (s x hx).2
  · rw [List.length_map]; omega
theorem shw_tb {T : List (List Int)} (h : Shp T) : Shw 858 2 (tb T) := by
  refine (shw_tuple (b := 93) (p := 1) fun d m => ?_).mono ?_ (Nat.le_refl _)
  · obtain ⟨r, hr, rfl⟩ := List.mem_map.mp m
    exact shw_row (h.rows r hr) (h.small r hr)
  · rw [List.length_map]; have := h.len; omega
theorem shw_str {x : Str} (h : (PyData.shown (.str x)).length ≤ 20) : Shw 20 0 (.str x) := ⟨rfl, rfl, Nat.le_refl _, h⟩
theorem shw_bool (b : Bool) : Shw 20 0 (.bool b) := ⟨rfl, rfl, Nat.le_refl _, by cases b <;> decide⟩
theorem Deed.shw {n : Nat} {dd : Deed} (h : dd.Ok n) (hn : n ≤ 8) (ht : ∀ w i j t, dd = .rep w i j t → t < 400) : Shw 300 2 dd.D := by
  cases dd with
  | turn o =>
    refine (shw_tuple (b := 93) (p := 1) fun d m => ?_).mono (by simp) (Nat.le_refl _)
    rcases List.mem_cons.mp m with rfl | m
    · exact (shw_str (by decide +kernel)).mono (by omega) (by omega)
    · rw [List.mem_singleton.mp m]
      refine shw_row (by rw [List.length_map, h.1]; omega) fun x hx => ?_
      obtain ⟨y, hy, rfl⟩ := List.mem_map.mp hx
      have := turn_lt h y hy
      simp
      omega
  | pass r =>
    have h : r < n := h
    refine (shw_tuple (b := 20) (p := 0) fun d m => ?_).mono (by simp) (by omega)
    rcases List.mem_cons.mp m with rfl | m
    · exact shw_str (by decide +kernel)
    · rw [List.mem_singleton.mp m]
      exact (shw_int (by omega) (by omega)).mono (by omega) (Nat.le_refl _)
  | stretch i j =>
    obtain ⟨h1, h2⟩ : i < n ∧ j < n := h
    refine (shw_tuple (b := 20) (p := 0) fun d m => ?_).mono (by simp) (by omega)
    simp only [List.mem_cons, List.not_mem_nil, or_false] at m
    rcases m with rfl | rfl | rfl
    · exact shw_str (by decide +kernel)
    · exact (shw_int (by omega) (by omega)).mono (by omega) (Nat.le_refl _)
    · exact (shw_int (by omega) (by omega)).mono (by omega) (Nat.le_refl _)
  | rep wd i j t =>
    obtain ⟨h1, h2, _, h3⟩ : i < n ∧ j < n ∧ i ≠ j ∧ 1 ≤ t := h
    have h4 := ht wd i j t rfl
    refine (shw_tuple (b := 20) (p := 0) fun d m => ?_).mono (by simp) (by omega)
    simp only [List.mem_cons, List.not_mem_nil, or_false] at m
    rcases m with rfl | rfl | rfl | rfl
    · cases wd <;> exact shw_str (by decide +kernel)
    · exact (shw_int (by omega) (by omega)).mono (by omega) (Nat.le_refl _)
    · exact (shw_int (by omega) (by omega)).mono (by omega) (Nat.le_refl _)
    · exact (shw_int (by omega) (by omega)).mono (by omega) (Nat.le_refl _)
end KX
set_option Elab.async false
set_option linter.all false
set_option maxRecDepth 100000
set_option maxHeartbeats 4000000
set_option pp.maxSteps 600
namespace KX
open PySem PySem.Spec PyProof.Rows L2 DL
/-! ### the deck -/
def deck (cs : List Int) (m k : Int) : D := .dict [(.str "left", .list (cs.map .int)), (.str "mixed", .int m), (.str "draws", .int k)]
def DeckD (d : D) : Prop := ∃ cs m k, cs.length ≤ 63 ∧ d = deck cs m k
def fsDraw : FS := fun Γ Q _ => ∃ v d n, Γ = [.ow v 2 d, .pv (.int n)] ∧ DeckD d ∧ 0 < n ∧ n < 1000 ∧ ∀ r d', 0 ≤ r → r < n → DeckD d' → Q (.int r) [.ow v 2 d', .no]
def kC : L2.Key := .inr "left"
def kM : L2.Key := .inr "mixed"
def kN : L2.Key := .inr "draws"
theorem deck_c {cs : List Int} {m k : Int} : getD? [(.str "left", .list (cs.map .int)), (.str "mixed", .int m), (.str "draws", .int k)] kC = some (.list (cs.map .int)) := rfl
theorem deck_m {cs : List Int} {m k : Int} : getD? [(.str "left", .list (cs.map .int)), (.str "mixed", .int m), (.str "draws", .int k)] kM = some (.int m) := rfl
theorem deck_n {cs : List Int} {m k : Int} : getD? [(.str "left", .list (cs.map .int)), (.str "mixed", .int m), (.str "draws", .int k)] kN = some (.int k) := rfl
section
variable {P : Program} {w : World} {K : Fg} {mg : Str → Option Value} {base : Heap} (G : Fre mg)
include G
abbrev n_law_draw : List Str := ["_law_deck_here", "_law_many", "_law_figure", "_law_cell"]
omit G in
theorem nd_law_draw : n_law_draw.Nodup := by decide
theorem b_draw {k : Nat} {Γ : Gam} {Q : D → Gam → Prop} {R : XP} (S : fsDraw Γ Q R) : BodyF P w K mg base k n_law_draw ["_law_deck_here", "_law_many"] (top 33) 0 Γ Q R := by
  obtain ⟨v, d, n, rfl, ⟨cs, m, kk, hcs, rfl⟩, hn0, hn1, q⟩ := S
  intro qual f cdv A outer s H E
  conv in (occs := *) defScope _ => all_goals whnf
  conv in defBody _ => whnf
  intro hr
  have hu := hr.hu
  show SS _ _ _ _ [.ow v 2 (deck cs m kk), .pv (.int n), .no, .no] _
  refine ss_cons (s1_dput hu (eg_bin (ev_lock (ev_dsub hu (ev_var 0 rfl (ev_str ⟨_, kN, .int kk, rfl, rfl, deck_n, rfl, ev_int ⟨_, b_add, ?_⟩⟩))))))
  refine epl_name 0 rfl ⟨1, _, rfl, rfl, le_ok rfl, ev_str ⟨kN, rfl, rfl, .inr trivial, ?_⟩⟩
  show SS _ _ _ _ [.ow v 2 (deck cs m (kk + 1)), .pv (.int n), .no, .no] _
  generalize kk + 1 = k1
  refine ss_cons (s1_set 2 (ev_lock (eg_bin (ev_dsub hu (ev_var 0 rfl (ev_str ⟨_, kM, .int m, rfl, rfl, deck_m, ?_⟩))))) nd_law_draw)
  refine eg_bin (ev_int (ev_dsub hu (ev_var 0 rfl (ev_str ⟨_, kN, .int k1, rfl, rfl, deck_n, _, b_mul (.inl (by decide)), _, b_add, rfl, lt_ok rfl, ?_⟩))))
  show SS _ _ _ _ [.ow v 2 (deck cs m k1), .pv (.int n), .pv (.int (m + _ * k1)), .no] _
  generalize m + _ * k1 = x1
  -- the card, if there is one
  refine ss_cons (S1.nxi (N := fun Γ' => ∃ x s3 cs', cs'.length ≤ 63 ∧ Γ' = [.ow v 2 (deck cs' m k1), .pv (.int n), .pv (.int x), s3]) (s1_if (et_lock (et_cmp (ev_dsub hu (ev_var 0 rfl (ev_str ⟨_, kC, _, rfl, rfl, deck_c, ?_⟩)))))) ?_)
  · refine eg_freeze (n := 1) (eg_lst (ea_nil ⟨[], rfl, le_ok rfl, !PyData.eqv (.list (cs.map .int)) (.list []), c_neD hr.rm.units (shaped_ints cs) (by decide), fun h => ?_, fun h => ss_nil ⟨x1, .no, cs, hcs, rfl⟩⟩))
    obtain ⟨ds, c, rfl⟩ : ∃ ds c, cs = ds ++ [c] := by
      rcases List.eq_nil_or_concat cs with z | ⟨ds, c, z⟩
      · subst z; simp [PyData.eqv, PyData.eqvAll] at h
      · exact ⟨ds, c, by simpa using z⟩
    have hds : ds.length + 1 ≤ 63 := by simpa using hcs
    refine ss_cons (s1_set 3 (ev_pop0 (epl_key hu (epl_name 0 rfl ⟨1, _, rfl, rfl, ev_str ⟨kC, _, rfl, deck_c, 0, ds.map .int, .int c, rfl, by simp, .inl rfl, lt_ok rfl, ?_⟩⟩))) nd_law_draw)
    show SS _ _ _ _ [.ow v 2 (deck ds m k1), .pv (.int n), .pv (.int x1), .pv (.int c)] _
    refine ss_cons (s1_if (et_cmp (ev_var 3 rfl (eg_bin (ev_int (ev_int ⟨_, b_pow (by unfold CPow; decide), _, c_ge, fun _ => ?_, fun _ => ss_nil ?_⟩))))))
    · have hmx : 0 < (if n > 2 then n else 2) ∧ (if n > 2 then n else 2) < 1073741824 := by split <;> omega
      refine ss_cons (s1_expr (ev_appendL (epl_key hu (epl_name 0 rfl ⟨1, _, rfl, rfl, ev_str ⟨kC, _, rfl, deck_c, 0, ds.map .int, rfl, rfl, by simp; omega, ?_⟩⟩))))
      refine eg_bin (ev_var 3 rfl (eg_callB G.max boot_max (ea_cons (ev_int (ea_cons (ev_var 1 rfl (ea_nil ⟨[.int 2, .int n], _, rfl, q_max2 rfl, _, b_fdiv hmx, rfl, ?_⟩)))))))
      have e1 : ds.map PyData.int ++ [.int (c / (if n > 2 then n else 2))] = (ds ++ [c / (if n > 2 then n else 2)]).map .int := by simp
      rw [e1]
      show SS _ _ _ _ [.ow v 2 (deck (ds ++ [c / (if n > 2 then n else 2)]) m k1), .pv (.int n), .pv (.int x1), .pv (.int c)] _
      refine ss_one (s1_ret (eg_bin (eg_callTy G.int boot_int (ea_cons (ev_var 3 rfl (ea_nil ⟨[.int c], _, rfl, q_int, ev_var 1 rfl ⟨_, b_mod hn0, le_ok rfl, ?_⟩⟩))))))
      rw [sh_ow, sh_pvs, sh_nil]
      exact q _ _ (Int.emod_nonneg _ (by omega)) (Int.emod_lt_of_pos _ hn0) ⟨_, m, k1, by simpa using hds, rfl⟩
    · refine ss_one (s1_set 2 (eg_bin (ev_var 2 rfl (eg_bin (eg_callTy G.int boot_int (ea_cons (ev_var 3 rfl (ea_nil ⟨[.int c], _, rfl, q_int, ev_int ⟨_, b_mod (by decide), _, b_add, lt_ok rfl, ?_⟩⟩))))))) nd_law_draw)
      exact ⟨_, _, ds, by omega, rfl⟩
  rintro Γ' ⟨x, s3, cs', hcs', rfl⟩
  refine ss_cons (s1_set 2 (eg_bin (eg_callTy G.int boot_int (ea_cons (eg_bin (eg_bin (ev_var 2 rfl (ev_int ⟨_, b_mul (.inr (by decide)), ?_⟩))))))) nd_law_draw)
  refine ev_int ⟨_, b_add, ea_nil ⟨[_], _, rfl, q_int, ev_int ⟨_, b_mod (by decide), lt_ok rfl, ?_⟩⟩⟩
  generalize hx2 : (x * _ + _) % _ = x2
  have hx2a : 0 ≤ x2 := by rw [← hx2]; exact Int.emod_nonneg _ (by decide)
  have hx2b : x2 < 2147483647 := by rw [← hx2]; omega
  refine ss_cons (s1_set 2 (eg_bin (eg_callTy G.int boot_int (ea_cons (eg_bin (eg_bin (eg_bin (ev_var 2 rfl (ev_var 2 rfl ⟨_, b_mul (.inl (by omega)), ?_⟩)))))))) nd_law_draw)
  refine eg_bin (ev_int (ev_lock (ev_dsub hu (ev_var 0 rfl (ev_str ⟨_, kN, .int k1, rfl, rfl, deck_n, rfl, _, b_mul (.inl (by decide)), _, b_add, ?_⟩)))))
  refine ev_int ⟨_, b_add, ea_nil ⟨[_], _, rfl, q_int, ev_int ⟨_, b_mod (by decide), lt_ok rfl, ?_⟩⟩⟩
  refine ss_cons (s1_set 2 (eg_bin (eg_callTy G.int boot_int (ea_cons (eg_bin (ev_var 2 rfl (ev_int ⟨_, b_mul (.inr (by decide)), ?_⟩)))))) nd_law_draw)
  refine ea_nil ⟨[_], _, rfl, q_int, ev_int ⟨_, b_mod (by decide), lt_ok rfl, ?_⟩⟩
  refine ss_one (s1_ret (eg_bin (eg_callTy G.int boot_int (ea_cons (eg_bin (ev_var 2 rfl (ev_int ⟨_, b_fdiv (by unfold CDiv; decide), ?_⟩)))))))
  refine ea_nil ⟨[_], _, rfl, q_int, ev_var 1 rfl ⟨_, b_mod hn0, le_ok rfl, ?_⟩⟩
  show Q _ (sh (.ow v 2 (deck cs m kk) :: [.pv (.int n)]) (.ow v 2 (deck cs' m k1) :: _))
  rw [sh_ow]
  exact q _ _ (Int.emod_nonneg _ (by omega)) (Int.emod_lt_of_pos _ hn0) ⟨cs', m, k1, hcs', rfl⟩
end
end KX
set_option Elab.async false
set_option linter.all false
set_option maxRecDepth 100000
set_option maxHeartbeats 4000000
set_option pp.maxSteps 600
namespace DL
open PySem PySem.Spec PyProof.Rows L2
section
variable {X : Cx} {R : XP} {Γ : Gam} {m n : Nat} {tg iter elt e a b c : Expr} {P : D → Gam → Prop} {scope : Scope} {vs : List Nat}
/-- a comprehension that keeps a law of the slots, and gives every item a law -/
theorem lci_each {ds : List D} {Γ1 : Gam} (J : Gam → Prop) (p : D → Prop) (hl : ds.length ≤ 16777216) (hw : J (wipeG Γ1 vs)) (hP : ∀ acc Γ2, acc.length = ds.length → (∀ d ∈ acc, p d) → J Γ2 → P (.list acc) (restore Γ1 Γ2 vs))
    (h : ∀ (i : Nat) d Γ2, ds[i]? = some d → J Γ2 → ∀ s H C cl fp, GT (bx X scope s H C cl fp) vs tg d Γ2 fun Γ3 => ∀ s H C cl fp, EG (bx X scope s H C cl fp) noX n elt Γ3 fun e Γ5 => p e ∧ J (wipeG Γ5 vs)) :
    LcI X scope vs n tg elt [] P ds Γ1 := by
  refine ⟨fun i acc Γ => i ≤ ds.length ∧ acc.length = i ∧ (∀ d ∈ acc, p d) ∧ J Γ, hl, ⟨Nat.zero_le _, rfl, fun _ z => by simp at z, hw⟩, fun i d acc Γ2 hd _ ⟨hi, e1, e2, e3⟩ s H C cl fp => ?_, fun acc Γ2 ⟨_, e1, e2, e3⟩ => hP acc Γ2 e1 e2 e3⟩
  refine pg_weak (h i d Γ2 hd e3 s H C cl fp) fun v σ H Q ⟨r, fp, hE, k⟩ => ⟨r, fp, hE, fun σ' Γ' H' fp' p0 => k σ' Γ' H' fp' fun s H C cl fp => ?_⟩
  refine ⟨fun _ s H C cl fp => (p0 s H C cl fp).imp fun e Γ5 ⟨q1, q2⟩ => ⟨(List.getElem?_eq_some_iff.mp hd).1, by simp [e1], fun x hx => ?_, q2⟩, fun z => nomatch z⟩
  rcases List.mem_append.mp hx with z | z
  · exact e2 x z
  · rw [List.mem_singleton.mp z]; exact q1
end
end DL
namespace KX
open PySem PySem.Spec PyProof.Rows L2 DL
section
variable {X : Cx} {R : XP} {Γ : Gam} {e : Expr} {p p0 pos : Pos} {P : D → Gam → Prop}
/-- one draw -/
theorem ev_draw {k j : Nat} (F : Df X.prog X.w X.K X.mg X.base k "_law_draw" (top 33) ["_law_deck_here", "_law_many"] 0 fsDraw) (hr : Rm j X.A) (hk : k ≤ j) (i : Nat) {v0 : V} {d0 : D} (hd : Γ[i]? = some (.ow v0 2 d0))
    (h : EV X R e Γ fun dn Γ1 => ∃ v d n, dn = .int n ∧ Γ1[i]? = some (.ow v 2 d) ∧ DeckD d ∧ 0 < n ∧ n < 1000 ∧ ∀ r d', 0 ≤ r → r < n → DeckD d' → P (.int r) (Γ1.set i (.ow v 2 d')))
    (hN : X.N[i]? = some "_law_deck_here" := by rfl) (hv : Vis X.env.scope "_law_deck_here" := by first | exact Or.inl rfl | exact Or.inr (Or.inl rfl) | exact Or.inr (Or.inr rfl))
    (hg : Gl X "_law_draw" := by rfl) (hs1 : starEach [e] X.env = (false, eval e X.env) :: starEach [] X.env := by rfl)
    (hs : starEach [.Name "_law_deck_here" p0, e] X.env = (false, eval (.Name "_law_deck_here" p0) X.env) :: starEach [e] X.env := by rfl)
    (hpl : (backTo pos (starEach [e] X.env)).any (·.1) = false := by rfl) :
    EV X R (.Call (.Name "_law_draw" p) [.Name "_law_deck_here" p0, e] [] pos) Γ P := by
  refine eg_call F hr hk (ea_slot i hd (ea_cons (h.imp fun dn Γ1 ⟨v, d, n, e1, e2, e3, e4, e5, q⟩ => ea_nil ?_) hs1) hN hv (by decide) (by decide) hs) hg (by decide) hs hpl
  subst e1
  refine ⟨rfl, [.ow v 2 d, .pv (.int n)], resA_sl (ds := [.int n]) e2, v, d, n, rfl, e3, e4, e5, fun r d' h1 h2 h3 => ?_⟩
  show P _ (updA Γ1 [.sl i, .pv (.int n)] [.ow v 2 d', .no])
  rw [show updA Γ1 [.sl i, .pv (.int n)] [.ow v 2 d', .no] = Γ1.set i (.ow v 2 d') from updA_sl (ds := [.int n])]
  exact q r d' h1 h2 h3
def fsPick : FS := fun Γ Q _ => ∃ v d sq ds, Γ = [.ow v 2 d, .pv sq] ∧ seqD sq = some ds ∧ DeckD d ∧ 0 < ds.length ∧ ds.length < 1000 ∧ ∀ x d', x ∈ ds → DeckD d' → Q x [.ow v 2 d', .no]
theorem ev_pick {k j : Nat} (F : Df X.prog X.w X.K X.mg X.base k "_law_pick" (top 34) ["_law_deck_here", "_law_some"] 0 fsPick) (hr : Rm j X.A) (hk : k ≤ j) (i : Nat) {v0 : V} {d0 : D} (hd : Γ[i]? = some (.ow v0 2 d0))
    (h : EV X R e Γ fun dn Γ1 => ∃ v d ds, seqD dn = some ds ∧ Γ1[i]? = some (.ow v 2 d) ∧ DeckD d ∧ 0 < ds.length ∧ ds.length < 1000 ∧ ∀ x d', x ∈ ds → DeckD d' → P x (Γ1.set i (.ow v 2 d')))
    (hN : X.N[i]? = some "_law_deck_here" := by rfl) (hv : Vis X.env.scope "_law_deck_here" := by first | exact Or.inl rfl | exact Or.inr (Or.inl rfl) | exact Or.inr (Or.inr rfl))
    (hg : Gl X "_law_pick" := by rfl) (hs1 : starEach [e] X.env = (false, eval e X.env) :: starEach [] X.env := by rfl)
    (hs : starEach [.Name "_law_deck_here" p0, e] X.env = (false, eval (.Name "_law_deck_here" p0) X.env) :: starEach [e] X.env := by rfl)
    (hpl : (backTo pos (starEach [e] X.env)).any (·.1) = false := by rfl) :
    EV X R (.Call (.Name "_law_pick" p) [.Name "_law_deck_here" p0, e] [] pos) Γ P := by
  refine eg_call F hr hk (ea_slot i hd (ea_cons (h.imp fun dn Γ1 ⟨v, d, ds, e1, e2, e3, e4, e5, q⟩ => ea_nil ?_) hs1) hN hv (by decide) (by decide) hs) hg (by decide) hs hpl
  refine ⟨rfl, [.ow v 2 d, .pv dn], resA_sl (ds := [dn]) e2, v, d, dn, ds, rfl, e1, e3, e4, e5, fun x d' h1 h3 => ?_⟩
  show P _ (updA Γ1 [.sl i, .pv dn] [.ow v 2 d', .no])
  rw [show updA Γ1 [.sl i, .pv dn] [.ow v 2 d', .no] = Γ1.set i (.ow v 2 d') from updA_sl (ds := [dn])]
  exact q x d' h1 h3
end
theorem map_inj {α β : Type} {f : α → β} (hf : ∀ a b, f a = f b → a = b) : ∀ {l l' : List α}, l.map f = l'.map f → l = l'
  | [], [], _ => rfl
  | [], b :: l', h => by simp at h
  | a :: l, [], h => by simp at h
  | a :: l, b :: l', h => by
    simp only [List.map_cons, List.cons.injEq] at h
    rw [hf _ _ h.1, map_inj hf h.2]
def lrow (r : List Int) : D := .list (r.map .int)
def tL (R : List (List Int)) : D := .list (R.map lrow)
def setE (R : List (List Int)) (a b : Nat) (v : Int) : List (List Int) := R.set a (((R[a]?).getD []).set b v)
theorem tL_set {R : List (List Int)} {a b : Nat} {v : Int} (h : a < R.length) : PyData.list ((R.map lrow).set a (.list (((R[a]?.getD []).map PyData.int).set b (.int v)))) = tL (setE R a b v) := by
  unfold tL setE
  rw [List.map_set]
  congr 2
  simp [lrow, List.map_set]
theorem tL_at {R : List (List Int)} {a : Nat} (h : a < R.length) : (R.map lrow)[a]? = some (lrow (R[a]?.getD [])) := by simp [h]
theorem setE_len {R : List (List Int)} {a b : Nat} {v : Int} : (setE R a b v).length = R.length := by simp [setE]
section
variable {P : Program} {w : World} {K : Fg} {mg : Str → Option Value} {base : Heap} (G : Fre mg)
include G
abbrev n_law_pick : List Str := ["_law_deck_here", "_law_some"]
omit G in
theorem nd_law_pick : n_law_pick.Nodup := by decide
theorem b_pick (F1 : Df P w K mg base 1 "_law_draw" (top 33) ["_law_deck_here", "_law_many"] 0 fsDraw) {k : Nat} (hk : 1 ≤ k) {Γ : Gam} {Q : D → Gam → Prop} {R : XP} (S : fsPick Γ Q R) : BodyF P w K mg base k n_law_pick ["_law_deck_here", "_law_some"] (top 34) 0 Γ Q R := by
  obtain ⟨v, d, sq, ds, rfl, hs, hd, hl0, hl1, q⟩ := S
  intro qual f cdv A outer s H E
  conv in (occs := *) defScope _ => all_goals whnf
  conv in defBody _ => whnf
  intro hr
  show SS _ _ _ _ [.ow v 2 d, .pv sq] _
  refine ss_one (s1_ret (ev_sub (ev_var 1 rfl (ev_draw F1 hr hk 0 rfl (eg_callB G.len boot_len (ea_cons (ev_var 1 rfl (ea_nil ⟨[sq], _, rfl, q_len hs, v, d, ds.length, rfl, rfl, hd, by omega, by omega, fun r d' h0 h1 hd' => ?_⟩))))))))
  obtain ⟨i, rfl⟩ := Int.eq_ofNat_of_zero_le h0
  have hi : i < ds.length := by omega
  refine ⟨ds[i], ?_, le_ok rfl, ?_⟩
  · cases sq with
    | tuple es => cases hs; exact sub_tup (at_nat (by simp [hi]))
    | list es => cases hs; exact sub_lst (at_nat (by simp [hi]))
    | _ => cases hs
  · show Q _ (sh [.ow v 2 d, .pv sq] [.ow v 2 d', .pv sq])
    rw [sh_ow, sh_pvs, sh_nil]
    exact q _ _ (List.getElem_mem hi) hd'
end
end KX
set_option Elab.async false
set_option linter.all false
set_option maxRecDepth 100000
set_option maxHeartbeats 4000000
set_option pp.maxSteps 600
namespace KX
open PySem PySem.Spec PyProof.Rows L2 DL
def natsD (o : List Nat) : List D := o.map fun x => .int (x : Nat)
theorem era_perm {α : Type} : ∀ {l : List α} {j : Nat} {x : α}, l[j]? = some x → (x :: l.eraseIdx j).Perm l
  | a :: l, 0, x, h => by
    simp at h; subst h; exact .refl _
  | a :: l, j + 1, x, h => by
    have ih := era_perm (l := l) (j := j) (x := x) (by simpa using h)
    show (x :: a :: l.eraseIdx j).Perm (a :: l)
    exact (List.Perm.swap a x _).trans (ih.cons a)
theorem era_map {α β : Type} (f : α → β) : ∀ {l : List α} {j : Nat}, (l.map f).eraseIdx j = (l.eraseIdx j).map f
  | [], j => by simp
  | a :: l, 0 => rfl
  | a :: l, j + 1 => by
    show f a :: (l.map f).eraseIdx j = f a :: (l.eraseIdx j).map f
    rw [era_map f]
def fsOrder : FS := fun Γ Q _ => ∃ v d n, Γ = [.ow v 2 d, .pv (.int (n : Nat))] ∧ DeckD d ∧ n < 1000 ∧ ∀ o d', o.Perm (List.range n) → DeckD d' → Q (.list (natsD o)) [.ow v 2 d', .no]
section
variable {P : Program} {w : World} {K : Fg} {mg : Str → Option Value} {base : Heap} (G : Fre mg)
include G
abbrev n_law_order : List Str := ["_law_deck_here", "_law_n", "_law_left", "_law_found", "_law_turn"]
omit G in
theorem nd_law_order : n_law_order.Nodup := by decide
theorem b_order (F1 : Df P w K mg base 1 "_law_draw" (top 33) ["_law_deck_here", "_law_many"] 0 fsDraw) {k : Nat} (hk : 1 ≤ k) {Γ : Gam} {Q : D → Gam → Prop} {R : XP} (S : fsOrder Γ Q R) : BodyF P w K mg base k n_law_order ["_law_deck_here", "_law_n"] (top 35) 0 Γ Q R := by
  obtain ⟨v, d, n, rfl, hd, hn, q⟩ := S
  intro qual f cdv A outer s H E
  conv in (occs := *) defScope _ => all_goals whnf
  conv in defBody _ => whnf
  intro hr
  show SS _ _ _ _ [.ow v 2 d, .pv (.int (n : Nat)), .no, .no, .no] _
  refine ss_cons (s1_par2 2 3 1 1 rfl nd_law_order (eg_listRg rfl G.list G.range (ev_var 1 rfl ⟨(n : Nat), rfl, by omega, by omega, ?_⟩)))
  refine eg_lst (ea_nil ⟨[], rfl, le_ok rfl, lt_ok rfl, lt_ok rfl, fun v2 v3 => ?_⟩)
  refine ss_cons (s1_for (ix := [4]) (passes_of rfl) rfl (ei_range1 G.range (ev_var 1 rfl ⟨(n : Nat), rfl, by omega, by omega, ?_⟩)))
  refine ⟨fun i Γ => ∃ l f d v2 v3 s4, (l ++ f).Perm (List.range n) ∧ f.length = i ∧ DeckD d ∧ Γ = [.ow v 2 d, .pv (.int (n : Nat)), .ow v2 1 (.list (natsD l)), .ow v3 1 (.list (natsD f)), s4], ⟨List.range n, [], d, v2, v3, .no, by simp, rfl, hd, ?_⟩, ?_, ?_⟩
  · simp [sv, natsD, rngD]
  · rintro i dd Γ hdd ⟨l, f, d, v2, v3, s4, hp, hf, hd, rfl⟩
    have hi : i < n := by
      have := (List.getElem?_eq_some_iff.mp hdd).1
      simpa [rngD_len] using this
    have hlen : l.length + f.length = n := by have := hp.length_eq; simpa using this
    refine gt_name 4 nd_law_order (lt_ok rfl) ?_
    refine ss_one (s1_expr (ev_append 3 rfl (ev_popAt 2 rfl (ev_draw F1 hr hk 0 rfl (ev_lock (eg_callB G.len boot_len (ea_cons (ev_var 2 rfl (ea_nil ⟨[.list (natsD l)], _, rfl, q_len (ds := natsD l) rfl, rfl, v, d, ((natsD l).length : Nat), rfl, rfl, hd, ?_, ?_, fun r d' h0 h1 hd' => ?_⟩)))))))))
    · simp [natsD]; omega
    · simp [natsD]; omega
    obtain ⟨j, rfl⟩ := Int.eq_ofNat_of_zero_le h0
    have hj : j < l.length := by simp [natsD] at h1; omega
    refine ⟨v2, 0, natsD l, (j : Nat), j, .int (l[j] : Nat), rfl, rfl, ?_, ?_, ?_, .inl rfl, v3, 0, natsD f, rfl, .inl rfl, ?_, l.eraseIdx j, f ++ [l[j]], d', v2, v3, .pv dd, ?_, ?_, hd', ?_⟩
    · simp [natsD, ixN, hj]
    · simp [natsD, hj]
    · simp [natsD]; omega
    · simp [natsD]; omega
    · have h2 : (l.eraseIdx j ++ (f ++ [l[j]])).Perm (l ++ f) := by
        have h3 := era_perm (l := l) (j := j) (x := l[j]) (by simp [hj])
        have h4 : (l.eraseIdx j ++ (f ++ [l[j]])).Perm (l[j] :: (l.eraseIdx j ++ f)) := by
          rw [← List.append_assoc]
          exact List.perm_append_comm
        exact h4.trans (h3.append_right f)
      exact h2.trans hp
    · simp [hf]
    · simp [natsD, era_map]
  · rintro Γ ⟨l, f, d, v2, v3, s4, hp, hf, hd, rfl⟩
    rw [rngD_len] at hf
    have hlen : l.length + f.length = n := by have := hp.length_eq; simpa using this
    have hl : l = [] := List.length_eq_zero_iff.mp (by omega)
    subst hl
    refine ss_one (s1_ret (ev_varZ 3 rfl ⟨le_ok rfl, ?_⟩))
    show Q _ (sh (.ow v 2 _ :: [.pv (.int (n : Nat))]) (.ow v 2 d :: _))
    rw [sh_ow]
    exact q f d (by simpa using hp) hd
end
end KX
set_option Elab.async false
set_option linter.all false
set_option maxRecDepth 100000
set_option maxHeartbeats 4000000
set_option pp.maxSteps 600
namespace KX
open PySem PySem.Spec PyProof.Rows L2 DL
/-! ### is it a web? -/
def brow (r : List Bool) : D := .list (r.map .bool)
def bL (B : List (List Bool)) : D := .list (B.map brow)
def bat (B : List (List Bool)) (i j : Nat) : Bool := (((B[i]?).getD [])[j]?).getD false
structure Sq (n : Nat) (R : List (List Int)) : Prop where
  len : R.length = n
  rows : ∀ r ∈ R, r.length = n
/-- walks whose middle rooms are below m -/
inductive Wk (R : List (List Int)) (m : Nat) : Nat → Nat → Prop
  | one {i j : Nat} : 0 < ent R i j → Wk R m i j
  | comp {i k j : Nat} : k < m → Wk R m i k → Wk R m k j → Wk R m i j
theorem Wk.step {R : List (List Int)} {m i j : Nat} (h : Wk R (m + 1) i j) : Wk R m i j ∨ (Wk R m i m ∧ Wk R m m j) := by
  induction h with
  | one e => exact .inl (.one e)
  | @comp i k j hk _ _ ih1 ih2 =>
    rcases Nat.lt_succ_iff_lt_or_eq.mp hk with z | z
    · rcases ih1 with a | ⟨a, b⟩
      · rcases ih2 with c | ⟨c, d⟩
        · exact .inl (.comp z a c)
        · exact .inr ⟨.comp z a c, d⟩
      · rcases ih2 with c | ⟨c, d⟩
        · exact .inr ⟨a, .comp z b c⟩
        · exact .inr ⟨a, d⟩
    · subst z
      refine .inr ⟨?_, ?_⟩
      · rcases ih1 with a | ⟨a, _⟩ <;> exact a
      · rcases ih2 with a | ⟨_, a⟩ <;> exact a
theorem Wk.mono {R : List (List Int)} {m m' i j : Nat} (hm : m ≤ m') (h : Wk R m i j) : Wk R m' i j := by
  induction h with
  | one e => exact .one e
  | comp hk _ _ ih1 ih2 => exact .comp (Nat.lt_of_lt_of_le hk hm) ih1 ih2
theorem Wk.zero {R : List (List Int)} {i j : Nat} (h : Wk R 0 i j) : 0 < ent R i j := by
  cases h with
  | one e => exact e
  | comp h _ _ => exact absurd h (Nat.not_lt_zero _)
theorem wk_of {n : Nat} {R : List (List Int)} (hR : ∀ i j, 0 < ent R i j → j < n) {i j : Nat} (h : Rch R i j) : Wk R n i j := by
  induction h with
  | one e => exact .one e
  | step e _ ih => exact .comp (hR _ _ e) (.one e) ih
structure Lds (n : Nat) (R : List (List Int)) (B : List (List Bool)) (lv : Nat → Nat) : Prop where
  len : B.length = n
  rows : ∀ r ∈ B, r.length = n
  ok : ∀ i j, bat B i j = true → Rch R i j
  cm : ∀ i j, i < n → j < n → Wk R (lv i) i j → bat B i j = true
theorem lds_row {n : Nat} {R : List (List Int)} {B : List (List Bool)} {lv : Nat → Nat} (h : Lds n R B lv) {i : Nat} (hi : i < n) : ((B[i]?).getD []).length = n := by
  have : i < B.length := by rw [h.len]; exact hi
  simp only [List.getElem?_eq_getElem this, Option.getD_some]
  exact h.rows _ (List.getElem_mem this)
abbrev lvl (m i : Nat) : Nat → Nat := fun a => if a < i then m + 1 else m
theorem lds_skip {n : Nat} {R : List (List Int)} {B : List (List Bool)} {m i : Nat} (h : Lds n R B (lvl m i)) (hi : i < n) (hm : m < n) (hb : bat B i m = false) : Lds n R B (lvl m (i + 1)) := by
  refine ⟨h.len, h.rows, h.ok, fun a j ha hj w => ?_⟩
  by_cases c : a = i
  · subst c
    have w : Wk R (m + 1) a j := by simpa [lvl] using w
    rcases w.step with z | ⟨z, _⟩
    · exact h.cm a j ha hj (by simpa [lvl] using z)
    · have := h.cm a m ha hm (by simpa [lvl] using z)
      rw [hb] at this; cases this
  · refine h.cm a j ha hj ?_
    have e : lvl m (i + 1) a = lvl m i a := by
      by_cases c2 : a < i
      · simp [lvl, c2, Nat.lt_succ_of_lt c2]
      · simp [lvl, c2, show ¬ a < i + 1 by omega]
    rw [← e]; exact w
theorem lds_set {n : Nat} {R : List (List Int)} {B : List (List Bool)} {m i : Nat} (h : Lds n R B (lvl m i)) (hi : i < n) (hm : m < n) (hb : bat B i m = true) :
    Lds n R (B.set i (List.zipWith (· || ·) ((B[i]?).getD []) ((B[m]?).getD []))) (lvl m (i + 1)) := by
  have li := lds_row h hi
  have lm := lds_row h hm
  have key : ∀ j, j < n → bat (B.set i (List.zipWith (· || ·) ((B[i]?).getD []) ((B[m]?).getD []))) i j = (bat B i j || bat B m j) := fun j hj => by
    unfold bat
    rw [List.getElem?_set_self (by rw [h.len]; exact hi)]
    simp only [Option.getD_some]
    rw [List.getElem?_zipWith]
    rw [List.getElem?_eq_getElem (by omega : j < ((B[i]?).getD []).length), List.getElem?_eq_getElem (by omega : j < ((B[m]?).getD []).length)]
    rfl
  have off : ∀ a j, a ≠ i → bat (B.set i (List.zipWith (· || ·) ((B[i]?).getD []) ((B[m]?).getD []))) a j = bat B a j := fun a j c => by
    unfold bat
    rw [List.getElem?_set_ne (fun z => c z.symm)]
  refine ⟨by simp [h.len], fun r hr => ?_, fun a j e => ?_, fun a j ha hj w => ?_⟩
  · rcases List.mem_or_eq_of_mem_set hr with z | z
    · exact h.rows r z
    · subst z; simp [li, lm]
  · by_cases c : a = i
    · subst c
      by_cases hj : j < n
      · rw [key j hj] at e
        rcases Bool.or_eq_true _ _ ▸ e with z | z
        · exact h.ok a j z
        · exact (h.ok a m hb).trans (h.ok m j z)
      · unfold bat at e
        rw [List.getElem?_set_self (by rw [h.len]; exact hi)] at e
        simp only [Option.getD_some] at e
        rw [List.getElem?_eq_none (by simp [li, lm]; omega)] at e
        simp at e
    · rw [off a j c] at e
      exact h.ok a j e
  · by_cases c : a = i
    · subst c
      rw [key j hj]
      have w : Wk R (m + 1) a j := by simpa [lvl] using w
      rcases w.step with z | ⟨_, z⟩
      · rw [h.cm a j ha hj (by simpa [lvl] using z)]; rfl
      · by_cases c2 : m < a
        · have z2 : Wk R (m + 1) m j := z.mono (Nat.le_succ m)
          rw [h.cm m j hm hj (by simpa [lvl, c2] using z2)]; simp
        · rw [h.cm m j hm hj (by simpa [lvl, c2] using z)]; simp
    · rw [off a j c]
      refine h.cm a j ha hj ?_
      have e : lvl m (i + 1) a = lvl m i a := by
        by_cases c2 : a < i
        · simp [lvl, c2, Nat.lt_succ_of_lt c2]
        · simp [lvl, c2, show ¬ a < i + 1 by omega]
      rw [← e]; exact w
theorem canLay_bools : ∀ l : List Bool, PyData.canLayAll0 (l.map .bool) = true
  | [] => rfl
  | x :: l => by
    show (PyData.canLay0 (.bool x) && PyData.canLayAll0 (l.map .bool)) = true
    rw [canLay_bools l]; rfl
theorem depth_bools : ∀ l : List Bool, PyData.depthAll (l.map .bool) = 0
  | [] => rfl
  | x :: l => by
    show max (PyData.depth (.bool x)) (PyData.depthAll (l.map .bool)) = 0
    rw [depth_bools l]; rfl
theorem canLay_bL : ∀ B : List (List Bool), PyData.canLayAll0 (B.map brow) = true
  | [] => rfl
  | x :: l => by
    show (PyData.canLay0 (brow x) && PyData.canLayAll0 (l.map brow)) = true
    rw [canLay_bL l, show PyData.canLay0 (brow x) = PyData.canLayAll0 (x.map .bool) from by simp [brow, PyData.canLay0], canLay_bools]; rfl
theorem depth_bL : ∀ B : List (List Bool), PyData.depthAll (B.map brow) ≤ 1
  | [] => by decide
  | x :: l => by
    show max (PyData.depth (brow x)) (PyData.depthAll (l.map brow)) ≤ 1
    have := depth_bL l
    rw [show PyData.depth (brow x) = PyData.depthAll (x.map .bool) + 1 from by simp [brow, PyData.depth], depth_bools]
    omega
theorem shaped_bL (B : List (List Bool)) : SeqAt.shaped (bL B) = true := by
  unfold SeqAt.shaped
  have := depth_bL B
  rw [show PyData.canLay0 (bL B) = PyData.canLayAll0 (B.map brow) from by simp [bL, PyData.canLay0], canLay_bL, show PyData.depth (bL B) = PyData.depthAll (B.map brow) + 1 from by simp [bL, PyData.depth]]
  simp; omega
theorem eqv_nil (ds : List D) : PyData.eqv (.list ds) (.list []) = ds.isEmpty := by
  cases ds <;> simp [PyData.eqv, PyData.eqvAll]
def hasF : D → Bool
  | .list ds => ds.any fun z => eqF z (.bool false)
  | _ => false
theorem hasF_brow (r : List Bool) : hasF (brow r) = r.any (! ·) := by
  unfold hasF brow
  simp only [List.any_map]
  congr 1
  funext b
  cases b <;> rfl
def Pre_isw (ds : List D) : Prop := ∃ n R, Sq n R ∧ 1 ≤ n ∧ n ≤ 8 ∧ ds = [tL R]
def Isw (R : List (List Int)) (n : Nat) (b : Bool) : Prop := b = true → (∀ i j, i < n → j < n → Rch R i j) ∧ ∃ i, i < n ∧ 1 < (row R i).sum
def Post_isw (ds : List D) (d : D) : Prop := ∃ n R b, Sq n R ∧ ds = [tL R] ∧ d = .bool b ∧ Isw R n b
/-- a list, or a tuple -/
def seqC (c : Bool) (ds : List D) : D := if c = true then .list ds else .tuple ds
def rX (c : Bool) (r : List Int) : D := seqC c (r.map .int)
def tX (c : Bool) (R : List (List Int)) : D := seqC c (R.map (rX c))
theorem seqC_D (c : Bool) (ds : List D) : seqD (seqC c ds) = some ds := by cases c <;> rfl
theorem seqC_W (c : Bool) (ds : List D) : walkD (seqC c ds) = some ds := by cases c <;> rfl
theorem q_sumC {X : Cx} (hc : X.calm = true) (c : Bool) {ns : List Int} : CallG X (.builtin "sum") 0 [seqC c (ns.map .int)] (.int ns.sum) := by
  cases c
  · exact q_sumT hc
  · exact q_sumL hc
theorem tX_t (R : List (List Int)) : tX false R = tb R := rfl
theorem tX_l (R : List (List Int)) : tX true R = tL R := rfl
open Classical in
noncomputable def isWR (n : Nat) (R : List (List Int)) : Bool := decide ((∀ i j, i < n → j < n → Rch R i j) ∧ ∃ i, i < n ∧ 1 < (row R i).sum)
section
variable {P : Program} {w : World} {K : Fg} {mg : Str → Option Value} {base : Heap} (G : Fre mg)
include G
def S_isw : List D → D → Prop := fun ds d => ∃ c n R, Sq n R ∧ 1 ≤ n ∧ n ≤ 8 ∧ ds = [tX c R] ∧ d = .bool (isWR n R)
end
end KX
set_option Elab.async false
set_option linter.all false
set_option maxRecDepth 100000
set_option maxHeartbeats 4000000
set_option pp.maxSteps 600
namespace KX
open PySem PySem.Spec PyProof.Rows L2 DL
theorem sumx_pos : ∀ {l : List Int}, (∀ x ∈ l, 0 ≤ x) → 0 ≤ l.sum
  | [], _ => Int.le_refl _
  | x :: l, h => by
    have := sumx_pos (l := l) fun y m => h y (List.mem_cons_of_mem _ m)
    have := h x List.mem_cons_self
    rw [List.sum_cons]; omega
theorem sumx_ge : ∀ {l : List Int} {x : Int}, (∀ x ∈ l, 0 ≤ x) → x ∈ l → x ≤ l.sum
  | y :: l, x, h, m => by
    have h2 := sumx_pos (l := l) fun y m => h y (List.mem_cons_of_mem _ m)
    have h3 := h y List.mem_cons_self
    rw [List.sum_cons]
    rcases List.mem_cons.mp m with rfl | m
    · omega
    · have := sumx_ge (fun y m => h y (List.mem_cons_of_mem _ m)) m
      omega
theorem rch_out {T : List (List Int)} {i j : Nat} (h : Rch T i j) : ∃ k, 0 < ent T i k := by
  cases h with
  | one e => exact ⟨_, e⟩
  | step e _ => exact ⟨_, e⟩
theorem isWR_web {n : Nat} {T : List (List Int)} (hT : Tbl n T) : isWR n T = isWebB (tb T) := by
  rw [Bool.eq_iff_iff]
  simp only [isWR, decide_eq_true_eq]
  constructor
  · rintro ⟨h1, i, hi, h2⟩
    exact isWeb_tb ⟨hT, h1, i, hi, by omega⟩
  · intro h
    obtain ⟨m, T', hw, e⟩ := isWeb_of h
    obtain rfl := tb_inj e
    obtain rfl : m = n := hw.tbl.len.symm.trans hT.len
    refine ⟨hw.sc, ?_⟩
    obtain ⟨i, hi, hne⟩ := hw.big
    refine ⟨i, hi, ?_⟩
    obtain ⟨k, hk⟩ := rch_out (hw.sc i i hi hi)
    have hm : ent T i k ∈ row T i := by
      unfold ent at hk ⊢
      cases q : (row T i)[k]? with
      | none => rw [q] at hk; simp at hk
      | some x => exact List.mem_of_getElem? q
    have := sumx_ge (hT.pos _ (row_mem (by rw [hT.len]; exact hi))) hm
    omega
theorem Tbl.sq {n : Nat} {T : List (List Int)} (hT : Tbl n T) : Sq n T := ⟨hT.len, hT.rows⟩
/-! ### a web is made -/
structure Gd (n : Nat) (b : Int) (R : List (List Int)) : Prop where
  sq : Sq n R
  bd : ∀ r ∈ R, ∀ x ∈ r, 0 ≤ x ∧ x ≤ b
theorem gd_ent {n : Nat} {b : Int} {R : List (List Int)} (h : Gd n b R) (hb : 0 ≤ b) (i j : Nat) : 0 ≤ ent R i j ∧ ent R i j ≤ b := by
  unfold ent row
  cases h1 : R[i]? with
  | none => simpa using hb
  | some r =>
    simp only [Option.getD_some]
    cases h2 : r[j]? with
    | none => simpa using hb
    | some x => exact h.bd r (List.mem_of_getElem? h1) x (List.mem_of_getElem? h2)
theorem gd_row {n : Nat} {b : Int} {R : List (List Int)} (h : Gd n b R) {i : Nat} (hi : i < n) : ((R[i]?).getD []).length = n := by
  have : i < R.length := by rw [h.sq.len]; exact hi
  simp only [List.getElem?_eq_getElem this, Option.getD_some]
  exact h.sq.rows _ (List.getElem_mem this)
theorem gd_set {n : Nat} {b b' : Int} {R : List (List Int)} (h : Gd n b R) (hb : b ≤ b') {i j : Nat} {v : Int} (hi : i < n) (h0 : 0 ≤ v) (h1 : v ≤ b') : Gd n b' (setE R i j v) := by
  refine ⟨⟨by rw [setE_len, h.sq.len], fun r hr => ?_⟩, fun r hr x hx => ?_⟩
  · rcases List.mem_or_eq_of_mem_set hr with z | z
    · exact h.sq.rows r z
    · subst z; simp [gd_row h hi]
  · rcases List.mem_or_eq_of_mem_set hr with z | z
    · have := h.bd r z x hx
      omega
    · subst z
      rcases List.mem_or_eq_of_mem_set hx with y | y
      · have hm : (R[i]?).getD [] ∈ R := by
          have : i < R.length := by rw [h.sq.len]; exact hi
          simp only [List.getElem?_eq_getElem this, Option.getD_some]
          exact List.getElem_mem this
        have := h.bd _ hm x y
        omega
      · omega
theorem ent_set {n : Nat} {b : Int} {R : List (List Int)} (h : Gd n b R) {i j : Nat} {v : Int} (hi : i < n) (hj : j < n) (a c : Nat) : ent (setE R i j v) a c = if a = i ∧ c = j then v else ent R a c := by
  unfold ent row setE
  by_cases h1 : a = i
  · subst h1
    rw [List.getElem?_set_self (by rw [h.sq.len]; exact hi)]
    simp only [Option.getD_some]
    by_cases h2 : c = j
    · subst h2
      rw [List.getElem?_set_self (by rw [gd_row h hi]; exact hj)]
      simp
    · rw [List.getElem?_set_ne (fun z => h2 z.symm), if_neg (fun z => h2 z.2)]
  · rw [List.getElem?_set_ne (fun z => h1 z.symm), if_neg (fun z => h1 z.1)]
def Up (R R' : List (List Int)) : Prop := ∀ i j, 0 < ent R i j → 0 < ent R' i j
theorem up_set {n : Nat} {b : Int} {R : List (List Int)} (h : Gd n b R) {i j : Nat} {v : Int} (hi : i < n) (hj : j < n) (hv : 0 < v) : Up R (setE R i j v) := fun a c e => by
  rw [ent_set h hi hj]
  split
  · exact hv
  · exact e
theorem rch_up {R R' : List (List Int)} (h : Up R R') {i j : Nat} (r : Rch R i j) : Rch R' i j := by
  induction r with
  | one e => exact .one (h _ _ e)
  | step e _ ih => exact .step (h _ _ e) ih
def og (o : List Nat) (q : Nat) : Nat := (o[q]?).getD 0
/-- what the loop has made sure of -/
structure St (w : Int) (n : Nat) (o : List Nat) (R : List (List Int)) (k : Nat) : Prop where
  ring : w < 2 → ∀ q, q < k → 0 < ent R (og o q) (og o ((q + 1) % n))
  tree : w = 2 → ∀ q, q < k → q + 1 < n → ∃ b, b ≤ q ∧ 0 < ent R (og o b) (og o (q + 1)) ∧ 0 < ent R (og o (q + 1)) (og o b)
theorem st_up {w : Int} {n : Nat} {o : List Nat} {R R' : List (List Int)} {k : Nat} (h : St w n o R k) (u : Up R R') : St w n o R' k :=
  ⟨fun hw q hq => u _ _ (h.ring hw q hq), fun hw q hq hn => by
    obtain ⟨b, h1, h2, h3⟩ := h.tree hw q hq hn
    exact ⟨b, h1, u _ _ h2, u _ _ h3⟩⟩
theorem og_all {n : Nat} {o : List Nat} (h : o.Perm (List.range n)) {i : Nat} (hi : i < n) : ∃ q, q < n ∧ og o q = i := by
  have hm : i ∈ o := h.mem_iff.mpr (by simpa using hi)
  obtain ⟨q, hq, e⟩ := List.mem_iff_getElem.mp hm
  have : o.length = n := by have := h.length_eq; simpa using this
  exact ⟨q, by omega, by simp [og, hq, e]⟩
theorem og_lt {n : Nat} {o : List Nat} (h : o.Perm (List.range n)) {q : Nat} (hq : q < n) : og o q < n := by
  have : o.length = n := by have := h.length_eq; simpa using this
  have hq' : q < o.length := by omega
  simp only [og, List.getElem?_eq_getElem hq', Option.getD_some]
  have hm := h.mem_iff.mp (List.getElem_mem hq')
  simpa using hm
theorem og_get {n : Nat} {o : List Nat} (h : o.Perm (List.range n)) {q : Nat} (hq : q < n) : (natsD o)[q]? = some (.int (og o q : Nat)) := by
  have : o.length = n := by have := h.length_eq; simpa using this
  have hq' : q < o.length := by omega
  simp [natsD, og, hq']
theorem st_conn {w : Int} {n : Nat} {o : List Nat} {R : List (List Int)} (h : St w n o R n) (ho : o.Perm (List.range n)) (hn : 1 ≤ n) (hw : w < 2 ∨ (w = 2 ∧ 2 ≤ n)) : ∀ i j, i < n → j < n → Rch R i j := by
  intro i j hi hj
  obtain ⟨p, hp, rfl⟩ := og_all ho hi
  obtain ⟨q, hq, rfl⟩ := og_all ho hj
  rcases hw with hw | ⟨hw, hn2⟩
  · have st : ∀ k, Rch R (og o p) (og o ((p + k + 1) % n)) := fun k => by
      induction k with
      | zero => exact .one (h.ring hw p hp)
      | succ k ih =>
        refine Rch.trans ih (.one ?_)
        have := h.ring hw ((p + k + 1) % n) (Nat.mod_lt _ (by omega))
        rwa [Nat.mod_add_mod] at this
    have := st (q + n - p - 1)
    rwa [show p + (q + n - p - 1) + 1 = q + n by omega, Nat.add_mod_right, Nat.mod_eq_of_lt hq] at this
  · have st : ∀ k q, q ≤ k → q < n → 0 < q → Rch R (og o 0) (og o q) ∧ Rch R (og o q) (og o 0) := fun k => by
      induction k with
      | zero => intro q h1 _ h3; omega
      | succ k ih =>
        intro q h1 h2 h3
        obtain ⟨q', rfl⟩ : ∃ q', q = q' + 1 := ⟨q - 1, by omega⟩
        obtain ⟨b, hb, e1, e2⟩ := h.tree hw q' (by omega) h2
        rcases Nat.eq_zero_or_pos b with z | z
        · subst z
          exact ⟨.one e1, .one e2⟩
        · obtain ⟨a1, a2⟩ := ih b (by omega) (by omega) z
          exact ⟨Rch.trans a1 (.one e1), Rch.trans (.one e2) a2⟩
    have s0 : Rch R (og o 0) (og o 0) := by
      obtain ⟨a, b⟩ := st 1 1 (Nat.le_refl _) (by omega) (by omega)
      exact Rch.trans a b
    have f : ∀ q, q < n → Rch R (og o 0) (og o q) ∧ Rch R (og o q) (og o 0) := fun q hq => by
      rcases Nat.eq_zero_or_pos q with z | z
      · subst z; exact ⟨s0, s0⟩
      · exact st q q (Nat.le_refl _) hq z
    exact Rch.trans (f p hp).2 (f q hq).1
theorem sum_ge {l : List Int} (h : ∀ x ∈ l, 0 ≤ x) {x : Int} (hx : x ∈ l) : x ≤ l.sum ∧ 0 ≤ l.sum := by
  induction l with
  | nil => simp at hx
  | cons a l ih =>
    have h0 : 0 ≤ l.sum := by
      clear ih hx
      induction l with
      | nil => simp
      | cons b l ih2 =>
        have h1 := h b (by simp)
        have h2 := ih2 fun x hx => h x (by
          rcases List.mem_cons.mp hx with z | z
          · simp [z]
          · simp [z])
        simp only [List.sum_cons]; omega
    have ha := h a (by simp)
    rcases List.mem_cons.mp hx with z | z
    · subst z
      simp only [List.sum_cons]; omega
    · have := ih (fun y hy => h y (List.mem_cons_of_mem _ hy)) z
      simp only [List.sum_cons]; omega
theorem web_of {n : Nat} {b : Int} {R : List (List Int)} (h : Gd n b R) (h1 : 1 ≤ n) (h8 : n ≤ 8) (sc : ∀ i j, i < n → j < n → Rch R i j) (big : ∃ i, i < n ∧ (row R i).sum ≠ 1) : Web n R :=
  ⟨⟨h.sq.len, h.sq.rows, fun r hr x hx => (h.bd r hr x hx).1, h1, h8⟩, sc, big⟩
/-- the last word: two at one place makes a web of what hangs together -/
theorem web_two {n : Nat} {b : Int} {R : List (List Int)} (h : Gd n b R) (hb : 2 ≤ b) (h1 : 1 ≤ n) (h8 : n ≤ 8) {a : Nat} (ha : a < n) (sc : n = 1 ∨ ∀ i j, i < n → j < n → Rch R i j) : Web n (setE R a a 2) := by
  have g := gd_set h (Int.le_refl b) (i := a) (j := a) (v := 2) ha (by omega) hb
  refine web_of g h1 h8 ?_ ⟨a, ha, ?_⟩
  · rcases sc with z | z
    · subst z
      intro i j hi hj
      have : a = 0 := by omega
      subst this
      have : i = 0 := by omega
      subst this
      have : j = 0 := by omega
      subst this
      refine .one ?_
      rw [ent_set h (by omega) (by omega)]
      simp
    · exact fun i j hi hj => rch_up (up_set h ha ha (by omega)) (z i j hi hj)
  · have hl : a < (setE R a a 2).length := by rw [g.sq.len]; exact ha
    have hm : row (setE R a a 2) a ∈ setE R a a 2 := row_mem hl
    have hrl := g.sq.rows _ hm
    have he := ent_set h ha ha (v := 2) a a
    rw [if_pos ⟨rfl, rfl⟩] at he
    have h2 : (2 : Int) ∈ row (setE R a a 2) a := by
      unfold ent at he
      have hlt : a < (row (setE R a a 2) a).length := by omega
      rw [List.getElem?_eq_getElem hlt] at he
      simp only [Option.getD_some] at he
      have hm2 := List.getElem_mem hlt
      rwa [he] at hm2
    have := (sum_ge (fun x hx => (g.bd _ hm x hx).1) h2).1
    omega
theorem all_of {α : Type} {f : α → D} {q : α → Prop} : ∀ {acc : List D}, (∀ d ∈ acc, ∃ r, d = f r ∧ q r) → ∃ R : List α, acc = R.map f ∧ ∀ r ∈ R, q r
  | [], _ => ⟨[], rfl, fun _ z => by simp at z⟩
  | d :: acc, h => by
    obtain ⟨r, e, hr⟩ := h d (by simp)
    obtain ⟨R, e2, hR⟩ := all_of (acc := acc) fun d hd => h d (List.mem_cons_of_mem _ hd)
    exact ⟨r :: R, by rw [e, e2]; rfl, fun x hx => by
      rcases List.mem_cons.mp hx with z | z
      · rw [z]; exact hr
      · exact hR x z⟩
def fsWeb : FS := fun Γ Q _ => ∃ v d n m, Γ = [.ow v 2 d, .pv (.int (n : Nat)), .pv (.int m)] ∧ DeckD d ∧ 1 ≤ n ∧ n ≤ 5 ∧ 1 ≤ m ∧ m ≤ 6 ∧ ∀ T d', Web n T → (∀ i j, ent T i j ≤ 7) → DeckD d' → Q (tb T) [.ow v 2 d', .no, .no]
end KX
set_option Elab.async false
set_option linter.all false
set_option maxRecDepth 100000
set_option maxHeartbeats 8000000
set_option pp.maxSteps 600
namespace KX
open PySem PySem.Spec PyProof.Rows L2 DL
theorem lrow_inj (a b : List Int) (h : lrow a = lrow b) : a = b := by
  unfold lrow at h
  exact map_inj (f := PyData.int) (fun x y z => PyData.int.inj z) (PyData.list.inj h)
section
variable {X : Cx} {R : XP} {Γ : Gam} {e : Expr} {p p0 pos : Pos} {P : D → Gam → Prop}
theorem ev_order {k j : Nat} (F : Df X.prog X.w X.K X.mg X.base k "_law_order" (top 35) ["_law_deck_here", "_law_n"] 0 fsOrder) (hr : Rm j X.A) (hk : k ≤ j) (i : Nat) {v0 : V} {d0 : D} (hd : Γ[i]? = some (.ow v0 2 d0))
    (h : EV X R e Γ fun dn Γ1 => ∃ v d n, dn = .int (n : Nat) ∧ Γ1[i]? = some (.ow v 2 d) ∧ DeckD d ∧ n < 1000 ∧ ∀ o d', o.Perm (List.range n) → DeckD d' → P (.list (natsD o)) (Γ1.set i (.ow v 2 d')))
    (hN : X.N[i]? = some "_law_deck_here" := by rfl) (hv : Vis X.env.scope "_law_deck_here" := by first | exact Or.inl rfl | exact Or.inr (Or.inl rfl) | exact Or.inr (Or.inr rfl))
    (hg : Gl X "_law_order" := by rfl) (hs1 : starEach [e] X.env = (false, eval e X.env) :: starEach [] X.env := by rfl)
    (hs : starEach [.Name "_law_deck_here" p0, e] X.env = (false, eval (.Name "_law_deck_here" p0) X.env) :: starEach [e] X.env := by rfl)
    (hpl : (backTo pos (starEach [e] X.env)).any (·.1) = false := by rfl) :
    EV X R (.Call (.Name "_law_order" p) [.Name "_law_deck_here" p0, e] [] pos) Γ P := by
  refine eg_call F hr hk (ea_slot i hd (ea_cons (h.imp fun dn Γ1 ⟨v, d, n, e1, e2, e3, e4, q⟩ => ea_nil ?_) hs1) hN hv (by decide) (by decide) hs) hg (by decide) hs hpl
  subst e1
  refine ⟨rfl, [.ow v 2 d, .pv (.int (n : Nat))], resA_sl (ds := [.int (n : Nat)]) e2, v, d, n, rfl, e3, e4, fun o d' h1 h3 => ?_⟩
  show P _ (updA Γ1 [.sl i, .pv (.int (n : Nat))] [.ow v 2 d', .no])
  rw [show updA Γ1 [.sl i, .pv (.int (n : Nat))] [.ow v 2 d', .no] = Γ1.set i (.ow v 2 d') from updA_sl (ds := [.int (n : Nat)])]
  exact q o d' h1 h3
end
end KX
set_option Elab.async false
set_option linter.all false
set_option maxRecDepth 100000
set_option maxHeartbeats 8000000
set_option pp.maxSteps 600
namespace KX
open PySem PySem.Spec PyProof.Rows L2 DL
/-! ### a web by a ring and arrows more -/
theorem pick_nat {l : List D} {x : D} {a b : Nat} (h : (l.all fun d => match d with | .int i => decide ((a : Int) ≤ i ∧ i ≤ (b : Int)) | _ => false) = true) (m : x ∈ l) : ∃ y : Nat, a ≤ y ∧ y ≤ b ∧ x = .int (y : Nat) := by
  have := List.all_eq_true.mp h x m
  cases x with
  | int i =>
    have := of_decide_eq_true this
    exact ⟨i.toNat, by omega, by omega, by rw [Int.toNat_of_nonneg (by omega)]⟩
  | _ => cases this
def prv (n q : Nat) : Nat := if q = 0 then n - 1 else q - 1
theorem prv_lt {n q : Nat} (h : q < n) : prv n q < n := by unfold prv; split <;> omega
theorem at_prv {n : Nat} {o : List Nat} (h : o.Perm (List.range n)) {q : Nat} (hq : q < n) : L2.atI (natsD o) ((q : Int) - 1) = some (.int (og o (prv n q) : Nat)) := by
  have hl : (natsD o).length = n := by have := h.length_eq; simp [natsD]; simpa using this
  have e : ixN (natsD o).length ((q : Int) - 1) = some (prv n q) := by
    rw [hl]
    unfold ixN prv
    by_cases c : q = 0
    · subst c
      rw [if_neg (by omega), if_pos (by omega), if_pos rfl]
      congr 1
      omega
    · rw [if_pos (by omega), if_pos (by omega), if_neg c]
      congr 1
      omega
  unfold L2.atI
  rw [e]
  exact og_get h (prv_lt hq)
theorem ring_conn {n : Nat} {o : List Nat} {R : List (List Int)} (h : ∀ q, q < n → 0 < ent R (og o q) (og o (prv n q))) (ho : o.Perm (List.range n)) : ∀ i j, i < n → j < n → Rch R i j := by
  intro i j hi hj
  obtain ⟨p, hp, rfl⟩ := og_all ho hi
  obtain ⟨q, hq, rfl⟩ := og_all ho hj
  -- k + 1 steps back from p
  have st : ∀ k, Rch R (og o p) (og o ((p + n * (k + 1) - (k + 1)) % n)) := fun k => by
    have hn : 1 ≤ n := by omega
    have back : ∀ a, 1 ≤ a → prv n (a % n) = (a + n - 1) % n := fun a ha => by
      have h1 := Nat.div_add_mod a n
      have h2 := Nat.mod_lt a hn
      have h3 : n * (a / n + 1) = n * (a / n) + n := Nat.mul_succ _ _
      unfold prv
      by_cases z : a % n = 0
      · rw [if_pos z]
        have e : a + n - 1 = (n - 1) + n * (a / n) := by omega
        rw [e, Nat.add_mul_mod_self_left, Nat.mod_eq_of_lt (by omega)]
      · rw [if_neg z]
        have e : a + n - 1 = (a % n - 1) + n * (a / n + 1) := by omega
        rw [e, Nat.add_mul_mod_self_left]
        exact (Nat.mod_eq_of_lt (by omega)).symm
    induction k with
    | zero =>
      refine .one ?_
      have := h p hp
      rw [show (p + n * (0 + 1) - (0 + 1)) % n = prv n p from ?_]
      · exact this
      · unfold prv
        split
        · rename_i z
          rw [z, show 0 + n * (0 + 1) - (0 + 1) = n - 1 by omega, Nat.mod_eq_of_lt (by omega)]
        · rw [show p + n * (0 + 1) - (0 + 1) = (p - 1) + n by omega, Nat.add_mod_right, Nat.mod_eq_of_lt (by omega)]
    | succ k ih =>
      refine Rch.snoc ih ?_
      have e := h ((p + n * (k + 1) - (k + 1)) % n) (Nat.mod_lt _ hn)
      have h3 : k + 1 ≤ n * (k + 1) := Nat.le_mul_of_pos_left _ hn
      by_cases z : p + n * (k + 1) - (k + 1) = 0
      · rw [z] at e ⊢
        have hp0 : p = 0 := by omega
        have hn1 : n * (k + 1) = k + 1 := by omega
        have hn2 : n = 1 := by
          rcases Nat.lt_or_ge 1 n with c | c
          · have := Nat.mul_le_mul_right (k + 1) c
            omega
          · omega
        subst hn2
        subst hp0
        rw [Nat.mod_one] at e ⊢
        rw [Nat.mod_one]
        exact e
      · rw [back _ (by omega)] at e
        rwa [show p + n * (k + 1) - (k + 1) + n - 1 = p + n * (k + 1 + 1) - (k + 1 + 1) by rw [Nat.mul_add n (k + 1) 1]; omega] at e
  have hn : 1 ≤ n := by omega
  have := st (p + n - q - 1)
  rwa [show p + n * (p + n - q - 1 + 1) - (p + n - q - 1 + 1) = q + n * (p + n - q - 1) from ?_, Nat.add_mul_mod_self_left, Nat.mod_eq_of_lt hq] at this
  rw [Nat.mul_add]; omega
theorem sum_set : ∀ {l : List Int} {j : Nat} {v : Int}, j < l.length → (l.set j v).sum = l.sum - (l[j]?).getD 0 + v
  | a :: l, 0, v, h => by simp; omega
  | a :: l, j + 1, v, h => by
    have := sum_set (l := l) (j := j) (v := v) (by simpa using h)
    simp only [List.set_cons_succ, List.sum_cons, List.getElem?_cons_succ, this]; omega
theorem row_setE {n : Nat} {b : Int} {R : List (List Int)} (h : Gd n b R) {i j : Nat} {v : Int} (hi : i < n) : row (setE R i j v) i = (row R i).set j v := by
  unfold row setE
  rw [List.getElem?_set_self (by rw [h.sq.len]; exact hi)]
  rfl
theorem more_set {n : Nat} {R : List (List Int)} (g : Gd n 6 R) (sc : ∀ i j, i < n → j < n → Rch R i j) {i j : Nat} (hi : i < n) (hj : j < n) {v : Int} (hv : (ent R i j < 6 → ent R i j + 1 ≤ v) ∧ ent R i j ≤ v) : 1 < (row (setE R i j v) i).sum := by
  have hrl : (row R i).length = n := g.sq.rows _ (row_mem (by rw [g.sq.len]; exact hi))
  have hpos : ∀ x ∈ row R i, 0 ≤ x := fun x hx => (g.bd _ (row_mem (by rw [g.sq.len]; exact hi)) x hx).1
  rw [row_setE g hi, sum_set (by omega)]
  have e : ((row R i)[j]?).getD 0 = ent R i j := rfl
  rw [e]
  have mem : ∀ k, 0 < ent R i k → ent R i k ≤ (row R i).sum := fun k hk => by
    refine sumx_ge hpos ?_
    unfold ent at hk ⊢
    cases q : (row R i)[k]? with
    | none => rw [q] at hk; simp at hk
    | some x => exact List.mem_of_getElem? q
  obtain ⟨k, hk⟩ := rch_out (sc i i hi hi)
  have h1 := mem k hk
  have h2 := gd_ent g (by omega) i j
  by_cases c : ent R i j < 6
  · have := hv.1 c
    omega
  · have := mem j (by omega)
    have := hv.2
    omega
def fsWebM : FS := fun Γ Q _ => ∃ v d m, Γ = [.ow v 2 d, .pv (.int (m : Nat))] ∧ DeckD d ∧ 1 ≤ m ∧ m ≤ 8 ∧ ∀ n T d', n ≤ m → n ≤ 5 → Web n T → (∀ i j, ent T i j ≤ 6) → DeckD d' → Q (tb T) [.ow v 2 d', .no]
section
variable {P : Program} {w : World} {K : Fg} {mg : Str → Option Value} {base : Heap} (G : Fre mg)
include G
abbrev n_law_web : List Str := ["_law_deck_here", "_law_most", "_law_n", "_law_table_here", "_law_order_here", "_law_i", "_law_at", "_law_turn", "_law_j", "_law_row"]
omit G in
theorem nd_law_web : n_law_web.Nodup := by decide
theorem b_webm (F1 : Df P w K mg base 1 "_law_draw" (top 33) ["_law_deck_here", "_law_many"] 0 fsDraw) (F2 : Df P w K mg base 2 "_law_pick" (top 34) ["_law_deck_here", "_law_some"] 0 fsPick) (F3 : Df P w K mg base 2 "_law_order" (top 35) ["_law_deck_here", "_law_n"] 0 fsOrder)
    {k : Nat} (hk : 2 ≤ k) {Γ : Gam} {Q : D → Gam → Prop} {R : XP} (S : fsWebM Γ Q R) : BodyF P w K mg base k n_law_web ["_law_deck_here", "_law_most"] (top 36) 0 Γ Q R := by
  obtain ⟨v, d, m, rfl, hdk, hm1, hm8, q⟩ := S
  have ixok : ∀ {m a : Nat}, a < m → ixN m ((a : Nat) : Int) = some a := fun {m a} h => by simp [ixN, h]
  intro qual f cdv A outer s H E
  conv in (occs := *) defScope _ => all_goals whnf
  conv in defBody _ => whnf
  intro hr
  have h1k : 1 ≤ k := Nat.le_trans (by decide) hk
  show SS _ _ _ _ [.ow v 2 d, .pv (.int (m : Nat)), .no, .no, .no, .no, .no, .no, .no, .no] _
  refine ss_cons (s1_set 2 (eg_callB G.min boot_min (ea_cons (ev_var 1 rfl (ea_cons (eg_deck F2 hr hk 0 rfl (ev_tups (le_ok rfl) (ev_int (ev_int (ev_int (ev_int (ev_int (ev_int (ev_int (ev_int (ev_int (ev_int ⟨rfl, _, _, _, rfl, _, _, _, _, rfl, rfl, hdk, (lt_ok rfl), (lt_ok rfl), fun ax1 dk am1 hdk => ?_⟩)))))))))) ⟨rfl, rfl, rfl, rfl, rfl, rfl, rfl, rfl, rfl, rfl, trivial⟩) ⟨rfl, rfl, trivial⟩))))) nd_law_web)
  obtain ⟨n0, hn0, hn5, rfl⟩ := pick_nat (a := 1) (b := 5) (by decide) am1
  refine ea_nil ⟨[.int (m : Nat), .int (n0 : Nat)], _, rfl, q_min2 rfl, lt_ok rfl, ?_⟩
  obtain ⟨n, en, hnm, hn1, hn5⟩ : ∃ n : Nat, (if ((n0 : Nat) : Int) < ((m : Nat) : Int) then ((n0 : Nat) : Int) else ((m : Nat) : Int)) = ((n : Nat) : Int) ∧ n ≤ m ∧ 1 ≤ n ∧ n ≤ 5 := by
    split
    · exact ⟨n0, rfl, by omega, hn0, hn5⟩
    · exact ⟨m, rfl, by omega, by omega, by omega⟩
  rw [en]
  clear en am1
  show SS _ _ _ _ [.ow v 2 _, .pv (.int (m : Nat)), .pv (.int (n : Nat)), .no, .no, .no, .no, .no, .no, .no] _
  refine ss_cons (s1_par2 3 4 2 0 rfl nd_law_web (eg_lc (n := 1) (own := [("_law_i", 5)]) rfl nd_law_web (ei_range1 G.range (ev_var 2 rfl ⟨(n : Nat), rfl, by omega, by omega, ?_⟩)) (blkOk_by (by rfl))))
  refine lci_map (Γw := [.ow v 2 _, .pv (.int (m : Nat)), .pv (.int (n : Nat)), .no, .no, .no, .no, .no, .no, .no]) (fun q _ => lrow (List.replicate n 0)) (by rw [rngD_len]; omega) rfl rfl ?_ fun q d hd s H C cl fp => gt_name 5 nd_law_web (lt_ok rfl) fun s H C cl fp => ?_
  rotate_left
  · refine eg_bin (eg_freeze (n := 1) (eg_lsts (le_ok rfl) (ev_int ?_) ⟨rfl, trivial⟩))
    refine ev_var 2 rfl ⟨_, b_rep (by omega) (by omega) (by decide), ?_, rfl⟩
    simp [lrow]
  rw [show (rngD 0 ((n : Nat) : Int)).mapIdx (fun q _ => lrow (List.replicate n 0)) = (List.replicate n (List.replicate n 0)).map lrow from ?_]
  rotate_left
  · apply List.ext_getElem
    · simp [rngD_len]
    · intro i h1 h2
      simp
  refine ev_order F3 hr hk 0 rfl (ev_var 2 rfl ⟨v, _, n, rfl, rfl, hdk, by omega, fun o d4 ho hdk => ⟨lt_ok rfl, lt_ok rfl, fun v3 v4 => ?_⟩⟩)
  have olen : o.length = n := by have := ho.length_eq; simpa using this
  have gget : ∀ {b : Int} {R : List (List Int)} {a c : Nat}, Gd n b R → a < n → c < n → (((R[a]?).getD []).map PyData.int)[c]? = some (.int (ent R a c)) := fun {b R a c} g ha hc => by
    have h1 := gd_row g ha
    unfold ent row
    rw [List.getElem?_map, List.getElem?_eq_getElem (by omega : c < ((R[a]?).getD []).length)]
    rfl
  have rlt : ∀ {b : Int} {R : List (List Int)} {a : Nat}, Gd n b R → a < n → a < R.length := fun {b R a} g ha => by rw [g.sq.len]; exact ha
  let G1 : D → V → List (List Int) → SV → SV → SV → SV → Gam := fun d v3 R s5 s6 s7 s8 => [.ow v 2 d, .pv (.int (m : Nat)), .pv (.int (n : Nat)), .ow v3 2 (tL R), .pv (.list (natsD o)), s5, s6, s7, s8, .no]
  have g0 : Gd n 6 (List.replicate n (List.replicate n 0)) := ⟨⟨by simp, fun r hr => by rw [(List.mem_replicate.mp hr).2]; simp⟩, fun r hr x hx => by
    rw [(List.mem_replicate.mp hr).2] at hx
    rw [(List.mem_replicate.mp hx).2]
    omega⟩
  show SS _ _ _ _ (G1 d4 v3 (List.replicate n (List.replicate n 0)) .no .no .no .no) _
  refine ss_cons (s1_for (ix := [6, 5]) (passes_of rfl) rfl (ei_enum G.enum (ev_var 4 rfl ⟨natsD o, rfl, ?_⟩)))
  refine ⟨fun k Γ => ∃ R v3 s5 s6, Gd n 6 R ∧ (∀ q, q < k → 0 < ent R (og o q) (og o (prv n q))) ∧ Γ = G1 d4 v3 R s5 s6 .no .no, ⟨_, v3, .no, .no, g0, fun q hq => absurd hq (by omega), rfl⟩, ?_, ?_⟩
  · rintro i dd Γ hdd ⟨R, v3, s5, s6, g, ring, rfl⟩
    have hi : i < n := by
      have := (List.getElem?_eq_some_iff.mp hdd).1
      rw [enumD_len] at this
      simpa [natsD, olen] using this
    rw [enumD_get (og_get ho hi)] at hdd
    cases hdd
    refine gt_tup rfl (gts_cons (gt_name 6 nd_law_web (lt_ok rfl) (gts_cons (gt_name 5 nd_law_web (lt_ok rfl) (gts_nil ?_)))))
    have ha := og_lt ho hi
    have hb := og_lt ho (prv_lt hi)
    refine ss_one (s1_store (ev_int (epl_idx (epl_name 3 rfl ⟨1, R.map lrow, rfl, rfl, ev_var 5 rfl ⟨_, og o i, lrow (R[og o i]?.getD []), rfl, by rw [List.length_map]; exact ixok (rlt g ha), tL_at (rlt g ha), 0, (R[og o i]?.getD []).map .int, rfl, rfl, ?_⟩⟩))))
    refine ev_sub (ev_var 4 rfl (eg_bin (ev_var 6 rfl (ev_int ⟨_, b_sub, _, sub_lst (at_prv ho hi), _, og o (prv n i), rfl, by rw [List.length_map]; exact ixok (by rw [gd_row g ha]; exact hb), .inl rfl, ?_⟩))))
    dsimp only
    rw [tL_set (rlt g ha)]
    refine ⟨setE R (og o i) (og o (prv n i)) 1, v3, _, _, gd_set g (Int.le_refl _) ha (by omega) (by omega), fun q hq => ?_, rfl⟩
    rcases Nat.lt_or_ge q i with z | z
    · exact up_set g ha hb (v := 1) (by omega) _ _ (ring q z)
    · have : q = i := by omega
      subst this
      rw [ent_set g ha hb, if_pos ⟨rfl, rfl⟩]; omega
  rintro Γ ⟨R, v3, s5, s6, g, ring, rfl⟩
  rw [show (enumD (natsD o)).length = n by rw [enumD_len]; simp [natsD, olen]] at ring
  have conn := ring_conn ring ho
  clear ring
  refine ss_cons (s1_for (ix := [7]) (passes_of rfl) rfl (ei_range1 G.range (eg_deck F2 hr hk 0 rfl (ev_tups (le_ok rfl) (ev_int (ev_int (ev_int (ev_int (ev_int (ev_int (ev_int (ev_int (ev_int (ev_int ⟨rfl, _, _, _, rfl, _, _, _, _, rfl, rfl, hdk, (lt_ok rfl), (lt_ok rfl), fun ax1 dk am1 hdk => ?_⟩)))))))))) ⟨rfl, rfl, rfl, rfl, rfl, rfl, rfl, rfl, rfl, rfl, trivial⟩) ⟨rfl, rfl, trivial⟩)))
  obtain ⟨c, hc0, hc9, rfl⟩ := pick_nat (a := 1) (b := 9) (by decide) am1
  clear am1
  refine ⟨(c : Nat), rfl, by omega, by omega, ?_⟩
  refine ⟨fun k Γ => ∃ R d v3 s5 s7 s8, Gd n 6 R ∧ DeckD d ∧ (∀ i j, i < n → j < n → Rch R i j) ∧ (0 < k → ∃ i, i < n ∧ 1 < (row R i).sum) ∧ Γ = G1 d v3 R s5 s6 s7 s8, ⟨R, _, v3, s5, .no, .no, g, hdk, conn, fun z => absurd z (by omega), rfl⟩, ?_, ?_⟩
  · clear g conn
    rintro i dd Γ hdd ⟨R, d, v3, s5, s7, s8, g, hdk, conn, _, rfl⟩
    obtain ⟨hi, rfl⟩ := rng_get hdd
    refine gt_name 7 nd_law_web (lt_ok rfl) ?_
    refine ss_cons (s1_par2 5 8 0 0 rfl nd_law_web (ev_draw F1 hr h1k 0 rfl (ev_var 2 rfl ⟨v, d, (n : Nat), rfl, rfl, hdk, by omega, by omega, fun a d1 a0 a1 hdk => ?_⟩)))
    refine ev_draw F1 hr h1k 0 rfl (ev_var 2 rfl ⟨v, d1, (n : Nat), rfl, rfl, hdk, by omega, by omega, fun b d2 b0 b1 hdk => ⟨lt_ok rfl, lt_ok rfl, fun _ _ => ?_⟩⟩)
    obtain ⟨a, rfl⟩ := Int.eq_ofNat_of_zero_le a0
    obtain ⟨b, rfl⟩ := Int.eq_ofNat_of_zero_le b0
    have ha : a < n := by omega
    have hb : b < n := by omega
    show SS _ _ _ _ (G1 d2 v3 R (.pv (.int (a : Nat))) s6 (.pv (.int (i : Nat))) (.pv (.int (b : Nat)))) _
    refine ss_one (s1_store (eg_callB G.min boot_min (ea_cons (ev_int (ea_cons (eg_bin (ev_lock (ev_sub (ev_sub (ev_var 3 rfl (ev_var 5 rfl ⟨_, sub_lst (at_nat (tL_at (rlt g ha))), ev_var 8 rfl ⟨_, sub_lst (at_nat (gget g ha hb)), rfl, ?_⟩⟩)))))))))))
    refine (eg_deck F2 hr hk 0 rfl (ev_tups (le_ok rfl) (ev_int (ev_int (ev_int (ev_int (ev_int (ev_int ⟨rfl, _, _, _, rfl, _, _, _, _, rfl, rfl, hdk, (lt_ok rfl), (lt_ok rfl), fun ex1 dk em1 hdk => ?_⟩)))))) ⟨rfl, rfl, rfl, rfl, rfl, rfl, trivial⟩) ⟨rfl, rfl, trivial⟩)
    obtain ⟨p, hp0, hp9, rfl⟩ := pick_nat (a := 1) (b := 6) (by decide) em1
    clear em1
    refine ⟨_, b_add, ea_nil ⟨[.int 6, .int (ent R a b + (p : Nat))], _, rfl, q_min2 rfl, ?_⟩⟩
    have ge := gd_ent g (by omega) a b
    have mb : 1 ≤ (if ent R a b + ((p : Nat) : Int) < 6 then ent R a b + ((p : Nat) : Int) else 6) ∧ (if ent R a b + ((p : Nat) : Int) < 6 then ent R a b + ((p : Nat) : Int) else 6) ≤ 6 ∧ (ent R a b < 6 → ent R a b + 1 ≤ (if ent R a b + ((p : Nat) : Int) < 6 then ent R a b + ((p : Nat) : Int) else 6)) ∧ ent R a b ≤ (if ent R a b + ((p : Nat) : Int) < 6 then ent R a b + ((p : Nat) : Int) else 6) := by
      split <;> omega
    generalize (if ent R a b + ((p : Nat) : Int) < 6 then ent R a b + ((p : Nat) : Int) else 6) = mx at mb
    refine epl_idx (epl_name 3 rfl ⟨1, R.map lrow, rfl, rfl, ev_var 5 rfl ⟨_, a, lrow (R[a]?.getD []), rfl, by rw [List.length_map]; exact ixok (rlt g ha), tL_at (rlt g ha), 0, (R[a]?.getD []).map .int, rfl, rfl, ev_var 8 rfl ⟨_, b, rfl, by rw [List.length_map]; exact ixok (by rw [gd_row g ha]; exact hb), .inl rfl, ?_⟩⟩⟩)
    dsimp only
    rw [tL_set (rlt g ha)]
    have u := up_set g ha hb (v := mx) (by omega)
    exact ⟨setE R a b mx, _, v3, _, _, _, gd_set g (Int.le_refl _) ha (by omega) mb.2.1, hdk, fun i j hi hj => rch_up u (conn i j hi hj), fun _ => ⟨a, ha, more_set g conn ha hb mb.2.2⟩, rfl⟩
  clear g conn
  rintro Γ ⟨R, d, v3, s5, s7, s8, g, hdk, conn, big, rfl⟩
  obtain ⟨i, hi, hb⟩ := big (by rw [rngD_len]; omega)
  have hW : Web n R := web_of g hn1 (by omega) conn ⟨i, hi, by omega⟩
  refine ss_one (s1_ret (eg_callTy G.tuple boot_tuple (ea_cons (eg_freeze (n := 1) (eg_lc (n := 0) (own := [("_law_row", 9)]) rfl nd_law_web (ei_seq (ev_varZ 3 rfl ⟨R.map lrow, rfl, ?_⟩)) (blkOk_by (by rfl)))))))
  refine lci_mapR (Γw := [.ow v 2 d, .pv (.int (m : Nat)), .pv (.int (n : Nat)), .pv (tL R), .pv (.list (natsD o)), s5, s6, s7, s8, .no]) (fun q _ => (fun r => rowD r) (R[q]?.getD [])) (by simp [g.sq.len]; omega) rfl (ea_nil ⟨[.list (R.map rowD)], _, ?_, q_tuple rfl, le_ok rfl, ?_⟩) fun q d hd s H C cl fp => gt_name 9 nd_law_web (lt_ok rfl) fun s H C cl fp => ?_
  · rw [mapIdx_at R lrow (fun r => rowD r) []]
    rfl
  · show Q _ (sh (.ow v 2 _ :: [.pv (.int (m : Nat))]) (.ow v 2 d :: _))
    rw [sh_ow]
    exact q n R d hnm hn5 hW (fun i j => (gd_ent g (by omega) i j).2) hdk
  · obtain ⟨r, hr1, rfl⟩ : ∃ r, R[q]? = some r ∧ lrow r = d := by simpa using hd
    refine eg_callTy G.tuple boot_tuple (ea_cons (ev_var 9 rfl (ea_nil ⟨[lrow r], _, rfl, q_tuple (ds := r.map .int) rfl, ?_, rfl⟩)))
    simp [hr1, rowD]
end
end KX
set_option Elab.async false
set_option linter.all false
set_option maxRecDepth 100000
set_option maxHeartbeats 4000000
set_option pp.maxSteps 600
namespace KX
open PySem PySem.Spec PyProof.Rows L2 DL
def Pre_deck (ds : List D) : Prop := ∃ ns : List Int, ns.length ≤ 63 ∧ ds = [.list (ns.map .int)]
def Post_deck (_ : List D) (d : D) : Prop := DeckD d
theorem cut_ints (ns : List Int) (lo hi : Option Int) : ∃ ms : List Int, ms.length ≤ ns.length ∧ DL.cutD (ns.map PyData.int) lo hi = ms.map .int := by
  unfold DL.cutD
  refine ⟨(ns.drop (HT.sIx (ns.map PyData.int).length 0 lo)).take (HT.sIx (ns.map PyData.int).length (ns.map PyData.int).length hi - HT.sIx (ns.map PyData.int).length 0 lo), ?_, ?_⟩
  · simp; omega
  · rw [List.map_take, List.map_drop]
section
variable {P : Program} {w : World} {K : Fg} {mg : Str → Option Value} {base : Heap} (G : Fre mg)
include G
abbrev n_law_deck : List Str := ["_law_script", "_law_mixed", "_law_cell"]
omit G in
theorem nd_law_deck : n_law_deck.Nodup := by decide
theorem b_deck {k : Nat} {ds : List D} (S : Pre_deck ds) : BodyP P w K mg base k n_law_deck ["_law_script"] (top 32) 2 ds (fun d' => Post_deck ds d') (fun _ _ => False) := by
  obtain ⟨ns, hn, rfl⟩ := S
  obtain ⟨ms, hm, ec⟩ := cut_ints ns none (some 63)
  intro qual f cdv A outer s H E
  conv in (occs := *) defScope _ => all_goals whnf
  conv in defBody _ => whnf
  intro hr
  show SS _ _ _ _ [.pv (.list (ns.map .int)), .no, .no] _
  refine ss_cons (s1_set 1 (ev_int ⟨lt_ok rfl, ?_⟩) nd_law_deck)
  refine ss_cons (s1_for (ix := [2]) (passes_of rfl) rfl (ei_seq (eg_freeze (n := 1) (eg_sliceL (lo := none) (hi := some _) (ev_var 0 rfl ?_)))))
  refine ev_int (i := 63) ⟨63, rfl, ns.map .int, rfl, _, rfl, ?_⟩
  rw [ec]
  refine ⟨fun _ Γ => ∃ x s2, Γ = [.pv (.list (ns.map .int)), .pv (.int x), s2], ⟨_, .no, rfl⟩, ?_, ?_⟩
  · rintro i d Γ hd ⟨x, s2, rfl⟩
    obtain ⟨c, hc, rfl⟩ : ∃ c, ms[i]? = some c ∧ PyData.int c = d := by simpa using hd
    refine gt_name 2 nd_law_deck (lt_ok rfl) ?_
    refine ss_one (s1_set 1 (eg_bin (eg_callTy G.int boot_int (ea_cons (eg_bin (eg_bin (eg_bin (ev_var 1 rfl (ev_int ⟨_, b_mul (.inr (by decide)), ?_⟩)))))))) nd_law_deck)
    refine eg_bin (eg_callTy G.int boot_int (ea_cons (ev_var 2 rfl (ea_nil ⟨[.int c], _, rfl, q_int, ev_int ⟨_, b_mod (by decide), _, b_add, ?_⟩⟩))))
    exact ev_int ⟨_, b_add, ea_nil ⟨[_], _, rfl, q_int, ev_int ⟨_, b_mod (by decide), lt_ok rfl, _, _, rfl⟩⟩⟩
  · rintro Γ ⟨x, s2, rfl⟩
    refine ss_one (s1_ret (eg_disp (n := 1) (xs := ["left", "mixed", "draws"]) (.cons (.cons (.cons .nil))) ?_))
    refine eg_rev (eg_freeze (n := 1) (eg_callTy G.list boot_list (ea_cons (eg_freeze (n := 1) (eg_sliceL (lo := none) (hi := some _) (ev_var 0 rfl ?_))))))
    refine ev_int (i := 63) ⟨63, rfl, ns.map .int, rfl, ?_⟩
    rw [ec]
    refine ea_nil ⟨[.list (ms.map .int)], _, rfl, q_list (ds := ms.map .int) rfl, ms.map .int, rfl, eg_lift (ev_var 1 rfl ⟨trivial, eg_lift (ev_int ⟨trivial, ?_, lt_ok rfl, lt_ok rfl, ?_⟩)⟩)⟩
    · show (["left", "mixed", "draws"] : List Str).Nodup
      decide
    · refine ⟨ms.reverse, x, 0, by simp; omega, ?_⟩
      simp [deck]
end
end KX
set_option Elab.async false
set_option linter.all false
set_option maxRecDepth 100000
set_option maxHeartbeats 4000000
set_option pp.maxSteps 600
namespace KX
open PySem PySem.Spec PyProof.Rows L2 DL
/-! ### values of any kind, with bounds -/
def leafV (m : Nat) : D → Bool
  | .none => true
  | .bool _ => true
  | .int i => decide (i.natAbs ≤ 2 ^ 1000 + m)
  | .str x => decide ((reprText x).length ≤ 16777216)
  | .dict kvs => isHsK kvs
  | _ => false
/-- lists of at most m things, at most k deep -/
def okV (m : Nat) : Nat → D → Bool
  | k + 1, .list ds => decide (ds.length ≤ m) && ds.all (okV m k)
  | k + 1, .tuple ds => decide (ds.length ≤ m) && ds.all (okV m k)
  | k + 1, .dict kvs => isHsK kvs || decide (kvs.length ≤ m) && kvs.all fun p => keyOk p.1 && okV m k p.2
  | _, d => leafV m d
theorem leafV_mono {m m' : Nat} (h : m ≤ m') {d : D} (e : leafV m d = true) : leafV m' d = true := by
  cases d <;> first | exact e | (simp only [leafV, decide_eq_true_eq] at e ⊢; omega)
theorem okV_leaf {m k : Nat} {d : D} (e : leafV m d = true) : okV m k d = true := by
  cases k with
  | zero => cases d <;> exact e
  | succ k => cases d <;> first | exact e | (cases e; done) | (simp only [okV, Bool.or_eq_true]; exact .inl e)
theorem okV_mono {m m' : Nat} (h : m ≤ m') : ∀ {k k' : Nat} {d : D}, k ≤ k' → okV m k d = true → okV m' k' d = true
  | 0, k', d, _, e => okV_leaf (leafV_mono h (by cases d <;> exact e))
  | k + 1, 0, d, l, _ => absurd l (by omega)
  | k + 1, k' + 1, d, l, e => by
    have ih : ∀ {d : D}, okV m k d = true → okV m' k' d = true := fun e => okV_mono h (by omega) e
    cases d with
    | list ds => simp only [okV, Bool.and_eq_true, decide_eq_true_eq, List.all_eq_true] at e ⊢; exact ⟨by omega, fun x q => ih (e.2 x q)⟩
    | tuple ds => simp only [okV, Bool.and_eq_true, decide_eq_true_eq, List.all_eq_true] at e ⊢; exact ⟨by omega, fun x q => ih (e.2 x q)⟩
    | dict kvs =>
      simp only [okV, Bool.or_eq_true, Bool.and_eq_true, decide_eq_true_eq, List.all_eq_true] at e ⊢
      exact e.imp id fun e => ⟨by omega, fun x q => ⟨(e.2 x q).1, ih (e.2 x q).2⟩⟩
    | _ => exact leafV_mono h e
theorem okV_tup {m k : Nat} {ds : List D} (e : okV m k (.tuple ds) = true) : ∃ j, k = j + 1 ∧ ds.length ≤ m ∧ ∀ d ∈ ds, okV m j d = true := by
  cases k with
  | zero => cases e
  | succ k => simp only [okV, Bool.and_eq_true, decide_eq_true_eq, List.all_eq_true] at e; exact ⟨k, rfl, e⟩
theorem okV_lst {m k : Nat} {ds : List D} (e : okV m k (.list ds) = true) : ∃ j, k = j + 1 ∧ ds.length ≤ m ∧ ∀ d ∈ ds, okV m j d = true := by
  cases k with
  | zero => cases e
  | succ k => simp only [okV, Bool.and_eq_true, decide_eq_true_eq, List.all_eq_true] at e; exact ⟨k, rfl, e⟩
theorem tup_okV {m k : Nat} {ds : List D} (h : ds.length ≤ m) (h2 : ∀ d ∈ ds, okV m k d = true) : okV m (k + 1) (.tuple ds) = true := by
  simp only [okV, Bool.and_eq_true, decide_eq_true_eq, List.all_eq_true]; exact ⟨h, h2⟩
theorem lst_okV {m k : Nat} {ds : List D} (h : ds.length ≤ m) (h2 : ∀ d ∈ ds, okV m k d = true) : okV m (k + 1) (.list ds) = true := by
  simp only [okV, Bool.and_eq_true, decide_eq_true_eq, List.all_eq_true]; exact ⟨h, h2⟩
theorem leafV_ok {m : Nat} {d : D} (e : leafV m d = true) : okD d = true := by
  cases d <;> first | rfl | (cases e; done) | (simp only [okD, Bool.or_eq_true]; exact .inl e)
theorem okV_ok {m : Nat} (h : m ≤ 10000) : ∀ {k : Nat} {d : D}, okV m k d = true → okD d = true
  | 0, d, e => leafV_ok (m := m) (by cases d <;> exact e)
  | k + 1, d, e => by
    have ih : ∀ {d : D}, okV m k d = true → okD d = true := fun e => okV_ok h e
    cases d with
    | list ds => simp only [okV, Bool.and_eq_true, decide_eq_true_eq, List.all_eq_true] at e; exact okD_lst (by omega) fun x q => ih (e.2 x q)
    | tuple ds => simp only [okV, Bool.and_eq_true, decide_eq_true_eq, List.all_eq_true] at e; exact okD_tup (by omega) fun x q => ih (e.2 x q)
    | dict kvs =>
      simp only [okV, Bool.or_eq_true, Bool.and_eq_true, decide_eq_true_eq, List.all_eq_true] at e
      simp only [okD, Bool.or_eq_true, Bool.and_eq_true, decide_eq_true_eq, okKV_iff]
      exact e.imp id fun e => ⟨by omega, fun x q => ⟨(e.2 x q).1, ih (e.2 x q).2⟩⟩
    | _ => rfl
theorem cut_mem {ds : List D} {lo hi : Option Int} {d : D} (m : d ∈ DL.cutD ds lo hi) : d ∈ ds := List.mem_of_mem_drop (List.mem_of_mem_take m)
theorem cut_len {ds : List D} {lo hi : Option Int} : (DL.cutD ds lo hi).length ≤ ds.length := by unfold DL.cutD; simp; omega
end KX
set_option Elab.async false
set_option linter.all false
set_option maxRecDepth 100000
set_option maxHeartbeats 8000000
set_option pp.maxSteps 600
namespace KX
open PySem PySem.Spec PyProof.Rows L2 DL
theorem vw_int {N k : Nat} {i : Int} (h : i.natAbs ≤ 10 ^ 42) (hN : 1000 ≤ N) : Vw N k (.int i) :=
  ⟨decide_eq_true (Nat.lt_of_le_of_lt h (by decide)), Nat.zero_le _, by simpa [wt] using hN⟩
theorem text_small (s : String) : ∀ c ∈ (Str.ofString s).cps.toList, c < 16 ^ 8 := fun c m => by
  rw [Str.ofString_eq_byList] at m
  unfold Str.ofStringByList at m
  obtain ⟨ch, _, rfl⟩ : ∃ ch, ch ∈ s.toList ∧ ch.toNat = c := by simpa using m
  exact ch.val.toNat_lt
theorem vw_strI {N k : Nat} {i : Int} (h : i.natAbs ≤ 10 ^ 42) (hN : 1000 ≤ N) : Vw N k (.str (Str.ofString (toString i))) := by
  refine ⟨decide_eq_true ?_, Nat.zero_le _, by simpa [wt] using hN⟩
  have h1 := StrLaws.reprText_len (Str.ofString (toString i)) (text_small _)
  have h2 := int_text_length_le10 (a := i) (k := 45) (by decide) (Nat.lt_of_le_of_lt h (by decide))
  rw [PySem.ofString_length] at h1
  omega
theorem log_small {i : Int} (h : i.natAbs ≤ 10 ^ 42) : i.natAbs.log2 < 1920 := by
  rcases Nat.eq_zero_or_pos i.natAbs with z | z
  · rw [z]; decide
  · exact Nat.lt_trans ((Nat.log2_lt (by omega)).mpr (Nat.lt_of_le_of_lt h (by decide : 10 ^ 42 < 2 ^ 150))) (by decide)
theorem rep_mem {α : Type} {n : Nat} {l : List α} {x : α} (h : x ∈ (List.replicate n l).flatten) : x ∈ l := by
  obtain ⟨l', h1, h2⟩ := List.mem_flatten.mp h
  rwa [(List.mem_replicate.mp h1).2] at h2
theorem cut_sub {ds : List D} {lo hi : Option Int} : (DL.cutD ds lo hi).Sublist ds := by
  unfold DL.cutD
  exact (List.take_sublist _ _).trans (List.drop_sublist _ _)
/-! ### odd values -/
def fsOdd : FS := fun Γ Q _ => ∃ v d x, Γ = [.ow v 2 d, .pv x] ∧ DeckD d ∧ (x = .none ∨ itV x = true) ∧ wt x ≤ 40000 ∧ x.depth ≤ 20 ∧ ∀ y d', Vw (2 * wt x + 5000) (x.depth + 2) y → DeckD d' → Q y [.ow v 2 d', .no]
section
variable {P : Program} {w : World} {K : Fg} {mg : Str → Option Value} {base : Heap} (G : Fre mg)
include G
end
end KX
set_option Elab.async false
set_option linter.all false
set_option maxRecDepth 100000
set_option maxHeartbeats 8000000
set_option pp.maxSteps 600
namespace KX
open PySem PySem.Spec PyProof.Rows L2 DL
/-! ### a value that is bent somewhere -/
def fsBent (j : Nat) : FS := fun Γ Q _ => ∃ v d x, Γ = [.ow v 2 d, .pv x] ∧ DeckD d ∧ itV x = true ∧ x.depth < j ∧ wt x ≤ 40000 ∧ x.depth ≤ 20 ∧ ∀ y d', Vw (2 * wt x + 5000) (x.depth + 2) y → DeckD d' → Q y [.ow v 2 d', .no]
section
variable {P : Program} {w : World} {K : Fg} {mg : Str → Option Value} {base : Heap} (G : Fre mg)
include G
end
end KX
set_option Elab.async false
set_option linter.all false
set_option maxRecDepth 100000
set_option maxHeartbeats 8000000
set_option pp.maxSteps 600
namespace KX
open PySem PySem.Spec PyProof.Rows L2 DL
/-! ### the law's own look at tables -/
theorem minT_ex : ∀ {r : List Int}, r ≠ [] → ∃ m, m ∈ r ∧ ∀ y ∈ r, m ≤ y
  | [], h => absurd rfl h
  | [a], _ => ⟨a, by simp, fun y hy => by simp at hy; omega⟩
  | a :: b :: r, _ => by
    obtain ⟨m, h1, h2⟩ := minT_ex (r := b :: r) (by simp)
    by_cases c : a ≤ m
    · refine ⟨a, by simp, fun y hy => ?_⟩
      rcases List.mem_cons.mp hy with z | z
      · omega
      · have := h2 y z; omega
    · refine ⟨m, List.mem_cons_of_mem _ h1, fun y hy => ?_⟩
      rcases List.mem_cons.mp hy with z | z
      · omega
      · exact h2 y z
section
variable {P : Program} {w : World} {K : Fg} {mg : Str → Option Value} {base : Heap} (G : Fre mg)
include G
def S_ltable : List D → D → Prop := fun ds d => ∃ x, ds = [x] ∧ okD x = true ∧ d = .bool (isTableB x)
end
end KX
set_option Elab.async false
set_option linter.all false
set_option maxRecDepth 100000
set_option maxHeartbeats 1000000
namespace DL
open PySem PySem.Spec PyProof.Rows L2
theorem AllK.hasNo {R : V → D → List Addr → Prop} {k : Key} : ∀ {ks : List (Key × V)} {kvs : List (D × D)} {fs : List Addr}, AllK R ks kvs fs → kvs.any (fun p => keyD k p.1) = false → ks.any (fun kv => decide (kv.1 = k)) = false
  | _, _, _, .nil, _ => rfl
  | _, _, _, .cons q r, h => by
    rw [List.any_cons, keyD_kD, Bool.or_eq_false_iff] at h
    rw [List.any_cons, Bool.or_eq_false_iff]
    exact h.imp id (AllK.hasNo r)
theorem AllK.snoc {R : V → D → List Addr → Prop} {v : V} {d : D} {k : Key} (h : R v d []) : ∀ {ks : List (Key × V)} {kvs : List (D × D)} {fs : List Addr}, AllK R ks kvs fs → AllK R (ks ++ [(k, v)]) (kvs ++ [(kD k, d)]) fs
  | _, _, _, .nil => .cons (f := []) (fs := []) h .nil
  | _, _, _, .cons q r => .cons q (AllK.snoc h r)
section
variable {X : Cx} {R : XP} {W : WX} {Γ : Gam} {m n : Nat} {o e a b c i : Expr} {es : List Expr} {pos pos' p p2 : Pos} {Po' : Po}
/-- o[k] = e, a dict that lacks the key -/
theorem s1_dnew (hu : X.A.units + 1 < cLine) (h : EV X R e Γ fun d Γ1 => EPl X o Γ1 fun n dl u => ∃ n' kvs, n = n' + 1 ∧ dl = .dict kvs ∧ kvs.length ≤ 1000 ∧ EV X noX i (frz Γ1) fun di _ => ∃ k, di = kD k ∧ kvs.any (fun p => keyD k p.1) = false ∧ (n' = 0 ∨ NoLst d) ∧ Po'.nx (u (.dict (kvs ++ [(kD k, d)]))))
    (hs : swapsWith e (some (.Subscript o i pos')) pos.line X.env = pure false := by rfl) : S1 X R m (.Assign [.Subscript o i pos'] e pos) Γ Po' := fun W tk =>
  ps_weak (ps_dput hu pe_anyP (pe_anyL (n := 0)) (pe_any (n := 0) tk) hs) fun Dd σ H ⟨fp, hE, k, _, _, _, xx⟩ => Any.go h hE xx (Kt.of0 fun v d Γ1 H1 fp1 q r E1 f1 => by
    refine ⟨Γ1, _, q, fp1, E1, fun vo n dl u H2 ⟨n', ds, e1, e2, hl, hi⟩ E2 F2 z2 k2 f2 => ?_⟩
    subst e1
    subst e2
    refine ⟨Γ1, _, hi.imp fun d _ q => ⟨?_, q⟩, fp1, E2, fun vi di fv H3 ⟨kk, e3, e4, e5, p⟩ o3 E3 z3 k3 nd3 f3 => ?_⟩
    · obtain ⟨kk, e3, _⟩ := q
      rw [e3]; cases kk <;> exact rfl
    subst e3
    have F3 := F2.mono z3 k3
    have r3 := kD_rep o3.1
    subst r3
    have e0 := o3.2
    subst e0
    obtain ⟨f, rest, ow, _⟩ := id F3
    obtain ⟨a, ks, fs, rfl, ea, al, _⟩ := ow.dctAt
    have rv : Rep X.K H3 v d := r.mono (z2.trans z3)
    have pk : putK ks kk v = ks ++ [(kk, v)] := by
      unfold putK
      rw [if_neg (by rw [al.hasNo e4]; exact Bool.false_ne_true)]
    obtain ⟨fp4, E4, f4⟩ := foc_writeK (ys := putK ks kk v) (es := ds ++ [(kD kk, d)]) F3 ea fun H' fs z kk' al => by
      rw [pk]
      exact ⟨fs, List.Sublist.refl _, AllK.snoc (own_in (rv.mono z) e5) (allK_own z kk' al)⟩
    have sz : sizeLine = 16777216 := sizeLine_eq
    exact ⟨a, _, rfl, .inl ⟨ks, kk, ea, rfl, by rw [al.length]; omega, rfl⟩, k σ _ _ fp4 p E4 (((f1.trans f2).trans (f3.sub fun x m => m)).trans f4)⟩)
end
end DL
set_option Elab.async false
set_option linter.all false
set_option maxRecDepth 100000
set_option maxHeartbeats 8000000
set_option pp.maxSteps 600
namespace KX
open PySem PySem.Spec PyProof.Rows L2 DL
/-! ### the law's own fault -/
def Fk (n : Nat) (ks : List Nat) : List Bool := (List.range n).map fun y => decide (y ∈ ks)
theorem Fk_at {n : Nat} {ks : List Nat} {y : Nat} (h : y < n) : (Fk n ks)[y]? = some (decide (y ∈ ks)) := by simp [Fk, h]
theorem Fk_add {n : Nat} {ks : List Nat} {k : Nat} : Fk n (ks ++ [k]) = (Fk n ks).set k true := by
  apply List.ext_getElem?
  intro y
  by_cases h : y < n
  · rw [Fk_at h, List.getElem?_set]
    by_cases c : k = y
    · subst c
      simp [Fk, h]
    · rw [if_neg c, Fk_at h]
      congr 1
      rw [decide_eq_decide]
      simp
      intro z; exact absurd z.symm c
  · rw [List.getElem?_eq_none (by simp [Fk]; omega), List.getElem?_eq_none (by simp [Fk]; omega)]
def keysD (ks : List Nat) : List (D × D) := ks.map fun k => (.int (k : Nat), .bool true)
theorem keys_all (ks : List Nat) : ((keysD ks).all fun p => keyOk p.1) = true := by
  simp [keysD, List.all_map, keyOk]
theorem keys_get0 {k : Nat} : ∀ {ks : List Nat}, (getD? (keysD ks) (.inl (k : Int))).isSome = decide (k ∈ ks)
  | [] => rfl
  | a :: ks => by
    show (getD? ((kD (.inl (a : Int)), .bool true) :: keysD ks) (.inl (k : Int))).isSome = _
    rw [getD_cons]
    by_cases c : a = k
    · subst c
      simp
    · rw [if_neg (fun z => c (by injection z with z; omega)), keys_get0 (ks := ks), decide_eq_decide]
      simp
      intro z; exact absurd z.symm c
theorem keys_any {k : Nat} : ∀ {ks : List Nat}, ((keysD ks).any fun p => keyD (.inl (k : Int)) p.1) = decide (k ∈ ks)
  | [] => rfl
  | a :: ks => by
    show (keyD (.inl (k : Int)) (kD (.inl (a : Int))) || (keysD ks).any fun p => keyD (.inl (k : Int)) p.1) = _
    rw [keyD_kD, keys_any (ks := ks)]
    by_cases c : a = k
    · subst c
      simp
    · rw [decide_eq_false (fun z => c (by injection z with z; omega)), Bool.false_or, decide_eq_decide]
      simp
      intro z; exact absurd z.symm c
theorem nodup_len : ∀ {n : Nat} {l : List Nat}, l.Nodup → (∀ x ∈ l, x < n) → l.length ≤ n
  | 0, l, _, h => by
    cases l with
    | nil => exact Nat.le_refl _
    | cons a l => exact absurd (h a List.mem_cons_self) (Nat.not_lt_zero _)
  | n + 1, l, nd, h => by
    by_cases c : n ∈ l
    · have ih := nodup_len (n := n) (nd.erase n) fun x hx => by
        have h1 := (nd.mem_erase_iff).mp hx
        have := h x h1.2
        have := h1.1
        omega
      rw [List.length_erase_of_mem c] at ih
      omega
    · have ih := nodup_len (n := n) nd fun x hx => by
        have := h x hx
        have : x ≠ n := fun z => c (z ▸ hx)
        omega
      omega
section
variable {P : Program} {w : World} {K : Fg} {mg : Str → Option Value} {base : Heap} (G : Fre mg)
include G
def S_lfault : List D → D → Prop := fun ds d => ∃ n T, Tbl n T ∧ ds = [tb T] ∧ d = faultD n T
def S_lweb : List D → D → Prop := fun ds d => ∃ x, ds = [x] ∧ okD x = true ∧ d = .bool (isWebB x)
end
end KX
set_option Elab.async false
set_option linter.all false
set_option maxRecDepth 100000
set_option maxHeartbeats 2000000
namespace DL
open PySem PySem.Spec PyProof.Rows L2
/-! ### the signs of what repr writes -/
def SmS (x : Str) : Prop := ∀ c ∈ x.cps.toList, c < 16 ^ 8
theorem SmS.app {a b : Str} (h : SmS a) (h' : SmS b) : SmS (a ++ b) := fun c m => by
  rw [Str.cps_append, Array.toList_append] at m
  exact (List.mem_append.mp m).elim (h c) (h' c)
theorem sms_lit (s : String) : SmS (Str.ofString s) := fun c m => by
  rw [Str.ofString_eq_byList] at m
  unfold Str.ofStringByList at m
  obtain ⟨ch, _, rfl⟩ : ∃ ch, ch ∈ s.toList ∧ ch.toNat = c := by simpa using m
  exact ch.val.toNat_lt
theorem sms_join {s : Str} (hs : SmS s) : ∀ {ts : List Str}, (∀ t ∈ ts, SmS t) → SmS (Str.join s ts)
  | [], _ => fun c m => by simp [Str.join, Str.empty] at m
  | [x], h => h x List.mem_cons_self
  | x :: y :: r, h => ((h x List.mem_cons_self).app hs).app (sms_join hs fun t m => h t (List.mem_cons_of_mem _ m))
theorem sms_from : ∀ {ts : List Str} {k : Nat} {acc : Str}, SmS acc → (∀ t ∈ ts, SmS t) → SmS (textFrom k acc ts)
  | [], _, _, ha, _ => ha
  | t :: ts, k, acc, ha, h => by
    unfold textFrom
    exact sms_from (ts := ts) (k := k + 1) ((ha.app (sms_lit _)).app (h t List.mem_cons_self)) fun u m => h u (List.mem_cons_of_mem _ m)
theorem within_le {B : Nat} : ∀ {l : List (Nat × Nat)} {c : Nat}, (l.all fun p => decide (p.2 ≤ B)) = true → Unicode.within l c = true → c ≤ B
  | [], _, _, h => by simp [Unicode.within] at h
  | (a, b) :: r, c, hb, h => by
    rw [List.all_cons, Bool.and_eq_true] at hb
    unfold Unicode.within at h
    split at h
    · cases h
    · rw [Bool.or_eq_true] at h
      rcases h with h | h
      · have := of_decide_eq_true hb.1
        have := of_decide_eq_true h
        omega
      · exact within_le hb.2 h
theorem printable_le {c : Nat} (h : Unicode.isPrintable c = true) : c < 16 ^ 8 := by
  have := within_le (B := 1114111) (by decide +kernel) h
  exact Nat.lt_of_le_of_lt this (by decide)
theorem sms_char {q c y : Nat} (hq : q < 16 ^ 8) (h : y ∈ Builtin.Str.reprChar q c) : y < 16 ^ 8 := by
  have dg : ∀ (w : Nat), y ∈ List.replicate (w - ((Nat.toDigits 16 c).map Char.toNat).length) 48 ++ (Nat.toDigits 16 c).map Char.toNat → y < 16 ^ 8 := fun w m => by
    rcases List.mem_append.mp m with m | m
    · rw [(List.mem_replicate.mp m).2]; decide
    · obtain ⟨ch, _, rfl⟩ := List.mem_map.mp m
      exact ch.val.toNat_lt
  unfold Builtin.Str.reprChar at h
  dsimp only at h
  split at h
  · rename_i z
    simp only [List.mem_cons, List.not_mem_nil, or_false] at h
    rcases h with rfl | rfl
    · decide
    · simp only [Bool.or_eq_true, beq_iff_eq] at z
      rcases z with rfl | rfl
      · exact hq
      · decide
  split at h
  · simp only [List.mem_cons, List.not_mem_nil, or_false] at h
    rcases h with rfl | rfl <;> decide
  split at h
  · simp only [List.mem_cons, List.not_mem_nil, or_false] at h
    rcases h with rfl | rfl <;> decide
  split at h
  · simp only [List.mem_cons, List.not_mem_nil, or_false] at h
    rcases h with rfl | rfl <;> decide
  split at h
  · rename_i z
    simp only [List.mem_cons, List.not_mem_nil, or_false] at h
    subst h
    exact printable_le z
  have two : ∀ {a b : Nat} {l : List Nat}, a < 16 ^ 8 → b < 16 ^ 8 → y ∈ [a, b] ++ l → (y ∈ l → y < 16 ^ 8) → y < 16 ^ 8 := fun ha hb m k => by
    rcases List.mem_append.mp m with m | m
    · simp only [List.mem_cons, List.not_mem_nil, or_false] at m
      rcases m with rfl | rfl
      · exact ha
      · exact hb
    · exact k m
  split at h
  · exact two (by decide) (by decide) h (dg 2)
  split at h
  · exact two (by decide) (by decide) h (dg 4)
  · exact two (by decide) (by decide) h (dg 8)
theorem sms_repr (x : Str) : SmS (reprText x) := by
  have hq : reprQuote x < 16 ^ 8 := by unfold reprQuote; split <;> decide
  have go : ∀ (l : List Nat) (acc : Array Nat), (∀ c ∈ acc.toList, c < 16 ^ 8) → ∀ c ∈ (l.foldl (fun out c => out ++ (Builtin.Str.reprChar (reprQuote x) c).toArray) acc).toList, c < 16 ^ 8 := by
    intro l
    induction l with
    | nil => exact fun acc h => h
    | cons a l ih =>
      intro acc h
      refine ih _ fun c m => ?_
      rw [Array.toList_append] at m
      rcases List.mem_append.mp m with m | m
      · exact h c m
      · exact sms_char hq (by simpa using m)
  intro c m
  unfold reprText at m
  simp only [Array.toList_push] at m
  rcases List.mem_append.mp m with m | m
  · rw [← Array.foldl_toList] at m
    exact go _ _ (fun c m => by simp at m; subst m; exact hq) c m
  · rw [List.mem_singleton.mp m]; exact hq
mutual
theorem sms_shown : ∀ d : D, SmS d.shown
  | .none => sms_lit _
  | .bool b => by cases b <;> exact sms_lit _
  | .int i => sms_lit _
  | .str x => sms_repr x
  | .list ds => (sms_from (sms_lit _) (sms_shownA ds)).app (sms_lit _)
  | .tuple ds => ((sms_lit _).app (sms_join (sms_lit _) (sms_shownA ds))).app (sms_lit _)
  | .dict kvs => ((sms_lit _).app (sms_join (sms_lit _) (sms_shownK kvs))).app (sms_lit _)
theorem sms_shownA : ∀ (ds : List D), ∀ t ∈ PyData.shownAll ds, SmS t
  | [], t, m => nomatch m
  | d :: ds, t, m => by
    rcases List.mem_cons.mp (show t ∈ d.shown :: PyData.shownAll ds from m) with rfl | m
    · exact sms_shown d
    · exact sms_shownA ds t m
theorem sms_shownK : ∀ (kvs : List (D × D)), ∀ t ∈ PyData.shownKv kvs, SmS t
  | [], t, m => nomatch m
  | (k, v) :: r, t, m => by
    rcases List.mem_cons.mp (show t ∈ (k.shown ++ ": " ++ v.shown) :: PyData.shownKv r from m) with rfl | m
    · exact ((sms_shown k).app (sms_lit _)).app (sms_shown v)
    · exact sms_shownK r t m
end
/-- repr of a text that repr wrote -/
theorem text_len {d : D} (h : gd d = true) (hw : wt d ≤ 1600000) : (reprText d.shown).length ≤ 16777216 := by
  have h1 := StrLaws.reprText_len d.shown (sms_shown d)
  have h2 := shown_wt h
  omega
/-- what may be handed to repr -/
structure RpOk (d : D) : Prop where
  dc : dcOk d = true
  sh : d.showable = true
  dp : d.depth ≤ 40
  sz : d.shown.length ≤ 16777216
theorem rp_gd {d : D} (h : gd d = true) (hd : d.depth ≤ 40) (hw : wt d ≤ 16000000) : RpOk d := ⟨(gd_dc h).1, (gd_dc h).2, hd, Nat.le_trans (shown_wt h) (by omega)⟩
theorem rp_text {d : D} (h : gd d = true) (hw : wt d ≤ 1600000) : RpOk (.str d.shown) := ⟨by first | rfl | exact decide_eq_true (text_len h hw), rfl, by simp [PyData.depth], text_len h hw⟩
theorem q_reprK {X : Cx} (gd' : X.A.guards = some []) {d : D} (h : RpOk d) (hu : X.A.units + 64 < cLine) : CallG X (.builtin "repr") 0 [d] (.str d.shown) :=
  q_reprV gd' h.dc h.sh (by have := h.dp; omega) (by rw [sizeLine_eq]; exact h.sz)
end DL
set_option Elab.async false
set_option linter.all false
set_option maxRecDepth 100000
set_option maxHeartbeats 8000000
set_option pp.maxSteps 600
namespace KX
open PySem PySem.Spec PyProof.Rows L2 DL
/-! ### the law's own small defs, shared by laws -/
theorem ret2 {m n : Nat} {d : D} : sh [.ow v m d, .pv x] [.ow v n e, y] = [.ow v n e, .no] := by simp [sh]
def fsMaybe (j : Nat) : FS := fun Γ Q _ => ∃ v d x, Γ = [.ow v 2 d, .pv x] ∧ DeckD d ∧ itV x = true ∧ x.depth < j ∧ wt x ≤ 40000 ∧ x.depth ≤ 20 ∧ ∀ y d', Vw (2 * wt x + 5000) (x.depth + 2) y → DeckD d' → Q y [.ow v 2 d', .no]
def S_lsame : List D → D → Prop := fun ds d => ∃ x, ds = [x, x] ∧ RpOk x ∧ d = .bool true
/-- the greatest of some numbers -/
theorem maxT_ex : ∀ {r : List Int}, r ≠ [] → ∃ m, m ∈ r ∧ ∀ y ∈ r, y ≤ m
  | [], h => absurd rfl h
  | [a], _ => ⟨a, by simp, fun y hy => by simp at hy; omega⟩
  | a :: b :: r, _ => by
    obtain ⟨m, h1, h2⟩ := maxT_ex (r := b :: r) (by simp)
    by_cases c : m ≤ a
    · refine ⟨a, by simp, fun y hy => ?_⟩
      rcases List.mem_cons.mp hy with z | z
      · omega
      · have := h2 y z; omega
    · refine ⟨m, List.mem_cons_of_mem _ h1, fun y hy => ?_⟩
      rcases List.mem_cons.mp hy with z | z
      · omega
      · exact h2 y z
open Classical in
noncomputable def mxI (r : List Int) : Int := if h : ∃ m, m ∈ r ∧ ∀ y ∈ r, y ≤ m then h.choose else 0
theorem mxI_spec {r : List Int} (h : r ≠ []) : mxI r ∈ r ∧ ∀ y ∈ r, y ≤ mxI r := by
  have e := maxT_ex h
  unfold mxI
  rw [dif_pos e]
  exact e.choose_spec
section
variable {P : Program} {w : World} {K : Fg} {mg : Str → Option Value} {base : Heap} (G : Fre mg)
include G
abbrev n_law_same : List Str := ["_law_told", "_law_due"]
omit G in
theorem nd_law_same : n_law_same.Nodup := by decide
theorem b_lsame {k : Nat} {ds : List D} {d0 : D} (S : S_lsame ds d0) : BodyP P w K mg base k n_law_same ["_law_told", "_law_due"] (top 39) 0 ds (fun d' => d' = d0) (fun _ _ => False) := by
  obtain ⟨x, rfl, hx, rfl⟩ := S
  intro qual f cdv A outer s H E
  conv in (occs := *) defScope _ => all_goals whnf
  conv in defBody _ => whnf
  intro hr
  show SS _ _ _ _ [.pv x, .pv x] _
  refine ss_one (s1_ret (ev_cmp (eg_callB1 G.repr boot_repr (ev_var 0 rfl ⟨_, q_reprK hr.gd hx hr.hu64, eg_callB1 G.repr boot_repr (ev_var 1 rfl ⟨_, q_reprK hr.gd hx hr.hu64, ?_⟩)⟩))))
  exact ⟨_, c_eqS, le_ok rfl, by simp⟩
end
end KX
set_option Elab.async false
set_option linter.all false
set_option maxRecDepth 100000
set_option maxHeartbeats 1000000
namespace DL
open PySem PySem.Spec PyProof.Rows L2
section
variable {X : Cx} {R : XP} {W : WX} {Γ : Gam} {m n n1 n2 : Nat} {a b : Expr} {pos : Pos} {Po' : Po}
/-- a, b = x, y where a name is a cell: each keeps its own things -/
theorem s1_asg2 (i j n1 n2 : Nat) {x y : Str} {px py pt : Pos} {kt k2 : Nat} {pt2 : Pos} (hc : X.calm = true) (hN : X.N.Nodup) (h : EG X R n1 a Γ fun d1 Γ1 => EG X R n2 b Γ1 fun d2 Γ2 => i < Γ2.length ∧ j < Γ2.length ∧ ∀ v w, Po'.nx ((Γ2.set i (sv n1 v d1)).set j (sv n2 w d2)))
    (hi : X.N[i]? = some x := by rfl) (hj : X.N[j]? = some y := by rfl) (hij : i ≠ j := by decide) (hx : Loc X.env.scope x := by first | exact Or.inl rfl | exact Or.inr rfl) (hy : Loc X.env.scope y := by first | exact Or.inl rfl | exact Or.inr rfl)
    (hfx : X.fn x = true ∨ X.env.scope.names.lookup x = some .local := by first | exact .inl rfl | exact .inr rfl) (hfy : X.fn y = true ∨ X.env.scope.names.lookup y = some .local := by first | exact .inl rfl | exact .inr rfl)
    (he : starEach [a, b] X.env = (false, eval a X.env) :: starEach [b] X.env := by rfl) (he2 : starEach [b] X.env = (false, eval b X.env) :: starEach [] X.env := by rfl)
    (hs : swapsWithSole [.Tuple [.Name x px, .Name y py] kt pt] (.Tuple [a, b] k2 pt2) pos.line X.env = pure false := by rfl)
    (hw : swappedStores [.Tuple [.Name x px, .Name y py] kt pt] (.Tuple [a, b] k2 pt2) X.env = pure none := by rfl)
    (h1 : (assignEach [.Tuple [.Name x px, .Name y py] kt pt] X.env).map (·.2) = [assign (.Tuple [.Name x px, .Name y py] kt pt) X.env] := by rfl)
    (a1 : (assignEach [.Name x px, .Name y py] X.env).map (·.2) = assign (.Name x px) X.env :: (assignEach [.Name y py] X.env).map (·.2) := by rfl)
    (a2 : (assignEach [.Name y py] X.env).map (·.2) = assign (.Name y py) X.env :: (assignEach [] X.env).map (·.2) := by rfl)
    (hn : (assignEach [.Name x px, .Name y py] X.env).length = 2 := by rfl) (hst : (assignEach [.Name x px, .Name y py] X.env).findIdx? (·.1) = none := by rfl) :
    S1 X R m (.Assign [.Tuple [.Name x px, .Name y py] kt pt] (.Tuple [a, b] k2 pt2) pos) Γ Po' := fun W tk =>
  ps_weak (ps_asg (pe_tup (pa_cons (pe_any (n := n1) tk) (pa_cons (pe_any (n := n2) tk) pa_nil he2) he)) (pg_tup hc (pgs_cons (pg_name hN hi hx hfx) (pgs_cons (pg_name hN hj hy hfy) pgs_nil a2) a1) hn hst) hs hw h1) fun D σ H ⟨fp, hE, k, _, _, _, xx⟩ => by
    refine Any.go h hE xx fun v d fv Γ1 H1 fp1 h1 o E1 nd f => ?_
    have fsub : Fr fp fp1 H H1 := f.sub fun a m => List.mem_append_right _ m
    refine Any.go h1 ⟨E1, (List.nodup_append.mp nd).2.1⟩ (xx.trans fsub) fun w d2 fw Γ2 H2 fp2 ⟨l1, l2, p⟩ o2 E2 nd2 f2 => ?_
    refine ⟨by show 2 ≤ sizeLine; decide, fun pa hp => ?_⟩
    refine ⟨pa, [v, w], rfl, .inl (Or.inl upd_same), rfl, v, [w], rfl, w, [], rfl, rfl, ?_⟩
    have all : (fv ++ (fw ++ fp2)).Nodup := nodup_new o nd f2.new nd2
    have F : Fr fp (fv ++ (fw ++ fp2)) H H2 := f.trans (f2.more (g := fv))
    have o1 : Own X.K H2 n1 v d fv := own_stay o nd f2
    have st : ∀ (l : List Addr), (∀ c ∈ l, H2 c ≠ none) → ∀ c ∈ l, upd H2 pa (.tup [v, w]) c = H2 c := fun l hl c m => upd_ne fun z => hl c m (z ▸ hp)
    have o1' := o1.mono (ez_upd hp (o := .tup [v, w])) (st fv fun c m z => (o1.wr c m).ne z)
    have o2' := o2.mono (ez_upd hp (o := .tup [v, w])) (st fw fun c m z => (o2.wr c m).ne z)
    have E2' := E2.mono (ez_upd hp (o := .tup [v, w])) (st fp2 fun c m z => (E2.wr c m).ne z)
    have F' : Fr fp (fv ++ (fw ++ fp2)) H (upd H2 pa (.tup [v, w])) := F.trans (Fr.alloc0 hp)
    obtain ⟨q1, E3, s1⟩ := Env.putSv (i := i) E2' (all.sublist ((List.sublist_append_right fw fp2).append_left fv)) l1 o1'
    obtain ⟨q2, E4, s2⟩ := Env.putSv (i := j) E3.1 (fv := fw) (by
      refine List.nodup_append.mpr ⟨(List.nodup_append.mp nd2).1, E3.2, fun a m b m' z => ?_⟩
      subst z
      rcases List.mem_append.mp (s1 a m') with q | q
      · exact (List.nodup_append.mp all).2.2 a q a (List.mem_append_left _ m) rfl
      · exact (List.nodup_append.mp nd2).2.2 a m a q rfl) (by simpa using l2) o2'
    refine k _ _ _ q2 (p v w) E4 (F'.sub fun a m => ?_)
    rcases List.mem_append.mp (s2 a m) with q | q
    · exact List.mem_append_right _ (List.mem_append_left _ q)
    · rcases List.mem_append.mp (s1 a q) with q | q
      · exact List.mem_append_left _ q
      · exact List.mem_append_right _ (List.mem_append_right _ q)
end
end DL
set_option Elab.async false
set_option linter.all false
set_option maxRecDepth 100000
set_option maxHeartbeats 8000000
set_option pp.maxSteps 600
namespace KX
open PySem PySem.Spec PyProof.Rows L2 DL GA
/-! ### sizes of the coefficients -/
theorem sg_rev {f : Nat → Int} : ∀ m : Nat, sg (List.range m) f = sg (List.range m) fun i => f (m - 1 - i) := fun m => by
  have e : (List.range m).map (fun i => m - 1 - i) = (List.range m).reverse := by
    apply List.ext_getElem
    · simp
    · intro i h1 h2
      simp at h1
      simp
  have p : ((List.range m).map fun i => m - 1 - i).Perm (List.range m) := by rw [e]; exact List.reverse_perm _
  rw [← sg_perm p, sg_map]
theorem sg_abs {f : Nat → Int} {g : Nat → Nat} : ∀ {l : List Nat}, (∀ x ∈ l, (f x).natAbs ≤ g x) → (sg l f).natAbs ≤ (l.map g).sum
  | [], _ => Nat.le_refl 0
  | a :: l, h => by
    rw [sg_cons, List.map_cons, List.sum_cons]
    have h1 := h a (List.mem_cons_self ..)
    have h2 := sg_abs (l := l) fun x hx => h x (List.mem_cons_of_mem _ hx)
    have h3 := Int.natAbs_add_le (f a) (sg l f)
    omega
theorem two_sum (b : Nat) : ∀ q : Nat, ((List.range q).map fun i => 2 ^ (b + i)).sum ≤ 2 ^ (b + q)
  | 0 => Nat.zero_le _
  | q + 1 => by
    rw [List.range_succ, List.map_append, List.sum_append]
    have := two_sum b q
    have e : 2 ^ (b + (q + 1)) = 2 ^ (b + q) + 2 ^ (b + q) := by rw [← Nat.add_assoc, Nat.pow_succ]; omega
    simp only [List.map_cons, List.map_nil, List.sum_cons, List.sum_nil]
    omega
def Bot (n : Nat) (A : Nat → Nat → Int) (c : Nat → Int) : Prop := c 0 = 1 ∧ (∀ q, 1 ≤ q → q ≤ n → (q : Int) * c q = - sg (List.range q) fun i => c i * tr n A (q - i)) ∧
    (∀ q, n < q → c q = 0) ∧ ∀ i j, i < n → j < n → (sg (List.range (n + 1)) fun q => c q * pw n A (n - q) i j) = 0
theorem log_leA {x : Int} {k : Nat} (h : x.natAbs ≤ 2 ^ k) : x.natAbs.log2 ≤ k := by
  have e : (x.natAbs : Int).natAbs = x.natAbs := Int.natAbs_natCast _
  rw [← e]
  exact log_le (by omega) (by exact_mod_cast h)
theorem tr_bd {n : Nat} {T : List (List Int)} (hT : Tbl n T) (h : Sm20 n T) {L : Nat} (hL : 1 ≤ L) : (tr n (ent T) L).natAbs ≤ 2 ^ (26 * L) := by
  have n8 := hT.n8
  have h0 : 0 ≤ tr n (ent T) L := sg_nonneg fun i hi => (sm_pw hT h L i i (List.mem_range.mp hi)).1
  have h1 : tr n (ent T) L ≤ sg (List.range n) fun _ => 2 ^ (23 * L) := sg_le fun i hi => (sm_pw hT h L i i (List.mem_range.mp hi)).2
  rw [sg_const, List.length_range] at h1
  have h2 : (n : Int) * 2 ^ (23 * L) ≤ 8 * 2 ^ (23 * L) := Int.mul_le_mul_of_nonneg_right (by omega) (Int.le_of_lt (Int.pow_pos (by decide)))
  have h3 : (8 : Int) * 2 ^ (23 * L) = 2 ^ (3 + 23 * L) := by rw [Int.pow_add]; rfl
  have h4 : (2 : Nat) ^ (3 + 23 * L) ≤ 2 ^ (26 * L) := Nat.pow_le_pow_right (by decide) (by omega)
  have h5 : ((2 ^ (3 + 23 * L) : Nat) : Int) = 2 ^ (3 + 23 * L) := by rw [Int.natCast_pow]; rfl
  omega
theorem bot_bd {n : Nat} {T : List (List Int)} (hT : Tbl n T) (h : Sm20 n T) {c : Nat → Int} (B : Bot n (ent T) c) : ∀ q, (c q).natAbs ≤ 2 ^ (27 * q) := fun q => by
  induction q using Nat.strongRecOn with
  | ind q ih =>
    rcases Nat.eq_zero_or_pos q with z | z
    · subst z
      rw [B.1]; decide
    · rcases Nat.lt_or_ge n q with hn | hn
      · rw [B.2.2.1 q hn]; exact Nat.zero_le _
      · have e := B.2.1 q z hn
        have h1 : (sg (List.range q) fun i => c i * tr n (ent T) (q - i)).natAbs ≤ ((List.range q).map fun i => 2 ^ (26 * q + i)).sum := sg_abs fun i hi => by
          have hi := List.mem_range.mp hi
          rw [Int.natAbs_mul]
          have e2 : 2 ^ (26 * q + i) = 2 ^ (27 * i) * 2 ^ (26 * (q - i)) := by
            rw [← Nat.pow_add]
            congr 1
            omega
          rw [e2]
          exact Nat.mul_le_mul (ih i hi) (tr_bd hT h (by omega))
        have h2 := two_sum (26 * q) q
        rw [show 26 * q + q = 27 * q by omega] at h2
        have h3 : (c q).natAbs ≤ ((q : Int) * c q).natAbs := by
          rw [Int.natAbs_mul]
          exact Nat.le_mul_of_pos_left _ (by omega)
        rw [e, Int.natAbs_neg] at h3
        omega
/-- how many coefficients are left -/
def bl (c : Nat → Int) : Nat → Nat
  | 0 => 1
  | k + 1 => if c (k + 1) = 0 then bl c k else k + 2
def intsD (m : Nat) (c : Nat → Int) : List D := ((List.range m).map c).map .int
theorem at_lst1 {α : Type} {l : List α} {x : α} {m : Nat} (hl : l.length = m + 1) (h : l[m]? = some x) : L2.atI l (-1) = some x := by
  have e : ixN l.length (-1) = some m := by
    rw [hl]
    unfold ixN
    rw [if_neg (by omega), if_pos (by omega)]
    congr 1
    omega
  unfold L2.atI
  rw [e]
  exact h
theorem intsD_succ {m : Nat} {c : Nat → Int} : intsD (m + 1) c = intsD m c ++ [.int (c m)] := by
  unfold intsD
  rw [List.range_succ, List.map_append, List.map_append]; rfl
section
variable {P : Program} {w : World} {K : Fg} {mg : Str → Option Value} {base : Heap} (G : Fre mg)
include G
def S_traces : List D → D → Prop := fun ds d => ∃ n T, ∃ m : Nat, Tbl n T ∧ Sm20 n T ∧ m ≤ 1000 ∧ ds = [tb T, .int (m : Nat)] ∧ d = .list (((List.range m).map fun k => tr n (ent T) (k + 1)).map .int)
abbrev n_traces_to : List Str := ["table", "most", "found", "power", "length"]
omit G in
theorem nd_traces_to : n_traces_to.Nodup := by decide
theorem b_traces (F1 : Df P w K mg base 1 "unit_table" (top 8) ["many"] 0 (pfs S_unit_table)) (F2 : Df P w K mg base 1 "product_of" (top 7) ["one", "other"] 0 (pfs S_product_of)) (F3 : Df P w K mg base 1 "trace_of" (top 10) ["table"] 0 (pfs S_trace_of)) {k : Nat} (hk : 1 ≤ k) {ds : List D} {d0 : D} (S : S_traces ds d0) :
    BodyP P w K mg base k n_traces_to ["table", "most"] (top 13) 0 ds (fun d' => d' = d0) (fun _ _ => False) := by
  obtain ⟨n, T, m, hT, hs, hm, rfl, rfl⟩ := S
  have l1 := hT.len
  have n8 := hT.n8
  intro qual f cdv A outer s H E
  conv in (occs := *) defScope _ => all_goals whnf
  conv in defBody _ => whnf
  intro hr
  show SS _ _ _ _ [.pv (tb T), .pv (.int (m : Nat)), .no, .no, .no] _
  refine ss_cons (s1_par2 2 3 1 0 rfl nd_traces_to (eg_lst (ea_nil ⟨[], rfl, le_ok rfl, eg_callS F1 hr hk (eg_callB1 G.len boot_len (ev_var 0 rfl ⟨_, q_len (ds := T.map rowD) rfl, rfl, _, ⟨n, n8, by simp [l1], rfl⟩, lt_ok rfl, lt_ok rfl, fun v2 _ => ?_⟩)) ⟨rfl, trivial⟩⟩)))
  refine ss_cons (s1_for (ix := [4]) (passes_of rfl) rfl (ei_range1 G.range (ev_var 1 rfl ⟨(m : Nat), rfl, by omega, by omega, ?_⟩)))
  refine ⟨fun q Γ => q ≤ m ∧ ∃ v2 s4, Γ = [.pv (tb T), .pv (.int (m : Nat)), .ow v2 1 (.list (((List.range q).map fun k => tr n (ent T) (k + 1)).map .int)), .pv (tb (pwT n T q)), s4], ⟨Nat.zero_le _, v2, .no, rfl⟩, ?_, ?_⟩
  · rintro q d Γ hd ⟨_, v2, s4, rfl⟩
    obtain ⟨hq, rfl⟩ := rng_get hd
    refine gt_name 4 nd_traces_to (lt_ok rfl) ?_
    have mo := mok_pw hT hs (a := q) (b := 1) (by omega)
    have mu := pwT_mul (n := n) (T := T) q 1
    rw [pwT_one hT] at mo mu
    refine ss_cons (s1_set 3 (eg_callS F2 hr hk (ev_var 3 rfl (ev_var 0 rfl ⟨rfl, _, ⟨n, _, T, pwT_tbl hT hs q, hT, mo, rfl, rfl⟩, lt_ok rfl, ?_⟩)) ⟨rfl, rfl, trivial⟩) nd_traces_to)
    rw [mu]
    show SS _ _ _ _ [.pv (tb T), .pv (.int (m : Nat)), .ow v2 1 (.list (((List.range q).map fun k => tr n (ent T) (k + 1)).map .int)), .pv (tb (pwT n T (q + 1))), .pv (.int (q : Nat))] _
    refine ss_one (s1_expr (ev_append 2 rfl (eg_callS F3 hr hk (ev_var 3 rfl ⟨rfl, _, ⟨n, _, pwT_tbl hT hs (q + 1), rfl, rfl⟩, v2, 0, _, rfl, .inl rfl, by simp; omega, hq, v2, .pv (.int (q : Nat)), ?_⟩) ⟨rfl, trivial⟩)))
    rw [List.range_succ, List.map_append, List.map_append]
    have : (sg (List.range n) fun i => ent (pwT n T (q + 1)) i i) = tr n (ent T) (q + 1) := sg_congr fun i hi => pwT_ent (List.mem_range.mp hi) (List.mem_range.mp hi)
    rw [this]; rfl
  · rintro Γ ⟨_, v2, s4, rfl⟩
    rw [show (rngD 0 (m : Nat)).length = m by rw [rngD_len]; simp]
    exact ss_one (s1_ret (ev_varZ 2 rfl ⟨le_ok rfl, rfl⟩))
def S_bottom : List D → D → Prop := fun ds d => ∃ n T c, Tbl n T ∧ Sm20 n T ∧ Bot n (ent T) c ∧ ds = [tb T] ∧ d = .tuple (intsD (bl c n) c)
abbrev n_bottom_polynomial : List Str := ["table", "closed", "found", "k", "i"]
omit G in
theorem nd_bottom_polynomial : n_bottom_polynomial.Nodup := by decide
theorem b_bottom (F1 : Df P w K mg base 2 "traces_to" (top 13) ["table", "most"] 0 (pfs S_traces)) {k : Nat} (hk : 2 ≤ k) {ds : List D} {d0 : D} (S : S_bottom ds d0) :
    BodyP P w K mg base k n_bottom_polynomial ["table"] (top 14) 0 ds (fun d' => d' = d0) (fun _ _ => False) := by
  obtain ⟨n, T, c, hT, hs, B, rfl, rfl⟩ := S
  have l1 := hT.len
  have n8 := hT.n8
  have en : (((List.map rowD T).length : Nat) : Int) = (n : Nat) := by simp [l1]
  intro qual f cdv A outer s H E
  conv in (occs := *) defScope _ => all_goals whnf
  conv in defBody _ => whnf
  intro hr
  show SS _ _ _ _ [.pv (tb T), .no, .no, .no, .no] _
  generalize hCD : PyData.list (((List.range n).map fun k => tr n (ent T) (k + 1)).map .int) = CD
  refine ss_cons (s1_asg2 1 2 0 1 rfl nd_bottom_polynomial (eg_callS F1 hr hk (ev_var 0 rfl (eg_callB1 G.len boot_len (ev_var 0 rfl ⟨_, q_len (ds := T.map rowD) rfl, rfl, _, ⟨n, T, n, hT, hs, by omega, by rw [en], rfl⟩, eg_lst (ea_cons (ev_int (ea_nil ⟨[.int 1], rfl, le_ok rfl, lt_ok rfl, lt_ok rfl, fun _ v => ?_⟩)))⟩))) ⟨rfl, rfl, trivial⟩))
  rw [hCD]
  have ez : intsD 1 c = [.int 1] := by simp [intsD, B.1]
  rw [← ez]
  show SS _ _ _ _ [.pv (tb T), .pv CD, .ow v 1 (.list (intsD 1 c)), .no, .no] _
  refine ss_cons (s1_for (ix := [3]) (passes_of rfl) rfl (ei_range2 G.range (ev_int (eg_bin (eg_callB1 G.len boot_len (ev_var 0 rfl ⟨_, q_len (ds := T.map rowD) rfl, ev_int ⟨_, b_add, 1, (n : Nat) + 1, rfl, by rw [en], by omega, ?_⟩⟩))))))
  have er : rngD 1 ((n : Nat) + 1) = (List.range n).map fun (i : Nat) => .int ((i + 1 : Nat) : Int) := by
    unfold rngD
    rw [show (((n : Nat) : Int) + 1 - 1).toNat = n by omega]
    exact List.map_congr_left fun i _ => by congr 1; omega
  rw [er]
  refine ⟨fun q Γ => q ≤ n ∧ ∃ v s3 s4, Γ = [.pv (tb T), .pv CD, .ow v 1 (.list (intsD (q + 1) c)), s3, s4], ⟨Nat.zero_le _, v, .no, .no, rfl⟩, ?_, ?_⟩
  · rintro q d Γ hd ⟨_, v, s3, s4, rfl⟩
    have hq : q < n := by
      have := (List.getElem?_eq_some_iff.mp hd).1
      simpa using this
    obtain rfl : d = .int ((q + 1 : Nat) : Int) := by
      rw [List.getElem?_map, List.getElem?_range hq] at hd
      exact (Option.some.inj hd).symm
    refine gt_name 3 nd_bottom_polynomial (lt_ok rfl) ?_
    have er : rngD 0 ((q + 1 : Nat) : Int) = (List.range (q + 1)).map fun (j : Nat) => .int (j : Nat) := by rw [rngD_eq, List.map_map]; rfl
    refine ss_one (s1_expr (ev_append 2 rfl (ev_lock (eg_bin (ev_neg (eg_callB1 G.sum boot_sum (eg_freeze (eg_lc (n := 0) (own := [("i", 4)]) rfl nd_bottom_polynomial (ei_range1 G.range (ev_var 3 rfl ⟨((q + 1 : Nat) : Int), rfl, by omega, by omega, ?_⟩)) (blkOk_by (by rfl))))))))))
    refine lci_mapL (List.range (q + 1)) (fun (j : Nat) => .int (j : Nat)) (fun i => .int (tr n (ent T) (i + 1) * c (q - i))) er (by simp; omega) rfl ⟨_, q_sumR rfl, _, rfl, ev_var 3 rfl ⟨_, b_fdiv ⟨by omega, by omega⟩, rfl, v, 0, intsD (q + 1) c, rfl, .inl rfl, by simp [intsD]; omega, hq, v, .pv (.int ((q + 1 : Nat) : Int)), s4, ?_⟩⟩ fun i hi s H C cl fp => gt_name 4 nd_bottom_polynomial (lt_ok rfl) fun s H C cl fp => ?_
    · have e1 := B.2.1 (q + 1) (by omega) hq
      have e2 : (sg (List.range (q + 1)) fun i => tr n (ent T) (i + 1) * c (q - i)) = sg (List.range (q + 1)) fun i => c i * tr n (ent T) (q + 1 - i) := by
        rw [sg_rev]
        exact sg_congr fun i hi => by
          have hi := List.mem_range.mp hi
          rw [show q + 1 - 1 - i + 1 = q + 1 - i by omega, show q - (q + 1 - 1 - i) = i by omega, Int.mul_comm]
      rw [e2, ← e1, Int.mul_ediv_cancel_left _ (by omega)]
      rw [intsD_succ (m := q + 1)]; rfl
    · have hi := List.mem_range.mp hi
      have g1 : (((List.range n).map fun k => tr n (ent T) (k + 1)).map PyData.int)[i]? = some (.int (tr n (ent T) (i + 1))) := by simp [show i < n by omega]
      have g2 : (intsD (q + 1) c)[q - i]? = some (.int (c (q - i))) := by simp [intsD, show q - i < q + 1 by omega]
      have b1 := log_leA (tr_bd hT hs (L := i + 1) (by omega))
      have b2 := log_leA (bot_bd hT hs B (q - i))
      rw [← hCD]
      refine eg_bin (ev_sub (ev_var 1 rfl (ev_var 4 rfl ⟨_, sub_lst (at_nat g1), ?_⟩)))
      refine ev_sub (ev_var 2 rfl (eg_bin (eg_bin (ev_var 3 rfl (ev_int ⟨_, b_sub, ev_var 4 rfl ⟨_, b_sub, _, sub_lst ?_, _, b_mulW ?_, rfl, rfl⟩⟩)))))
      · rw [show ((q + 1 : Nat) : Int) - 1 - (i : Nat) = ((q - i : Nat) : Int) by omega]
        exact at_nat g2
      · show _ + _ < _
        omega
  · rintro Γ ⟨_, v, s3, s4, rfl⟩
    rw [show ((List.range n).map fun (i : Nat) => PyData.int ((i + 1 : Nat) : Int)).length = n by simp]
    refine ss_cons (s1_while (passes_of rfl) (fun m Γ => m ≤ n ∧ bl c m = bl c n ∧ ∃ v s3 s4, Γ = [.pv (tb T), .pv CD, .ow v 1 (.list (intsD (m + 1) c)), s3, s4]) ⟨n, Nat.le_refl _, rfl, v, s3, s4, rfl⟩ ?_)
    rintro m Γ ⟨hm, hb, v, s3, s4, rfl⟩
    have g1 : (intsD (m + 1) c)[m]? = some (.int (c m)) := by simp [intsD]
    refine et_lock (et_cmp (ev_sub (ev_var 2 rfl (ev_neg (ev_int ⟨_, rfl, _, sub_lst (at_lst1 (m := m) (by simp [intsD]) g1), ev_int ⟨_, c_eqI, fun h1 => ?_, fun h1 => ?_⟩⟩)))))
    · have h1 := of_decide_eq_true h1
      cases m with
      | zero => rw [B.1] at h1; exact absurd h1 (by decide)
      | succ m =>
        refine ss_one (s1_expr (ev_pop0 (epl_name 2 rfl ⟨0, intsD (m + 1) c, .int (c (m + 1)), rfl, ?_, .inl rfl, m, by omega, by omega, ?_, v, s3, s4, rfl⟩)))
        · exact congrArg PyData.list intsD_succ
        · rw [← hb, bl, if_pos h1]
    · have h1 := of_decide_eq_false h1
      have hbl : bl c m = m + 1 := by
        cases m with
        | zero => rfl
        | succ m => rw [bl, if_neg h1]
      refine ss_one (s1_ret (eg_callT1 G.tuple boot_tuple (ev_varZ 2 rfl ⟨_, q_tuple rfl, le_ok rfl, ?_⟩)))
      rw [← hb, hbl]
end
end KX
set_option Elab.async false
set_option linter.all false
set_option maxRecDepth 100000
set_option maxHeartbeats 8000000
set_option pp.maxSteps 600
namespace KX
open PySem PySem.Spec PyProof.Rows L2 DL GA
theorem tL_mk (n : Nat) (f : Nat → Nat → Int) : tL (mkT n f) = .list ((List.range n).map fun i => lrow ((List.range n).map fun j => f i j)) := by
  unfold tL mkT
  rw [List.map_map]; rfl
theorem mul_right {n : Nat} {T : List (List Int)} (k : Nat) : mkT n (mulF n (pw n (ent T) k) (ent T)) = mkT n (pw n (ent T) (k + 1)) := by
  refine mk_congr fun i j hi hj => ?_
  rw [← pw_add k 1 i j hi]
  exact sg_congr fun m _ => by rw [pw_one hj]
theorem enum_ints {n : Nat} {f : Nat → Int} : enumD (((List.range n).map f).map .int) = (List.range n).map fun (i : Nat) => .tuple [.int (i : Nat), .int (f i)] := by
  apply List.ext_getElem?
  intro i
  by_cases hi : i < n
  · rw [enumD_get (d := .int (f i)) (by simp [hi])]
    simp [hi]
  · rw [List.getElem?_eq_none (by rw [enumD_len]; simp; omega), List.getElem?_eq_none (by simp; omega)]
theorem enum_lrows {n : Nat} {f : Nat → Nat → Int} : enumD ((List.range n).map fun i => lrow ((List.range n).map fun j => f i j)) = (List.range n).map fun (i : Nat) => .tuple [.int (i : Nat), lrow ((List.range n).map fun j => f i j)] := by
  apply List.ext_getElem?
  intro i
  by_cases hi : i < n
  · rw [enumD_get (d := lrow ((List.range n).map fun j => f i j)) (by simp [hi])]
    simp [hi]
  · rw [List.getElem?_eq_none (by rw [enumD_len]; simp; omega), List.getElem?_eq_none (by simp; omega)]
/-- the told rounds' numbers, from the closed numbers -/
def MFor (c M : Nat → Int) : Prop := ∀ L, 1 ≤ L → c L = sg (divs L) fun d => d * M d
def part (M : Nat → Int) (L q : Nat) : Int := sg ((List.range q).filter fun d => decide (L % d = 0)) fun d => d * M d
theorem part_one {M : Nat → Int} {L : Nat} (h : 1 ≤ L) : part M L 1 = 0 := by
  unfold part
  have : (List.range 1).filter (fun d => decide (L % d = 0)) = [] := by
    simp [List.range_succ]; omega
  rw [this]; rfl
theorem part_yes {M : Nat → Int} {L q : Nat} (h : L % q = 0) : part M L (q + 1) = part M L q + q * M q := by
  unfold part
  rw [List.range_succ, List.filter_append, sg_app]
  have : (List.filter (fun d => decide (L % d = 0)) [q]) = [q] := by simp [h]
  rw [this, sg_cons, sg_nil, Int.add_zero]
theorem part_no {M : Nat → Int} {L q : Nat} (h : ¬ L % q = 0) : part M L (q + 1) = part M L q := by
  unfold part
  rw [List.range_succ, List.filter_append, sg_app]
  have : (List.filter (fun d => decide (L % d = 0)) [q]) = [] := by simp [h]
  rw [this, sg_nil, Int.add_zero]
theorem dec_mod (a b : Nat) : decide (((a : Nat) : Int) % ((b : Nat) : Int) = 0) = decide (a % b = 0) := by
  rw [decide_eq_decide]
  constructor
  · intro h; exact_mod_cast h
  · intro h; exact_mod_cast h
section
variable {P : Program} {w : World} {K : Fg} {mg : Str → Option Value} {base : Heap} (G : Fre mg)
include G
def S_lproduct : List D → D → Prop := fun ds d => ∃ n f M, Tbl n M ∧ Sm20 n M ∧ ds = [tL (mkT n f), tb M] ∧ d = tL (mkT n (mulF n f (ent M)))
abbrev n_law_product : List Str := ["_law_one", "_law_other", "_law_columns", "_law_j", "_law_row", "_law_column", "_law_x", "_law_y"]
omit G in
theorem nd_law_product : n_law_product.Nodup := by decide
theorem b_lproduct {k : Nat} {ds : List D} {d0 : D} (S : S_lproduct ds d0) : BodyP P w K mg base k n_law_product ["_law_one", "_law_other"] (top 37) 0 ds (fun d' => d' = d0) (fun _ _ => False) := by
  obtain ⟨n, g, M, hM, hs, rfl, rfl⟩ := S
  have b1 := hM.len
  have n1 := hM.n1
  have n8 := hM.n8
  intro qual f cdv A outer s H E
  conv in (occs := *) defScope _ => all_goals whnf
  conv in defBody _ => whnf
  intro hr
  show SS _ _ _ _ [.pv (tL (mkT n g)), .pv (tb M), .no, .no, .no, .no, .no, .no] _
  have er : rngD 0 (n : Nat) = (List.range n).map fun (j : Nat) => .int (j : Nat) := by rw [rngD_eq, List.map_map]; rfl
  refine ss_cons (s1_set 2 (eg_freeze (eg_lc (n := 0) (own := [("_law_j", 3)]) rfl nd_law_product (ei_range1 G.range (eg_callB1 G.len boot_len (ev_sub (ev_var 1 rfl (ev_int ⟨_, sub_tup (at_nat (i := 0) (row_get' hM n1)), _, q_len (ds := (row M 0).map .int) rfl, (n : Nat), by simp [row_len hM n1], by omega, by omega, ?_⟩))))) (blkOk_by (by rfl)))) nd_law_product)
  rw [er]
  refine lci_mapL (List.range n) (fun (j : Nat) => .int (j : Nat)) (fun j => lrow ((List.range n).map fun k => ent M k j)) rfl (by simp; omega) rfl ⟨lt_ok rfl, ?_⟩ fun j hj s H C cl fp => gt_name 3 nd_law_product (lt_ok rfl) fun s H C cl fp => ?_
  rotate_left
  · have hj := List.mem_range.mp hj
    refine eg_freeze (eg_lc (n := 0) (own := [("_law_row", 4)]) rfl nd_law_product (ei_seq (ev_var 1 rfl ⟨M.map rowD, rfl, ?_⟩)) (blkOk_by (by rfl)))
    refine lci_mapL (List.range n) (fun i => rowD (row M i)) (fun i => .int (ent M i j)) (tb_rows hM) (by simp; omega) rfl ⟨by simp only [lrow, List.map_map]; rfl, rfl⟩ fun i hi s H C cl fp => gt_name 4 nd_law_product (lt_ok rfl) fun s H C cl fp => ?_
    exact ev_sub (ev_var 4 rfl (ev_var 3 rfl ⟨_, sub_tup (at_nat (ent_get' hM (List.mem_range.mp hi) hj)), rfl, rfl⟩))
  show SS _ _ _ _ [.pv (tL (mkT n g)), .pv (tb M), .pv (.list ((List.range n).map fun j => lrow ((List.range n).map fun k => ent M k j))), .no, .no, .no, .no, .no] _
  refine ss_one (s1_ret (eg_freeze (eg_lc (n := 0) (own := [("_law_row", 4)]) rfl nd_law_product (ei_seq (ev_var 0 rfl ⟨(List.range n).map fun i => lrow ((List.range n).map fun j => g i j), by rw [tL_mk]; rfl, ?_⟩)) (blkOk_by (by rfl)))))
  refine lci_mapL (List.range n) (fun i => lrow ((List.range n).map fun j => g i j)) (fun i => lrow ((List.range n).map fun j => mulF n g (ent M) i j)) rfl (by simp; omega) rfl ⟨le_ok rfl, (tL_mk n _).symm⟩ fun i hi s H C cl fp => gt_name 4 nd_law_product (lt_ok rfl) fun s H C cl fp => ?_
  have hi := List.mem_range.mp hi
  refine eg_freeze (eg_lc (n := 0) (own := [("_law_column", 5)]) rfl nd_law_product (ei_seq (ev_var 2 rfl ⟨_, rfl, ?_⟩)) (blkOk_by (by rfl)))
  refine lci_mapL (List.range n) (fun j => lrow ((List.range n).map fun k => ent M k j)) (fun j => .int (mulF n g (ent M) i j)) rfl (by simp; omega) rfl ⟨by simp only [lrow, List.map_map]; rfl, rfl⟩ fun j hj s H C cl fp => gt_name 5 nd_law_product (lt_ok rfl) fun s H C cl fp => ?_
  have hj := List.mem_range.mp hj
  refine eg_callB1 G.sum boot_sum (eg_freeze (eg_lc (n := 0) (own := [("_law_x", 6), ("_law_y", 7)]) rfl nd_law_product (ei_zip G.zip (ev_var 4 rfl (ev_var 5 rfl ⟨_, _, .inl ⟨rfl, rfl⟩, ?_⟩))) (blkOk_by (by rfl))))
  rw [zip_ints]
  refine lci_mapL (List.range n) (fun k => .tuple [.int (g i k), .int (ent M k j)]) (fun k => .int (g i k * ent M k j)) rfl (by simp; omega) rfl ⟨_, q_sumR rfl, rfl, rfl⟩ fun k hk s H C cl fp => gt_tup rfl (gts_cons (gt_name 6 nd_law_product (lt_ok rfl) (gts_cons (gt_name 7 nd_law_product (lt_ok rfl) (gts_nil fun s H C cl fp => ?_)))))
  have hk := List.mem_range.mp hk
  have p1 := ent_pos hM k j
  have p2 := hs k j hk hj
  exact eg_bin (ev_var 6 rfl (ev_var 7 rfl ⟨_, b_mul (.inr ⟨by omega, by omega⟩), rfl, rfl⟩))
def S_lunit : List D → D → Prop := fun ds d => ∃ n : Nat, n ≤ 8 ∧ ds = [.int (n : Nat)] ∧ d = tL (mkT n fun i j => if i = j then 1 else 0)
abbrev n_law_unit : List Str := ["_law_n", "_law_i", "_law_j"]
omit G in
theorem nd_law_unit : n_law_unit.Nodup := by decide
theorem b_lunit {k : Nat} {ds : List D} {d0 : D} (S : S_lunit ds d0) : BodyP P w K mg base k n_law_unit ["_law_n"] (top 38) 0 ds (fun d' => d' = d0) (fun _ _ => False) := by
  obtain ⟨n, n8, rfl, rfl⟩ := S
  intro qual f cdv A outer s H E
  conv in (occs := *) defScope _ => all_goals whnf
  conv in defBody _ => whnf
  intro hr
  show SS _ _ _ _ [.pv (.int (n : Nat)), .no, .no] _
  have er : rngD 0 (n : Nat) = (List.range n).map fun (j : Nat) => .int (j : Nat) := by rw [rngD_eq, List.map_map]; rfl
  refine ss_one (s1_ret (eg_freeze (eg_lc (n := 0) (own := [("_law_i", 1)]) rfl nd_law_unit (ei_range1 G.range (ev_var 0 rfl ⟨(n : Nat), rfl, by omega, by omega, ?_⟩)) (blkOk_by (by rfl)))))
  refine lci_mapL (List.range n) (fun (j : Nat) => .int (j : Nat)) (fun i => lrow ((List.range n).map fun j => if i = j then 1 else 0)) er (by simp; omega) rfl ⟨le_ok rfl, (tL_mk n _).symm⟩ fun i hi s H C cl fp => gt_name 1 nd_law_unit (lt_ok rfl) fun s H C cl fp => ?_
  refine eg_freeze (eg_lc (n := 0) (own := [("_law_j", 2)]) rfl nd_law_unit (ei_range1 G.range (ev_var 0 rfl ⟨(n : Nat), rfl, by omega, by omega, ?_⟩)) (blkOk_by (by rfl)))
  refine lci_mapL (List.range n) (fun (j : Nat) => .int (j : Nat)) (fun j => .int (if i = j then 1 else 0)) er (by simp; omega) rfl ⟨by simp only [lrow, List.map_map]; rfl, rfl⟩ fun j hj s H C cl fp => gt_name 2 nd_law_unit (lt_ok rfl) fun s H C cl fp => ?_
  refine eg_callT1 G.int boot_int (ev_cmp (ev_var 1 rfl (ev_var 2 rfl ⟨_, c_eqI, _, q_boolI, ?_, rfl⟩)))
  congr 1
  by_cases h : i = j
  · subst h; simp
  · rw [if_neg h, if_neg (by simp; omega)]
def S_lclosed : List D → D → Prop := fun ds d => ∃ n T, ∃ m : Nat, Tbl n T ∧ Sm20 n T ∧ m ≤ 1000 ∧ ds = [tb T, .int (m : Nat)] ∧ d = .list (((List.range m).map fun k => tr n (ent T) (k + 1)).map .int)
def S_ltoldn : List D → D → Prop := fun ds d => ∃ c M, ∃ m : Nat, MFor c M ∧ m ≤ 1000 ∧ ds = [.list (((List.range m).map fun k => c (k + 1)).map .int)] ∧ d = .list (((List.range m).map fun k => M (k + 1)).map .int)
end
end KX
set_option Elab.async false
set_option linter.all false
set_option maxRecDepth 100000
set_option maxHeartbeats 1000000
/-! ### zip of a tuple and a list -/
namespace DLM
open PySem PySem.Spec PyProof.Rows L2 DL
def ItM (K : PySem.W.Frag) (a b : Addr) : It :=
  ⟨fun i H => ∃ (xs ys : List V) (x y : V), SqT K H a xs ∧ SqL K H b ys ∧ xs[i]? = some x ∧ ys[i]? = some y,
    fun i H v H' => ∃ T x y, v = .ref T ∧ H T = none ∧ H' = upd H T (.tup [x, y]) ∧ (∀ xs, SqT K H a xs → xs[i]? = some x) ∧ ∀ ys, SqL K H b ys → ys[i]? = some y,
    fun i H => ∃ xs ys : List V, SqT K H a xs ∧ SqL K H b ys ∧ i = min xs.length ys.length⟩
/-- the cells lie apart -/
structure ApM (z TI TO i1 i2 a b : Addr) : Prop where
  sep : ZipSep2 z TI TO i1 i2 [i1, a] [i2, b]
  a1 : a ≠ i1
  b2 : b ≠ i2
theorem turnM {P : Program} {w : World} {K : PySem.W.Frag} {elts : List Expr} {kk : Nat} {tpos : Pos} {a b z TI TO i1 i2 : Addr} (D : ApM z TI TO i1 i2 a b) :
    Turn P w K (.Tuple elts kk tpos) (ItM K a b) [z, TI, TO, i1, i2] z (fun i h => IsZip h z TI TO .none ∧ IsTupOf2 h TI (.ref i1) (.ref i2) ∧ (∃ x y, IsTupOf2 h TO x y) ∧ h.IsTupleIter i1 a i ∧ h.IsListIter i2 b i) where
  mem := by simp
  obj := fun i h st c hc => by
    obtain ⟨hz, hTI, ⟨x, y, hTO⟩, ⟨o1, e1, _, d1⟩, ⟨o2, e2, _, d2⟩⟩ := st
    have e' : c = z ∨ c = TI ∨ c = TO ∨ c = i1 ∨ c = i2 := by simpa using hc
    rcases e' with q | q | q | q | q
    · rw [q]; exact ⟨_, hz, fun v q => nomatch q⟩
    · rw [q]; exact ⟨_, hTI, fun v q => nomatch q⟩
    · rw [q]; exact ⟨_, hTO, fun v q => nomatch q⟩
    · rw [q]; exact ⟨o1, e1, fun v q => by rw [d1] at q; cases q⟩
    · rw [q]; exact ⟨o2, e2, fun v q => by rw [d2] at q; cases q⟩
  keep := fun i h h' st k => by
    obtain ⟨hz, hTI, ⟨x, y, hTO⟩, h1, h2⟩ := st
    exact ⟨k z (by simp) _ hz, k TI (by simp) _ hTI, ⟨x, y, k TO (by simp) _ hTO⟩, h1.at fun o q => k i1 (by simp) o q, h2.at fun o q => k i2 (by simp) o q⟩
  item := by
    intro X hP hw hK hc i pins s σ H E I hf st hg
    subst hP hw hK
    obtain ⟨xs, ys, x, y, hqx, hqy, hx, hy⟩ := hg
    obtain ⟨its, rv, p, _⟩ := I.tuple hqx
    obtain ⟨its2, rv2, p2, _⟩ := I.list hqy
    obtain ⟨u, hu, ru⟩ := rv.get hx
    obtain ⟨u2, hu2, ru2⟩ := rv2.get hy
    have hh : X.A.in1.handled = none := I.ok.hd hc
    have Dr1 := Draws.tuple (prog := X.prog) (w := X.w) hh i1 a D.a1 its.toArray
    have Dr2 := Draws.list (prog := X.prog) (w := X.w) hh i2 b D.b2 its2.toArray
    have Gz := GoesN.zip2 (elts := elts) (x1 := kk) (pos := tpos) D.sep Dr1 Dr2
    have hlt : i < min its.toArray.size its2.toArray.size := by
      have h1 := (List.getElem?_eq_some_iff.mp hu).1
      have h2 := (List.getElem?_eq_some_iff.mp hu2).1
      simp only [List.size_toArray]
      omega
    have sz : ∀ c ∈ [z, TI, TO, i1, i2], c < s.heap.objs.size := fun c hcm => by
      obtain ⟨hz, hTI, ⟨x0, y0, hTO⟩, ⟨o1, e1, _⟩, ⟨o2, e2, _⟩⟩ := st
      have e' : c = z ∨ c = TI ∨ c = TO ∨ c = i1 ∨ c = i2 := by simpa using hcm
      rcases e' with q | q | q | q | q
      · rw [q]; exact Heap.lt_size hz
      · rw [q]; exact Heap.lt_size hTI
      · rw [q]; exact Heap.lt_size hTO
      · rw [q]; exact Heap.lt_size e1
      · rw [q]; exact Heap.lt_size e2
    refine Gz.goes i s (fun u s2 => ∃ x H', Inv X pins σ H' s2 ∧ RelV x u ∧ (ItM X.K a b).yld i H x H' ∧ (IsZip s2.heap z TI TO .none ∧ IsTupOf2 s2.heap TI (.ref i1) (.ref i2) ∧ (∃ x y, IsTupOf2 s2.heap TO x y) ∧ s2.heap.IsTupleIter i1 a (i + 1) ∧ s2.heap.IsListIter i2 b (i + 1)) ∧ ∀ b ∈ [z, TI, TO, i1, i2], H' b = none) E hlt
      ⟨st.1, st.2.1, st.2.2.1, ⟨st.2.2.2.1, p⟩, ⟨st.2.2.2.2, p2.isList⟩⟩ ?_
    rintro v h' tk ⟨T, x', y', rfl, hT, hx', hy', hTt⟩ ⟨q1, q2, q3, ⟨q4, _⟩, ⟨q5, _⟩⟩ hk htk
    have ex : x' = u := by
      have : its.toArray[i]? = some x' := hx'
      rw [List.getElem?_toArray, hu] at this
      exact (Option.some.inj this).symm
    have ey : y' = u2 := by
      have : its2.toArray[i]? = some y' := hy'
      rw [List.getElem?_toArray, hu2] at this
      exact (Option.some.inj this).symm
    subst ex
    subst ey
    obtain ⟨oT, t1, t2, nT, t3⟩ := hTt
    have new : ObjOk X.prog X.w (upd H T (.tup [x, y])) h' T (.tup [x, y]) :=
      ⟨by show 2 ≤ sizeLine; decide, [x', y'], .cons ru (.cons ru2 .nil), ⟨oT, t1, t2, nT, t3⟩⟩
    have I1 : Inv X pins σ (upd H T (.tup [x, y])) { s with heap := h', toks := tk } :=
      I.turnedNew (t' := tk) (ch := [z, TI, TO, i1, i2]) (fun c o hb q => hk c o (fun q' => hb (by
        have : c = z ∨ c = TO ∨ c = i1 ∨ c = i2 := by simpa using q'
        rcases this with rfl | rfl | rfl | rfl <;> simp)) q) hf hT new
    refine ⟨.ref T, _, I1, rfl, ⟨_, x, y, rfl, I.hok.fresh hT, rfl, fun l hl => by rw [I.tuple_inj hl hqx]; exact hx, fun l hl => by rw [I.list_inj hl hqy]; exact hy⟩, ⟨q1, q2, q3, q4, q5⟩, fun c hcm => ?_⟩
    rw [upd_ne (Nat.ne_of_lt (Nat.lt_of_lt_of_le (sz c hcm) hT))]
    exact (hf c hcm).1
  done := by
    intro X hP hw hK hc i pins s σ H E I hf st hg
    subst hP hw hK
    obtain ⟨xs, ys, hqx, hqy, hend⟩ := hg
    obtain ⟨its, rv, p, _⟩ := I.tuple hqx
    obtain ⟨its2, rv2, p2, _⟩ := I.list hqy
    have hh : X.A.in1.handled = none := I.ok.hd hc
    have Dr1 := Draws.tuple (prog := X.prog) (w := X.w) hh i1 a D.a1 its.toArray
    have Dr2 := Draws.list (prog := X.prog) (w := X.w) hh i2 b D.b2 its2.toArray
    have Gz := GoesN.zip2 (elts := elts) (x1 := kk) (pos := tpos) D.sep Dr1 Dr2
    have l1 := rv.length
    have l2 := rv2.length
    have ei : i = min its.toArray.size its2.toArray.size := by simp only [List.size_toArray]; omega
    subst ei
    refine Gz.stops s (fun s1 => Inv X pins σ H s1) E ⟨st.1, st.2.1, st.2.2.1, ⟨st.2.2.2.1, p⟩, ⟨st.2.2.2.2, p2.isList⟩⟩ fun h' tk hk htk => ?_
    exact I.turnedL (t' := tk) (ch := [z, TI, TO, i1, i2]) (fun c o hb q => hk c o (fun q' => hb (by
      have : c = z ∨ c = TO ∨ c = i1 ∨ c = i2 := by simpa using q'
      rcases this with rfl | rfl | rfl | rfl <;> simp)) q) hf
  self := fun A i s Q E st h => wpAny_pyIter_zip st.1 h
def iZipM (K : PySem.W.Frag) (ta : TA) : TI := fun σ H R => ta σ H fun vs H1 => ∃ a b xs ys, vs = [.ref a, .ref b] ∧ SqT K H1 a xs ∧ SqL K H1 b ys ∧ R (ItM K a b) H1
theorem pi_zipM {X : Cx} {e e2 : Expr} {ta : TA} {p pos tpos : Pos} {elts : List Expr} {kk : Nat} (hg : Gl X "zip") (hm : X.mg "zip" = none) (ha : PA X [e, e2] ta)
    (hs : starEach [e, e2] X.env = (false, eval e X.env) :: starEach [e2] X.env := by rfl) (hpl : (backTo pos (starEach [e2] X.env)).any (·.1) = false := by rfl) :
    PI X (.Tuple elts kk tpos) (.Call (.Name "zip" p) [e, e2] [] pos) (iZipM X.K ta) := by
  refine ⟨fun pins s σ H R I h => ?_⟩
  refine Call_ (ld_blt I hg hm PyProof.Rows.boot_zip (PyProof.Rows.callWith_type1 (thn (ha.run pos pins s σ H _ I h) fun us s1 ⟨vs, H1, I1, r1, q1⟩ => ?_) hs hpl))
  obtain ⟨a, b, xs, ys, ex, hqx, hqy, q⟩ := q1
  subst ex
  cases r1 with
  | cons r rr =>
    cases rr with
    | cons r' rr =>
      cases rr
      cases r
      cases r'
      obtain ⟨its, rv, p1, _⟩ := I1.tuple hqx
      obtain ⟨its2, rv2, p2, _⟩ := I1.list hqy
      obtain ⟨o1, ho1, _⟩ := id p1
      have la : a < s1.heap.objs.size := Heap.lt_size ho1
      have lb : b < s1.heap.objs.size := p2.lt
      have fresh5 : ∀ c, c ∈ [s1.heap.objs.size + 4, s1.heap.objs.size + 2, s1.heap.objs.size + 3, s1.heap.objs.size, s1.heap.objs.size + 1] → FpOk X pins H1 c := fun c hcm => by
        have e' : c = s1.heap.objs.size + 4 ∨ c = s1.heap.objs.size + 2 ∨ c = s1.heap.objs.size + 3 ∨ c = s1.heap.objs.size ∨ c = s1.heap.objs.size + 1 := by simpa using hcm
        have hle : s1.heap.objs.size ≤ c := by
          rcases e' with z | z | z | z | z
          · rw [z]; exact Nat.le_add_right _ _
          · rw [z]; exact Nat.le_add_right _ _
          · rw [z]; exact Nat.le_add_right _ _
          · rw [z]; exact Nat.le_refl _
          · rw [z]; exact Nat.le_add_right _ _
        exact I1.fpOk hle (I1.hok.fresh hle)
      refine zip_begins2 (begins_tuple a its.toArray) (begins_list b its2.toArray) p1 p2.isList fun h' hz hTI hTO h1 h2 hsz hk => wpAny_pyIter_zip hz ?_
      have I2 : Inv X pins σ H1 { s1 with heap := h' } := I1.kept (t' := s1.toks) hk
      refine ⟨s1.heap.objs.size + 4, [s1.heap.objs.size + 4, s1.heap.objs.size + 2, s1.heap.objs.size + 3, s1.heap.objs.size, s1.heap.objs.size + 1], _, _, H1, rfl, I2, turnM ⟨zip_sep2 (fp1 := [a]) (fp2 := [b]) (fun c hc => by rw [List.mem_singleton.mp hc]; exact la) (fun c hc => by rw [List.mem_singleton.mp hc]; exact lb), Nat.ne_of_lt la, Nat.ne_of_lt (Nat.lt_of_lt_of_le lb (Nat.le_succ _))⟩, ⟨hz, hTI, ⟨_, _, hTO⟩, ⟨_, h1, rfl, rfl⟩, ⟨_, h2, rfl, rfl⟩⟩, fresh5, q⟩
section
variable {K : Fg} {H0 : Hp} {a b : Addr} {xs ys : List V} {ds es : List D}
theorem src_zipM (h : TupZ K H0 a xs) (r : RepAll K H0 xs ds) (h' : LstZ K H0 b ys) (r' : RepAll K H0 ys es) : Src K (ItM K a b) (zipD ds es) H0 where
  goes := fun i H z hi => by
    rw [zipD_len] at hi
    obtain ⟨x, e⟩ := lt_get (l := xs) (i := i) (by rw [r.length]; omega)
    obtain ⟨y, e'⟩ := lt_get (l := ys) (i := i) (by rw [r'.length]; omega)
    exact ⟨xs, ys, x, y, (h.mono z).sq, (h'.mono z).sq, e, e'⟩
  stops := fun H z => ⟨xs, ys, (h.mono z).sq, (h'.mono z).sq, by rw [zipD_len, r.length, r'.length]⟩
  yields := fun i H v H' z hi y => by
    obtain ⟨T, x, w, rfl, e1, e2, y1, y2⟩ := y
    obtain ⟨d, h1, h2⟩ := r.get (y1 xs (h.mono z).sq)
    obtain ⟨e, h3, h4⟩ := r'.get (y2 ys (h'.mono z).sq)
    obtain ⟨q1, q2⟩ := new_pair e1 e2 (h2.mono z) (h4.mono z)
    exact ⟨_, zipD_get h1 h3, q1, q2⟩
end
section
variable {X : Cx} {R : XP} {W : WX} {Γ : Gam} {a b : Expr} {pos p : Pos}
theorem ei_zipM {es : List Expr} {k0 : Nat} {tpos : Pos} {P : List D → Gam → Prop} (hm : X.mg "zip" = none) (h : EV X R a Γ fun d Γ1 => EV X R b Γ1 fun d2 Γ2 => ∃ ds es, d = .tuple ds ∧ d2 = .list es ∧ P (zipD ds es) Γ2) (hg : Gl X "zip" := by rfl)
    (hs : starEach [a, b] X.env = (false, eval a X.env) :: starEach [b] X.env := by rfl) (hs2 : starEach [b] X.env = [(false, eval b X.env)] := by rfl) (hpl : (backTo pos (starEach [b] X.env)).any (·.1) = false := by rfl) :
    EI X R (.Tuple es k0 tpos) (.Call (.Name "zip" p) [a, b] [] pos) Γ P := fun W tk =>
  pi_weak (pi_zipM hg hm (pa_cons (pe_any (n := 0) tk) (pa_cons (pe_any (n := 0) tk) pa_nil hs2) hs) hs hpl) fun σ H Q ⟨fp, hE, k, x⟩ => Any.go h hE x (Kt.of0 fun v d Γ1 H1 fp1 h1 r E1 f1 =>
    Any.go h1 E1 (x.trans f1) (Kt.of0 fun v2 d2 Γ2 H2 fp2 ⟨ds, es, e1, e2, q⟩ r2 E2 f2 => by
      have r := r.mono f2.ez
      subst e1
      subst e2
      cases r with
      | tup z1 z2 =>
        cases r2 with
        | lst y1 y2 => exact ⟨_, _, _, _, rfl, z1.sq, y1.sq, k _ _ Γ2 H2 fp2 q (src_zipM z1 z2 y1 y2) E2 (f1.trans f2)⟩))
end
end DLM
set_option Elab.async false
set_option linter.all false
set_option maxRecDepth 100000
set_option maxHeartbeats 8000000
set_option pp.maxSteps 600
namespace KX
open PySem PySem.Spec PyProof.Rows L2 DL GA
/-- rows as lists or as tuples -/
def XD (t : Bool) (r : List Int) : D := if t then rowD r else lrow r
def XT (t : Bool) (R : List (List Int)) : D := if t then tb R else tL R
theorem XT_mk (t : Bool) (n : Nat) (f : Nat → Nat → Int) : walkD (XT t (mkT n f)) = some ((List.range n).map fun i => XD t ((List.range n).map fun j => f i j)) := by
  cases t
  · show walkD (tL _) = _
    rw [tL_mk]; rfl
  · show walkD (tb _) = _
    rw [tb_mk]; rfl
section
variable {P : Program} {w : World} {K : Fg} {mg : Str → Option Value} {base : Heap} (G : Fre mg)
include G
def S_lprodG : List D → D → Prop := fun ds d => ∃ n t f M, Tbl n M ∧ (∀ i j k, i < n → j < n → k < n → (f i k).natAbs.log2 + (ent M k j).natAbs.log2 < 1000000) ∧ ds = [XT t (mkT n f), tb M] ∧ d = tL (mkT n (mulF n f (ent M)))
theorem b_lprodG {k : Nat} {ds : List D} {d0 : D} (S : S_lprodG ds d0) : BodyP P w K mg base k n_law_product ["_law_one", "_law_other"] (top 37) 0 ds (fun d' => d' = d0) (fun _ _ => False) := by
  obtain ⟨n, t, g, M, hM, hs, rfl, rfl⟩ := S
  have b1 := hM.len
  have n1 := hM.n1
  have n8 := hM.n8
  generalize hX : XT t (mkT n g) = X0
  have hX := hX ▸ XT_mk t n g
  intro qual f cdv A outer s H E
  conv in (occs := *) defScope _ => all_goals whnf
  conv in defBody _ => whnf
  intro hr
  show SS _ _ _ _ [.pv X0, .pv (tb M), .no, .no, .no, .no, .no, .no] _
  have er : rngD 0 (n : Nat) = (List.range n).map fun (j : Nat) => .int (j : Nat) := by rw [rngD_eq, List.map_map]; rfl
  refine ss_cons (s1_set 2 (eg_freeze (eg_lc (n := 0) (own := [("_law_j", 3)]) rfl nd_law_product (ei_range1 G.range (eg_callB1 G.len boot_len (ev_sub (ev_var 1 rfl (ev_int ⟨_, sub_tup (at_nat (i := 0) (row_get' hM n1)), _, q_len (ds := (row M 0).map .int) rfl, (n : Nat), by simp [row_len hM n1], by omega, by omega, ?_⟩))))) (blkOk_by (by rfl)))) nd_law_product)
  rw [er]
  refine lci_mapL (List.range n) (fun (j : Nat) => .int (j : Nat)) (fun j => lrow ((List.range n).map fun k => ent M k j)) rfl (by simp; omega) rfl ⟨lt_ok rfl, ?_⟩ fun j hj s H C cl fp => gt_name 3 nd_law_product (lt_ok rfl) fun s H C cl fp => ?_
  rotate_left
  · have hj := List.mem_range.mp hj
    refine eg_freeze (eg_lc (n := 0) (own := [("_law_row", 4)]) rfl nd_law_product (ei_seq (ev_var 1 rfl ⟨M.map rowD, rfl, ?_⟩)) (blkOk_by (by rfl)))
    refine lci_mapL (List.range n) (fun i => rowD (row M i)) (fun i => .int (ent M i j)) (tb_rows hM) (by simp; omega) rfl ⟨by simp only [lrow, List.map_map]; rfl, rfl⟩ fun i hi s H C cl fp => gt_name 4 nd_law_product (lt_ok rfl) fun s H C cl fp => ?_
    exact ev_sub (ev_var 4 rfl (ev_var 3 rfl ⟨_, sub_tup (at_nat (ent_get' hM (List.mem_range.mp hi) hj)), rfl, rfl⟩))
  show SS _ _ _ _ [.pv X0, .pv (tb M), .pv (.list ((List.range n).map fun j => lrow ((List.range n).map fun k => ent M k j))), .no, .no, .no, .no, .no] _
  refine ss_one (s1_ret (eg_freeze (eg_lc (n := 0) (own := [("_law_row", 4)]) rfl nd_law_product (ei_seq (ev_var 0 rfl ⟨_, hX, ?_⟩)) (blkOk_by (by rfl)))))
  refine lci_mapL (List.range n) (fun i => XD t ((List.range n).map fun j => g i j)) (fun i => lrow ((List.range n).map fun j => mulF n g (ent M) i j)) rfl (by simp; omega) rfl ⟨le_ok rfl, (tL_mk n _).symm⟩ fun i hi s H C cl fp => gt_name 4 nd_law_product (lt_ok rfl) fun s H C cl fp => ?_
  have hi := List.mem_range.mp hi
  refine eg_freeze (eg_lc (n := 0) (own := [("_law_column", 5)]) rfl nd_law_product (ei_seq (ev_var 2 rfl ⟨_, rfl, ?_⟩)) (blkOk_by (by rfl)))
  refine lci_mapL (List.range n) (fun j => lrow ((List.range n).map fun k => ent M k j)) (fun j => .int (mulF n g (ent M) i j)) rfl (by simp; omega) rfl ⟨by simp only [lrow, List.map_map]; rfl, rfl⟩ fun j hj s H C cl fp => gt_name 5 nd_law_product (lt_ok rfl) fun s H C cl fp => ?_
  have hj := List.mem_range.mp hj
  cases t
  · refine eg_callB1 G.sum boot_sum (eg_freeze (eg_lc (n := 0) (own := [("_law_x", 6), ("_law_y", 7)]) rfl nd_law_product (ei_zip G.zip (ev_var 4 rfl (ev_var 5 rfl ⟨_, _, .inl ⟨rfl, rfl⟩, ?_⟩))) (blkOk_by (by rfl))))
    rw [zip_ints]
    refine lci_mapL (List.range n) (fun k => .tuple [.int (g i k), .int (ent M k j)]) (fun k => .int (g i k * ent M k j)) rfl (by simp; omega) rfl ⟨_, q_sumR rfl, rfl, rfl⟩ fun k hk s H C cl fp => gt_tup rfl (gts_cons (gt_name 6 nd_law_product (lt_ok rfl) (gts_cons (gt_name 7 nd_law_product (lt_ok rfl) (gts_nil fun s H C cl fp => ?_)))))
    exact eg_bin (ev_var 6 rfl (ev_var 7 rfl ⟨_, b_mulW (hs i j k hi hj (List.mem_range.mp hk)), rfl, rfl⟩))
  · refine eg_callB1 G.sum boot_sum (eg_freeze (eg_lc (n := 0) (own := [("_law_x", 6), ("_law_y", 7)]) rfl nd_law_product (DLM.ei_zipM G.zip (ev_var 4 rfl (ev_var 5 rfl ⟨_, _, rfl, rfl, ?_⟩))) (blkOk_by (by rfl))))
    rw [zip_ints]
    refine lci_mapL (List.range n) (fun k => .tuple [.int (g i k), .int (ent M k j)]) (fun k => .int (g i k * ent M k j)) rfl (by simp; omega) rfl ⟨_, q_sumR rfl, rfl, rfl⟩ fun k hk s H C cl fp => gt_tup rfl (gts_cons (gt_name 6 nd_law_product (lt_ok rfl) (gts_cons (gt_name 7 nd_law_product (lt_ok rfl) (gts_nil fun s H C cl fp => ?_)))))
    exact eg_bin (ev_var 6 rfl (ev_var 7 rfl ⟨_, b_mulW (hs i j k hi hj (List.mem_range.mp hk)), rfl, rfl⟩))
def S_ltableT : List D → D → Prop := fun ds d => ∃ n f, n ≤ 8 ∧ ds = [tL (mkT n f)] ∧ d = tb (mkT n f)
abbrev n_law_table : List Str := ["_law_rows", "_law_row"]
omit G in
theorem nd_law_table : n_law_table.Nodup := by decide
theorem b_ltableT {k : Nat} {ds : List D} {d0 : D} (S : S_ltableT ds d0) : BodyP P w K mg base k n_law_table ["_law_rows"] (top 40) 0 ds (fun d' => d' = d0) (fun _ _ => False) := by
  obtain ⟨n, f0, n8, rfl, rfl⟩ := S
  intro qual f cdv A outer s H E
  conv in (occs := *) defScope _ => all_goals whnf
  conv in defBody _ => whnf
  intro hr
  show SS _ _ _ _ [.pv (tL (mkT n f0)), .no] _
  refine ss_one (s1_ret (eg_callT1 G.tuple boot_tuple (eg_freeze (eg_lc (n := 0) (own := [("_law_row", 1)]) rfl nd_law_table (ei_seq (ev_var 0 rfl ⟨_, by rw [tL_mk]; rfl, ?_⟩)) (blkOk_by (by rfl))))))
  refine lci_mapL (List.range n) (fun i => lrow ((List.range n).map fun j => f0 i j)) (fun i => rowD ((List.range n).map fun j => f0 i j)) rfl (by simp; omega) rfl ⟨_, q_tuple rfl, le_ok rfl, (tb_mk n _).symm⟩ fun i hi s H C cl fp => gt_name 1 nd_law_table (lt_ok rfl) fun s H C cl fp => ?_
  exact eg_callT1 G.tuple boot_tuple (ev_var 1 rfl ⟨_, q_tuple rfl, rfl, rfl⟩)
def S_bottom_of (CW : Addr) : List D → Out → Prop := fun ds o => ∃ n T c, Web n T ∧ Sm20 n T ∧ Bot n (ent T) c ∧ ds = [tb T] ∧ o = .ret (.tuple (intsD (bl c n) c))
abbrev n_bottom_of : List Str := ["web"]
omit G in
theorem nd_bottom_of : n_bottom_of.Nodup := by decide
theorem b_bottom_of {CW : Addr} (F1 : Df P w K mg base 6 "need_web" (top 23) ["web"] 0 (pfo (S_need_web CW))) (F2 : Df P w K mg base 3 "bottom_polynomial" (top 14) ["table"] 0 (pfs S_bottom))
    {k : Nat} (hk : 6 ≤ k) {ds : List D} {o : Out} (S : S_bottom_of CW ds o) : BodyP P w K mg base k n_bottom_of ["web"] (top 30) 0 ds (fun d' => o = .ret d') (fun C fs => o = .exn C fs) := by
  obtain ⟨n, T, c, hw, hs, B, rfl, rfl⟩ := S
  intro qual f cdv A outer s H E
  conv in (occs := *) defScope _ => all_goals whnf
  conv in defBody _ => whnf
  intro hr
  show SS _ _ _ _ [.pv (tb T)] _
  refine ss_cons (s1_expr (eg_callSX F1 hr hk (ev_var 0 rfl ⟨rfl, .inl ⟨_, need_ok hw (ok_tb hw.tbl), ?_⟩⟩) ⟨rfl, trivial⟩))
  exact ss_one (s1_ret (eg_callS F2 hr (by omega) (ev_var 0 rfl ⟨rfl, _, ⟨n, T, c, hw.tbl, hs, B, rfl, rfl⟩, le_ok rfl, rfl⟩) ⟨rfl, trivial⟩))
end
end KX
set_option Elab.async false
set_option linter.all false
set_option maxRecDepth 100000
set_option maxHeartbeats 2000000
namespace L2
open PySem PySem.Spec PyProof.Rows
/-! ### several except clauses, with names or without -/
abbrev ClX : Type := Value × Option Nat × (Addr → Value → Option Addr → TS)
/-- what the clauses wish of an exception of the body -/
def wMix (K : PySem.W.Frag) (Wout : WX) (D : Ends) : List ClX → WX
  | [] => Wout
  | (c, o, ts) :: r => fun cls d σ H => ∃ b, PySem.W.exmOne K cls c = some b ∧ (b = true → ∀ a, H a = none → match o with
    | none => ts a cls d D σ H
    | some i => ts a cls d { nx := fun σ' H' => D.nx (σ'.set i none) H', rt := D.rt, bk := fun σ' H' => D.bk (σ'.set i none) H', ct := fun σ' H' => D.ct (σ'.set i none) H' } (σ.set i (some (.ref a))) H) ∧ (b = false → wMix K Wout D r cls d σ H)
inductive HdM (X : Cx) : List ExceptHandler → List ClX → Prop
  | nil : HdM X [] []
  | pl {x : Str} {c : Value} {ts : Addr → Value → Option Addr → TS} {b₀ : Stmt} {suite : List Stmt} {np pos' : Pos} {hds : List ExceptHandler} {l : List ClX} (hc : Names X x c)
      (hsu : ∀ (a : Addr) (oe : Obj) (cls : Value) (d : Option Addr) (pn : List (Addr × Obj)), Zc cls d oe → (∃ vs, oe.data = .fields vs) → PSs (X.suite a ((a, oe) :: pn)) (b₀ :: suite) (ts a cls d)) (r : HdM X hds l) :
      HdM X (.ExceptHandler (some (.Name x np)) none (b₀ :: suite) pos' :: hds) ((c, none, ts) :: l)
  | as {x n : Str} {c : Value} {i : Nat} {ts : Addr → Value → Option Addr → TS} {b₀ : Stmt} {suite : List Stmt} {np pos' : Pos} {hds : List ExceptHandler} {l : List ClX} (hc : Names X x c) (hi : X.N[i]? = some n) (hln : X.env.kindOf n = some .local)
      (hsu : ∀ (a : Addr) (oe : Obj) (cls : Value) (d : Option Addr) (pn : List (Addr × Obj)), Zc cls d oe → (∃ vs, oe.data = .fields vs) → PSs (X.suite a ((a, oe) :: pn)) (b₀ :: suite) (ts a cls d)) (r : HdM X hds l) :
      HdM X (.ExceptHandler (some (.Name x np)) (some n) (b₀ :: suite) pos' :: hds) ((c, some i, ts) :: l)
section
variable {X : Cx} {body : List Stmt} {h₀ : ExceptHandler} {hds : List ExceptHandler} {l : List ClX} {pos : Pos} {tb : WX → TS} {Wout : WX}
theorem ps_try_mix (hs : X.stack = X.env :: X.outer) (hf : X.env.frame = some X.env.locals) (hN : X.N.Nodup) (tk : Takes X Wout)
    (hb : ∀ (W : WX) (pn : List (Addr × Obj)) (xe : Value → Shared → Prop), Takes (X.tr pn xe) W → PassesOwn (model X.prog X.w) X.A X.env xe → PSs (X.tr pn xe) body (tb W))
    (hh : HdM X (h₀ :: hds) l) : PS X (.Try body (h₀ :: hds) [] [] pos) (fun D σ H => tb (wMix X.K Wout D l) D σ H) := by
  refine ⟨fun pins s σ H D I h => ?_⟩
  have ok := I.ok
  have hfr : X.A.frames = some (X.env :: X.outer) := by rw [ok.frames, hs]
  refine wpAny_Try_except ?_
  refine wpAny_mono ((hb (wMix X.K Wout D l) (X.pn ++ pins) (fun e s₁ => wpAny (model X.prog X.w) X.A (noteFrame e X.env) (fun _ s₂ => wpAny (model X.prog X.w) X.A (setFlight e none) (fun _ s₃ =>
    wpAny (model X.prog X.w) X.A (handleBy e X.env (h₀ :: hds)) (SP X pins D) X.xe s₃) X.xe s₂) X.xe s₁) (fun u s' xx => ?_) PassesOwn.looking).run [] s σ H D (I.toTry _) h) (fun f s1 hsp => ?_) (fun e s1 he => he)
  · obtain ⟨a, B, sI, pins', σ', H', cls, d, rfl, J', nb, up, sky, na, os, ag, w⟩ := xx
    have J : Inv X pins σ' H' sI := J'.ofTry ok
    have sky' : Sky B (X.env :: X.outer) a (Zc cls d) X.env.locals s'.heap := by rw [← hs]; exact sky
    show wpAny (model X.prog X.w) X.A (noteFrame (.ref a) X.env) _ _ _
    refine Sky.land Zc.steady hfr hf sky' fun h3 fl3 up3 => ?_
    have J3 : Inv X pins σ' H' { s' with heap := h3 } := J.landed nb fl3.1 (up.trans up3) os ag
    obtain ⟨oe3, vs3, he3, hz3, hd3⟩ := fl3.there
    have notFr : ∀ {h : Heap} {o : Obj} {vs : Array Value}, h.FunFrames B (X.env :: X.outer) → h.get? a = some o → o.data = .fields vs → a ∉ frs (X.env :: X.outer) := fun {h o vs} ff e dd hm => by
      obtain ⟨_, o', e', hnf⟩ := ff.mem hm
      rw [e] at e'; cases e'
      exact hnf _ dd
    have nfr := notFr fl3.2.2.1 he3 hd3
    have nL : a ≠ X.env.locals := fun z => nfr (List.mem_filterMap.mpr ⟨X.env, List.mem_cons_self, by rw [hf, z]⟩)
    have nF : a ∉ X.fs := fun hm => by
      obtain ⟨e, he, q⟩ := List.mem_filterMap.mp hm
      exact nfr (List.mem_filterMap.mpr ⟨e, List.mem_cons_of_mem _ he, q⟩)
    have S3 := J3.suite he3 hd3 na nL nF
    have LT : PySem.W.Looks (model X.prog X.w) h3 (typeOf (.ref a)) cls := fun A Q E s k q => wpAny_typeOf_ref (k _ _ he3) (by rw [hz3.1]; exact q)
    have test : ∀ {x : Str} {c : Value} {np : Pos} {Q : Value → Shared → Prop} {E : Value → Shared → Prop}, Names X x c → Q c { s' with heap := h3 } → wpAny (model X.prog X.w) (X.A.mark (some (.ref a))) (eval (.Name x np) X.env) Q E { s' with heap := h3 } := fun {x c np Q E} hc q => by
      obtain ⟨hg, hdbg, hm | ⟨hm, hv, hnn⟩⟩ := hc
      · exact ld_glob (X := X.suite a ((a, oe3) :: (X.pn ++ pins))) S3 hg hm q hdbg
      · exact ld_blt (X := X.suite a ((a, oe3) :: (X.pn ++ pins))) S3 hg hm hv q hnn hdbg
    have go : ∀ {hds' : List ExceptHandler} {l' : List ClX}, HdM X hds' l' → wMix X.K Wout D l' cls d σ' H' →
        wpAny (model X.prog X.w) X.A (handleBy (.ref a) X.env hds') (SP X pins D) X.xe { s' with heap := h3 } := by
      intro hds' l' hk
      induction hk with
      | nil =>
        intro w
        refine wpAny_handleBy_nil ?_
        obtain ⟨k1, k2, k3, oe, vs, T, oT, ts', he, hz, hd, h1, hr⟩ := id fl3
        unfold PySem.passOn
        refine wpAny_bind (wpAny_field he hd h1 ?_)
        rw [if_neg (show ¬ ((Value.ref T == Value.none) = true) from by simp)]
        have fin : wpAny (model X.prog X.w) X.A (setFlight (.ref a) X.env.frame) (fun _ s4 => wpAny (model X.prog X.w) X.A (throw (.ref a) : Sem Flow) (SP X pins D) X.xe s4) X.xe { s' with heap := h3 } := by
          rw [hf]
          refine HandSPX.setFlight_upZ fl3 fun h4 hh4 up4 => wpAny_throw (tk _ _ ?_)
          exact ⟨a, B, sI, pins, σ', H', cls, d, rfl, J, nb, (up.trans up3).trans up4, .inr (.inr (by rw [hs]; exact hh4)), na, os, ag, w⟩
        first
          | exact wpAny_bind (wpAny_pure (wpAny_bind fin))
          | exact wpAny_bind fin
      | @pl x c ts b₀ suite np pos' hds2 l2 hc hsu r ih =>
        intro w
        obtain ⟨b, hb1, hyes, hno⟩ := w
        refine wpAny_handleBy_cons (codeAny_handlers_test ?_) (by intro q; cases q)
        have LM := PySem.W.exm_one (M := model X.prog X.w) (J3.kIn) LT hb1
        refine test hc (LM.here ?_)
        cases b with
        | true =>
          refine codeAny_handlers_suite ?_
          refine HandSPX.lands_againZ fl3 fun h4 fl4 up4 => ?_
          have J4 : Inv X pins σ' H' { s' with heap := h4 } := J.landed nb fl4.1 ((up.trans up3).trans up4) os ag
          obtain ⟨oe4, vs4, he4, hz4, hd4⟩ := fl4.there
          have S4 := J4.suite he4 hd4 na nL nF
          refine wpAny_mono ((hsu a oe4 cls d (X.pn ++ pins) hz4 ⟨_, hd4⟩).run [] _ _ H' _ S4 (hyes rfl a na)) (fun f s6 hsp => ?_) (fun _ _ z => False.elim z)
          cases f with
          | next => obtain ⟨σ6, H6, S6, q6⟩ := hsp; exact ⟨_, _, S6.unsuite ok, q6⟩
          | brk => obtain ⟨σ6, H6, S6, q6⟩ := hsp; exact ⟨_, _, S6.unsuite ok, q6⟩
          | cont => obtain ⟨σ6, H6, S6, q6⟩ := hsp; exact ⟨_, _, S6.unsuite ok, q6⟩
          | ret u => obtain ⟨v6, σ6, H6, S6, r6, q6⟩ := hsp; exact ⟨_, _, _, S6.unsuite ok, r6, q6⟩
        | false =>
          show wpAny _ X.A (handleBy (.ref a) X.env hds2) _ _ _
          exact ih (hno rfl)
      | @as x n c i ts b₀ suite np pos' hds2 l2 hc hi hln hsu r ih =>
        intro w
        obtain ⟨b, hb1, hyes, hno⟩ := w
        have hloc : Loc X.env.scope n := .inl hln
        refine wpAny_handleBy_cons (codeAny_handlers_test ?_) (by intro q; cases q)
        have LM := PySem.W.exm_one (M := model X.prog X.w) (J3.kIn) LT hb1
        refine test hc (LM.here ?_)
        cases b with
        | true =>
          refine codeAny_handlers_suite_as ?_
          refine HandSPX.lands_againZ fl3 fun h4 fl4 up4 => ?_
          have J4 : Inv X pins σ' H' { s' with heap := h4 } := J.landed nb fl4.1 ((up.trans up3).trans up4) os ag
          obtain ⟨oe4, vs4, he4, hz4, hd4⟩ := fl4.there
          have S4 := J4.suite he4 hd4 na nL nF
          refine store_ok (X := X.suite a ((a, oe4) :: (X.pn ++ pins))) (v := .ref a) S4 hN hi hloc rfl (fun s5 S5 => ?_) (.inr hln)
          refine wpAny_mono ((hsu a oe4 cls d (X.pn ++ pins) hz4 ⟨_, hd4⟩).run [] s5 _ H' _ S5 (hyes rfl a na)) (fun f s6 hsp => ?_) (fun _ _ z => False.elim z)
          have end_ : ∀ {σ6 : St} {H6 : Hp} {Q : Shared → Prop}, Inv (X.suite a ((a, oe4) :: (X.pn ++ pins))) [] σ6 H6 s6 → (∀ s7, Inv X pins (σ6.set i none) H6 s7 → Q s7) →
              wpAny (model X.prog X.w) X.A (do bindName X.env n .none; unbindBehindTheSuite X.env n pos') (fun _ s7 => Q s7) X.xe s6 := fun {σ6 H6 Q} S6 hq => gone_ok (S6.unsuite ok) hN hi hln hq
          cases f with
          | next => obtain ⟨σ6, H6, S6, q6⟩ := hsp; exact end_ S6 fun s7 J7 => ⟨_, _, J7, q6⟩
          | brk => obtain ⟨σ6, H6, S6, q6⟩ := hsp; exact end_ S6 fun s7 J7 => ⟨_, _, J7, q6⟩
          | cont => obtain ⟨σ6, H6, S6, q6⟩ := hsp; exact end_ S6 fun s7 J7 => ⟨_, _, J7, q6⟩
          | ret u => obtain ⟨v6, σ6, H6, S6, r6, q6⟩ := hsp; exact end_ S6 fun s7 J7 => ⟨_, _, _, J7, r6, q6⟩
        | false =>
          show wpAny _ X.A (handleBy (.ref a) X.env hds2) _ _ _
          exact ih (hno rfl)
    exact go hh w
  · cases f with
    | next => obtain ⟨σ', H', J', q⟩ := hsp; exact wpAny_execs_nil ⟨σ', H', J'.ofTry ok, q⟩
    | brk => obtain ⟨σ', H', J', q⟩ := hsp; exact ⟨σ', H', J'.ofTry ok, q⟩
    | cont => obtain ⟨σ', H', J', q⟩ := hsp; exact ⟨σ', H', J'.ofTry ok, q⟩
    | ret u => obtain ⟨v, σ', H', J', r, q⟩ := hsp; exact ⟨v, σ', H', J'.ofTry ok, r, q⟩
end
end L2
namespace DL
open PySem PySem.Spec PyProof.Rows L2
/-! ### the same, over data -/
inductive HdW (X : Cx) : List ExceptHandler → List (Addr × Option Nat) → Prop
  | nil : HdW X [] []
  | pl {x : Str} {C : Addr} {b0 : Stmt} {suite : List Stmt} {np pos' : Pos} {hds : List ExceptHandler} {l : List (Addr × Option Nat)} (hm : X.mg x = some (.ref C)) (r : HdW X hds l) (hg : Gl X x := by rfl) (hdb : (x == ("__debug__" : Str)) = false := by decide) :
      HdW X (.ExceptHandler (some (.Name x np)) none (b0 :: suite) pos' :: hds) ((C, none) :: l)
  | as (i : Nat) {x n : Str} {C : Addr} {b0 : Stmt} {suite : List Stmt} {np pos' : Pos} {hds : List ExceptHandler} {l : List (Addr × Option Nat)} (hm : X.mg x = some (.ref C)) (r : HdW X hds l) (hi : X.N[i]? = some n := by rfl) (hln : X.env.kindOf n = some .local := by rfl)
      (hg : Gl X x := by rfl) (hdb : (x == ("__debug__" : Str)) = false := by decide) :
      HdW X (.ExceptHandler (some (.Name x np)) (some n) (b0 :: suite) pos' :: hds) ((C, some i) :: l)
def noI (P : Po) (i : Nat) : Po := { nx := fun Γ2 => P.nx (Γ2.set i .no), rt := P.rt, bk := fun Γ2 => P.bk (Γ2.set i .no), ct := fun Γ2 => P.ct (Γ2.set i .no) }
/-- what a clause's suite does with the exception -/
def okHd (X : Cx) (m : Nat) (P : Po) (body : List Stmt) (o : Option Nat) (C' : Addr) (fs : List (Str × D)) (Γ' : Gam) : Prop := match o with
  | none => ∀ (a dd : Addr) (oe : Obj) (pn : List (Addr × Obj)), Zc (.ref C') (some dd) oe → (∃ vs, oe.data = .fields vs) → SS (X.suite a ((a, oe) :: pn)) noX m body Γ' P
  | some i => ∃ f d, fs = [(f, d)] ∧ i < Γ'.length ∧ ∀ (a dd : Addr) (oe : Obj) (pn : List (Addr × Obj)), Zc (.ref C') (some dd) oe → (∃ vs, oe.data = .fields vs) → SS (X.suite a ((a, oe) :: pn)) noX m body (Γ'.set i (.pv (xvD a dd f d))) (noI P i)
def HdX (X : Cx) (R : XP) (m : Nat) (P : Po) : List ExceptHandler → List (Addr × Option Nat) → Addr → List (Str × D) → Gam → Prop
  | [], [], C', fs, Γ' => R C' fs Γ'
  | .ExceptHandler _ _ body _ :: hds, (C, o) :: l, C', fs, Γ' => ∃ b, PySem.W.exmOne X.K (.ref C') (.ref C) = some b ∧ (b = true → okHd X m P body o C' fs Γ') ∧ (b = false → HdX X R m P hds l C' fs Γ')
  | _, _, _, _, _ => False
section
variable {X : Cx} {R : XP} {W : WX} {Γ : Gam} {m n : Nat} {pos pos' p np : Pos} {P : Po}
/-- the clause's reading -/
def tHd (X : Cx) (m : Nat) (body : List Stmt) : Addr → Value → Option Addr → TS := fun a cls d D σ H => ∃ Γ P', (∀ (oe : Obj) (pn : List (Addr × Obj)), Zc cls d oe → (∃ vs, oe.data = .fields vs) → SS (X.suite a ((a, oe) :: pn)) noX m body Γ P') ∧ tSS X.K noW noX m Γ P' D σ H
def bodyOf : ExceptHandler → List Stmt
  | .ExceptHandler _ _ body _ => body
def clsX (X : Cx) (m : Nat) : List ExceptHandler → List (Addr × Option Nat) → List ClX
  | h :: hds, (C, o) :: l => (.ref C, o, tHd X m (bodyOf h)) :: clsX X m hds l
  | _, _ => []
theorem hdM_of : ∀ {hds : List ExceptHandler} {l : List (Addr × Option Nat)}, HdW X hds l → HdM X hds (clsX X m hds l)
  | _, _, .nil => .nil
  | _, _, .pl hm r hg hdb => .pl ⟨hg, hdb, .inl hm⟩ (fun a oe cls d pn hz hd => ⟨fun pins s σ H D I ⟨Γ', P', h1, h2⟩ => (h1 oe pn hz hd noW takes_noW).run pins s σ H D I h2⟩) (hdM_of r)
  | _, _, .as i hm r hi hln hg hdb => .as ⟨hg, hdb, .inl hm⟩ hi hln (fun a oe cls d pn hz hd => ⟨fun pins s σ H D I ⟨Γ', P', h1, h2⟩ => (h1 oe pn hz hd noW takes_noW).run pins s σ H D I h2⟩) (hdM_of r)
/-- try: body, several except clauses -/
theorem s1_try_mix {RB : XP} {body : List Stmt} {h0 : ExceptHandler} {hds : List ExceptHandler} {l : List (Addr × Option Nat)} (hs : X.stack = X.env :: X.outer) (hf : X.env.frame = some X.env.locals) (hN : X.N.Nodup) (hw : HdW X (h0 :: hds) l)
    (hb : ∀ (pn : List (Addr × Obj)) (xe : Value → Shared → Prop), PassesOwn (model X.prog X.w) X.A X.env xe → SS (X.tr pn xe) RB m body Γ P)
    (hx : ∀ C' fs Γ', RB C' fs Γ' → HdX X R m P (h0 :: hds) l C' fs Γ') : S1 X R m (.Try body (h0 :: hds) [] [] pos) Γ P := fun W tk =>
  ps_weak (ps_try_mix (tb := fun W' => tSS X.K W' RB m Γ P) hs hf hN tk (fun W' pn xe tk' po => hb pn xe po W' tk') (hdM_of (m := m) hw)) fun D σ H ⟨fp, hE, k1, k2, k3, k4, xx⟩ => by
    refine ⟨fp, hE, k1, k2, k3, k4, fun C' dd fs Γ' σ' H' fp' r hfd E' f' => ?_⟩
    have go : ∀ {hds' : List ExceptHandler} {l' : List (Addr × Option Nat)}, HdW X hds' l' → HdX X R m P hds' l' C' fs Γ' → wMix X.K W D (clsX X m hds' l') (.ref C') (some dd) σ' H' := by
      intro hds' l' hw'
      induction hw' with
      | nil => exact fun q => xx C' dd fs Γ' σ' H' fp' q hfd E' f'
      | @pl x C b0 suite np pos' hds2 l2 hm r hg hdb ih =>
        rintro ⟨b, e1, hy, hn⟩
        refine ⟨b, e1, fun hbt a na => ?_, fun hbf => ih (hn hbf)⟩
        have hss := hy hbt
        exact ⟨_, _, fun oe pn hz hd => hss a dd oe pn hz hd, fp', E', fun σ2 Γ2 H2 fp3 p E3 f3 => k1 _ _ H2 fp3 p E3 (f'.trans f3), fun v d' fv σ2 Γ2 H2 fp3 p o E3 nd f3 => k2 v d' fv σ2 Γ2 H2 fp3 p o E3 nd (f'.trans f3),
          fun σ2 Γ2 H2 fp3 p E3 f3 => k3 _ _ H2 fp3 p E3 (f'.trans f3), fun σ2 Γ2 H2 fp3 p E3 f3 => k4 _ _ H2 fp3 p E3 (f'.trans f3), xc_noW⟩
      | @as i x n C b0 suite np pos' hds2 l2 hm r hi hln hg hdb ih =>
        rintro ⟨b, e1, hy, hn⟩
        refine ⟨b, e1, fun hbt a na => ?_, fun hbf => ih (hn hbf)⟩
        obtain ⟨f, d, e2, hl', hss⟩ := hy hbt
        subst e2
        obtain ⟨fv, e3, rf⟩ := hfd
        cases rf with
        | cons r1 r2 =>
          cases r2
          have rx : Rep X.K H' (.ref a) (xvD a dd f d) := .xv e3 r1
          obtain ⟨fp2, E2, sub⟩ := E'.putPv (i := i) hl' rx
          have F : Fr fp fp2 H H' := f'.sub sub
          have gone : ∀ {σ2 : Sl} {Γ2 : Gam} {H2 : Hp} {fp3 : List Addr}, Env X.K Γ2 σ2 H2 fp3 → ∃ fp4, fp4.Sublist fp3 ∧ Env X.K (Γ2.set i .no) (σ2.set i none) H2 fp4 := fun E3 => by
            obtain ⟨fp4, s4, E4⟩ := E3.1.wipe1 i none
            exact ⟨fp4, s4, E4, E3.2.sublist s4⟩
          refine ⟨_, _, fun oe pn hz hd => hss a dd oe pn hz hd, fp2, E2, fun σ2 Γ2 H2 fp3 p E3 f3 => ?_, fun v d' fv σ2 Γ2 H2 fp3 p o E3 nd f3 => k2 v d' fv σ2 Γ2 H2 fp3 p o E3 nd (F.trans f3), fun σ2 Γ2 H2 fp3 p E3 f3 => ?_, fun σ2 Γ2 H2 fp3 p E3 f3 => ?_, xc_noW⟩
          · obtain ⟨fp4, s4, E4⟩ := gone E3
            exact k1 _ _ H2 fp4 p E4 ((F.trans f3).sub fun x m => s4.subset m)
          · obtain ⟨fp4, s4, E4⟩ := gone E3
            exact k3 _ _ H2 fp4 p E4 ((F.trans f3).sub fun x m => s4.subset m)
          · obtain ⟨fp4, s4, E4⟩ := gone E3
            exact k4 _ _ H2 fp4 p E4 ((F.trans f3).sub fun x m => s4.subset m)
    exact go hw (hx C' fs Γ' r)
end
/-! ### isinstance of the caught exception -/
theorem call_isX {X : Cx} {a D dd : Addr} {oe : Obj} {pn : List (Addr × Obj)} (C : ExcC X.K D) (hz : Zc (.ref D) (some dd) oe) (hf : ∃ vs, oe.data = .fields vs) :
    CallR (X.suite a ((a, oe) :: pn)) (.builtin "isinstance") (fun xs H Q => (∃ fs, H dd = some (.xd fs)) ∧ rIsE X.K D a xs H Q) := by
  intro pins s σ H xs us Q I r h
  obtain ⟨⟨fs, ea⟩, c, cv, b, rfl, hcv, e, q⟩ := h
  cases r with
  | cons rx rr =>
    cases rr with
    | cons rt rr =>
      cases rr
      cases rx
      have ec := hcv _ rt
      subst ec
      obtain ⟨hget, _⟩ := I.pin (a, oe) (List.mem_append.mpr (.inl List.mem_cons_self))
      obtain ⟨vs, hv⟩ := hf
      obtain ⟨mA, hns, hr⟩ := (show ObjOk X.prog X.w H s.heap dd (.xd fs) from I.hok dd _ ea)
      obtain ⟨od, ho, hl⟩ := lookIn_ns hns
      have J : PySem.W.InstAt s.heap a oe D (some od) := ⟨hget, hz.1, by unfold PySem.W.notCls; rw [hv] <;> rfl, by rw [hz.2]; exact ho⟩
      have hcl : (PySem.W.clsIn X.K D).isSome = true := by obtain ⟨cd, hc, _⟩ := PySem.W.any_some C.hd; rw [hc]; rfl
      exact PySem.W.kia_one (PySem.W.kitx_exc hcl C.hg C.hk C.hs C.ha C.hn C.ht C.hm) I.kIn J e (fun z => nomatch z) fun tk => ⟨.bl b, H, I.kept (t' := tk) fun _ _ z => z, rfl, q⟩
section
variable {X : Cx} {R : XP} {Γ : Gam} {pos p p2 p3 : Pos} {P : D → Gam → Prop}
theorem ev_isx (i : Nat) {n f x : Str} {C Dc a dd : Addr} {oe : Obj} {pn : List (Addr × Obj)} {d : D} {b : Bool} (T : ExcC X.K C) (hm : X.mg "isinstance" = none) (hmT : X.mg x = some (.ref Dc)) (hk : PySem.W.kitOne X.K (.ref C) (.ref Dc) = some b) (hz : Zc (.ref C) (some dd) oe) (hf : ∃ vs, oe.data = .fields vs)
    (hd : Γ[i]? = some (.pv (xvD a dd f d))) (h : P (.bool b) Γ)
    (hN : X.N[i]? = some n := by rfl) (hv : Vis X.env.scope n := by first | exact Or.inl rfl | exact Or.inr (Or.inl rfl) | exact Or.inr (Or.inr rfl)) (hdb : (n == ("__debug__" : Str)) = false := by decide) (hcd : (n == ("__classdict__" : Str)) = false := by decide)
    (hg : Gl X "isinstance" := by rfl) (hgT : Gl X x := by rfl) (hdx : (x == ("__debug__" : Str)) = false := by decide) (hvb : bootBuiltins "isinstance" = some (.builtin "isinstance") := by decide +kernel)
    (he : starEach [.Name n p2, .Name x p3] X.env = (false, eval (.Name n p2) X.env) :: starEach [.Name x p3] X.env := by rfl) (he2 : starEach [.Name x p3] X.env = (false, eval (.Name x p3) X.env) :: starEach [] X.env := by rfl) (hpl : (backTo pos (starEach [.Name x p3] X.env)).any (·.1) = false := by rfl) :
    EV (X.suite a ((a, oe) :: pn)) R (.Call (.Name "isinstance" p) [.Name n p2, .Name x p3] [] pos) Γ P := fun W tk =>
  pe_weak (pe_callB (X := X.suite a ((a, oe) :: pn)) (call_isX T hz hf) hg hm hvb (pa_cons (pe_var (X := X.suite a ((a, oe) :: pn)) (i := i) hN hv hdb hcd) (pa_cons (pe_glob (X := X.suite a ((a, oe) :: pn)) (v := .ref Dc) hgT hmT rfl hdx) pa_nil he2) he) (by decide) (by decide) he hpl) fun σ H Q ⟨fp, hE, k, _⟩ => by
    obtain ⟨v, e, r⟩ := hE.1.pvAt hd
    obtain ⟨rfl, w, e1, r1⟩ := rep_xv r
    exact ⟨.ref a, e, ⟨_, e1⟩, .ref Dc, .ref Dc, b, rfl, fun u z => z, hk, k.to0 h (.bl b) hE .refl⟩
end
end DL
set_option Elab.async false
set_option linter.all false
set_option maxRecDepth 100000
set_option maxHeartbeats 2000000
namespace DL
open PySem PySem.Spec PyProof.Rows L2
/-! ### a lambda without parameters, handed to a def that calls it -/
abbrev un (Γ : Gam) : Gam := Γ.map unO
section
variable {X : Cx} {pins : List (Addr × Obj)} {σ : L2.St} {H : Hp} {s : Shared}
theorem codeO_tbl {c : Addr} {q : Str} (ps : Array Value) : LamX.CodeO c q ≠ .tbl ps := fun z => by
  unfold LamX.CodeO at z
  cases z
theorem lam_make3 {c P : Addr} {params : Arguments} {body : Expr} {scope : Scope} {pos : Pos} {E : Value → Shared → Prop} {Q : Value → Shared → Prop} (I : Inv X pins σ H s) (TB : LamX.TabB X.base X.mg c P) (hcode : X.env.code = .ref c)
    (hm : (P, X.env.qual ++ "<lambda>") ∈ tbs) (hu : ∀ p ∈ tbs, p.1 = P → p.2 = X.env.qual ++ "<lambda>") (hT : LamX.Tabs tbs H) (hdef : defaultsOf params X.env = ([], [])) (hfree : ∀ y ∈ scope.names, y.2 = .free → ∃ c, X.env.cells.lookup y.1 = some c)
    (h : ∀ (f c' : Addr) (pm ctv : Value) (H1 : Hp) (s' : Shared), Inv X pins σ H1 s' → Fr [] [] H H1 →
      s'.heap.get? f = some (PySem.W.kla_obj "<lambda>" (X.env.qual ++ "<lambda>") params body scope (cloFrom X.env.cells scope.names []) pm c' ctv) → H1 f = none → f ∉ frs X.stack → H1 c' = some (LamX.CodeO c' (X.env.qual ++ "<lambda>")) → Q (.ref f) s') :
    wpAny (model X.prog X.w) X.A (eval (.Lambda params body scope pos) X.env) Q E s := by
  obtain ⟨ps, hP, ht, ha⟩ := hT _ hm
  have hP : H P = some (.tbl ps) := hP
  refine PySem.W.kla_eval hdef ?_
  have bP : s.heap.BuiltinsAt X.mg P := TB.bm.keeps I.bk
  have hP' : s.heap.get? P = some { cls := .none, data := .fields ps } := I.hok P _ hP
  have nofr : ∀ f, s.heap.objs.size ≤ f → f ∉ frs X.stack := fun f hf z => by
    rcases List.mem_cons.mp (I.stkSub _ z) with e | e
    · have h1 := I.lt
      rw [← e] at h1
      exact Nat.lt_irrefl _ (Nat.lt_of_lt_of_le h1 hf)
    · exact I.nofs hf e
  cases hc : codeAmong pos ps.toList with
  | none =>
    refine PySem.W.kla_makeFunction (mg := X.mg) (c := c) (P := P) (ps := ps) (closure_ok hfree) I.ok.glob (I.mod.glob.keeps I.bk) hcode (TB.code.keeps I.bk) hP' ht hc TB.gP bP fun c' ctv h' tk hx hge hlt hrec htb => ?_
    obtain ⟨c2, oc, vs, t, e2, hoc, hd, hv⟩ := hrec
    cases e2
    have hsz : s.heap.objs.size ≤ h'.objs.size := Nat.le_trans hge (Nat.le_of_lt hlt)
    have nC : H c' = none := I.hok.fresh hge
    have I1 := LamX.inv_table (t' := tk) (more := #[rawInt pos.line, rawInt pos.col, .ref c']) (h' := h'.push (PySem.W.kla_obj "<lambda>" (X.env.qual ++ "<lambda>") params body scope (cloFrom X.env.cells scope.names []) ((X.mg "__name__").getD .none) c' ctv)) I hP
      (fun b o hb e => Heap.get?_push_of_some _ (hx b o hb e)) (Heap.get?_push_of_some _ htb) hge ⟨oc, vs, t, Heap.get?_push_of_some _ hoc, hd, hv⟩
    have hE : ∀ b o, H b = some o → (∀ ps, o ≠ .tbl ps) → upd (upd H P (.tbl (ps ++ #[rawInt pos.line, rawInt pos.col, .ref c']))) c' (LamX.CodeO c' (X.env.qual ++ "<lambda>")) b = some o := fun b o e n => by
      rw [upd_ne (ne_of_none e nC), upd_ne (fun z => n ps (Option.some.inj (e.symm.trans (by rw [z]; exact hP))))]
      exact e
    have eL : (ps ++ #[rawInt pos.line, rawInt pos.col, .ref c']).toList = ps.toList ++ [rawInt pos.line, rawInt pos.col, .ref c'] := by simp
    have tb1 : LamX.Tabs tbs (upd (upd H P (.tbl (ps ++ #[rawInt pos.line, rawInt pos.col, .ref c']))) c' (LamX.CodeO c' (X.env.qual ++ "<lambda>"))) := fun p hp => by
      by_cases hb : p.1 = P
      · rw [hu p hp hb, hb]
        refine ⟨_, by rw [upd_ne (ne_of_none hP nC), upd_same], by rw [eL]; exact PySem.TriplesOk_snoc _ _ _ _ ht, fun p' cv hcv => ?_⟩
        rw [eL] at hcv
        rcases LamX.among_app _ ht hcv with z | z
        · obtain ⟨c0, e1, e2⟩ := ha p' cv z
          exact ⟨c0, e1, hE _ _ e2 codeO_tbl⟩
        · exact ⟨c', z, upd_same⟩
      · obtain ⟨ps', a1, a2, a3⟩ := hT p hp
        refine ⟨ps', by rw [upd_ne (ne_of_none a1 nC), upd_ne hb]; exact a1, a2, fun p' cv hcv => ?_⟩
        obtain ⟨c0, e1, e2⟩ := a3 p' cv hcv
        exact ⟨c0, e1, hE _ _ e2 codeO_tbl⟩
    have fr : Fr [] [] H (upd (upd H P (.tbl (ps ++ #[rawInt pos.line, rawInt pos.col, .ref c']))) c' (LamX.CodeO c' (X.env.qual ++ "<lambda>"))) :=
      ⟨fun b o e n _ => hE b o e n, fun b m => (nomatch m), fun b e => by
        by_cases h1 : b = c'
        · rw [h1]; exact nC
        · rw [upd_ne h1] at e
          by_cases h2 : b = P
          · rw [h2, upd_same] at e; cases e
          · rw [upd_ne h2] at e; exact e, ⟨fun b o e z => hE b o e (fun ps q => by subst q; exact z), fun _ => tb1⟩⟩
    refine h h'.objs.size c' ((X.mg "__name__").getD .none) ctv _ _ I1 fr (Heap.get?_push_size _ rfl) ?_ (nofr _ hsz) upd_same
    have n1 : h'.objs.size ≠ c' := Nat.ne_of_gt hlt
    have n2 : h'.objs.size ≠ P := Nat.ne_of_gt (Nat.lt_of_lt_of_le (Heap.lt_size hP') hsz)
    rw [upd_ne n1, upd_ne n2]
    exact I.hok.fresh hsz
  | some cv =>
    obtain ⟨c', e, hco⟩ := ha pos cv hc
    subst e
    refine PySem.W.kla_makeFunctionHit (mg := X.mg) (c := c) (P := P) (ps := ps) (closure_ok hfree) I.ok.glob (I.mod.glob.keeps I.bk) hcode (TB.code.keeps I.bk) hP' ht hc bP fun ctv h' tk hx hsz => ?_
    have I1 : Inv X pins σ H { s with heap := h'.push (PySem.W.kla_obj "<lambda>" (X.env.qual ++ "<lambda>") params body scope (cloFrom X.env.cells scope.names []) ((X.mg "__name__").getD .none) c' ctv), toks := tk } := I.kept fun b o e => Heap.get?_push_of_some _ (hx b o e)
    exact h h'.objs.size c' ((X.mg "__name__").getD .none) ctv H _ I1 .refl (Heap.get?_push_size _ rfl) (I.hok.fresh hsz) (nofr _ hsz) hco
end
/-- the def that makes lambdas: its code object, its table -/
structure LamM (X : Cx) (c P : Addr) : Prop where
  tb : LamX.TabB X.base X.mg c P
  code : X.env.code = .ref c
  mem : (P, X.env.qual ++ "<lambda>") ∈ tbs
  one : ∀ p ∈ tbs, p.1 = P → p.2 = X.env.qual ++ "<lambda>"
/-- how a function of no arguments, called in the def that got it, behaves -/
def ActP (P : Program) (w : World) (K : Fg) (mg : Str → Option Value) (base : Heap) (k : Nat) (A : Around) (outer : List PySem.Env) (s : Shared) (H : Hp) (u : Addr) (F : Hp → Prop) (o : Out) : Prop :=
  ∀ (N : List Str) (qual : Str) (sc : Scope) (f : Addr) (cdv : Value) (E : XK), Rm (k + 1) (A.deeper (envOfC qual sc s.heap.objs.size f cdv)) → ∀ (pn : List (Addr × Obj)) (xe : Value → Shared → Prop) (R : XP) (P' : D → Gam → Prop) (Γ : Gam) (i : Nat) (a : Str) (p1 p2 : Pos),
    Γ[i]? = some (.fx (.ref u) F) → (∀ d, o = .ret d → P' d Γ) → (∀ C fs, o = .exn C fs → R C fs Γ) → N[i]? = some a → Vis sc a → (a == ("__debug__" : Str)) = false → (a == ("__classdict__" : Str)) = false →
    EV ((cx P w K mg base N qual sc f cdv A outer s H E).tr pn xe) R (.Call (.Name a p1) [] [] p2) Γ P'
/-- a def of the top that gets a function and calls it: what it makes of the function's answer -/
structure DfT (P : Program) (w : World) (K : Fg) (mg : Str → Option Value) (base : Heap) (k : Nat) (x : Str) (st : Stmt) (T : Out → D → Prop) : Prop where
  ex : ∃ f fd a N, Fun K x x st f fd ∧ mg x = some (.ref f) ∧ FnScope N [a] (defScope st) ∧ PySem.W.keepIn K (.ref f) = true ∧
    (∀ (qual : Str) (kV doc pm : Value) (an : Option Addr) (cdv ct : Value) (us : List Value), us.length = 1 → bindArgs (PySem.W.fnOf x qual (defArgs st) (defBody st) (defScope st) .none kV doc pm an cdv ct) ⟨us, []⟩ = pure ([a].zip us)) ∧
    ∀ (cdv : Value) (A : Around) (outer : List PySem.Env) (s : Shared) (H : Hp) (E : XK) (u : Addr) (F : Hp → Prop) (o : Out), Rm (k + 1) (A.deeper (envOfC x (defScope st) s.heap.objs.size f cdv)) → (∃ d, T o d) → ActP P w K mg base k A outer s H u F o →
      SS (cx P w K mg base N x (defScope st) f cdv A outer s H E) noX 0 (defBody st) (.fx (.ref u) F :: List.replicate (N.length - 1) .no) { nx := fun _ => False, rt := fun d _ => T o d }
section
variable {X : Cx}
/-- the lambda, called in the def that got it -/
theorem act_of {pins : List (Addr × Obj)} {σ : L2.St} {H : Hp} {s : Shared} {Γm : Gam} {k : Nat} {f c' : Addr} {pm ctv : Value} {params : Arguments} {body : Expr} {scope : Scope} {o : Out}
    (I : Inv X pins σ H s) (L : LamX.LamS X.env.scope scope) (hf : s.heap.get? f = some (PySem.W.kla_obj "<lambda>" (X.env.qual ++ "<lambda>") params body scope (cloFrom X.env.cells scope.names []) pm c' ctv)) (hfn : H f = none) (hfr : f ∉ frs X.stack)
    (hbind : bindArgs (PySem.W.kla_fn "<lambda>" (X.env.qual ++ "<lambda>") params body scope (cloFrom X.env.cells scope.names []) pm (.ref c') ctv) ⟨[], []⟩ = pure [])
    (hbody : ∀ (A : Around) (outer : List PySem.Env) (s : Shared) (H : Hp) (E : XK), Rm k (A.deeper (LamX.lamEnv X scope s.heap.objs.size f c')) → EV (LamX.lamCx X A outer s H E scope f c') (fun C fs Γ' => o = .exn C fs ∧ Γ' = un Γm) body (un Γm) (fun d Γ' => o = .ret d ∧ Γ' = un Γm)) :
    ActP X.prog X.w X.K X.mg X.base k X.A X.stack s H f (fun H' => EnvOk X.K H' (un Γm) σ [] ∧ H' c' = some (LamX.CodeO c' (X.env.qual ++ "<lambda>"))) o := by
  intro Ng qg sg g cdg Eg hr pn xe R P' Γ i a p1 p2 hi hP hR hN hv hd hcd W tk
  refine ⟨fun pinsZ sZ σZ HZ Q IZ ⟨fpZ, hEZ, kZ, xZ⟩ => ?_⟩
  obtain ⟨hs, hF, _⟩ := hEZ.1.fxAt hi
  obtain ⟨hEm, hc⟩ := hF
  refine wpAny_Call_Name_kw (thn ((pe_var (pos := p1) (i := i) hN hv hd hcd).run pinsZ sZ σZ HZ (fun v H1 => v = .ref f ∧ H1 = HZ) IZ ⟨.ref f, hs, rfl, rfl⟩) fun u s1 ⟨v, H1, I1, r1, q1⟩ => ?_)
  obtain ⟨ev, eH⟩ := q1
  subst ev
  rw [eH] at I1
  obtain rfl : u = Value.ref f := r1
  have of1 : s1.heap.get? f = some (PySem.W.kla_obj "<lambda>" (X.env.qual ++ "<lambda>") params body scope (cloFrom X.env.cells scope.names []) pm c' ctv) := I1.base.keep f _ hf hfn hfr (fun z => nomatch (show f ∈ ([] : List Addr) from z))
  refine PySem.W.callWith_F0 ⟨_, _, _, _, of1⟩ ?_
  have unn : Un (frs X.stack) [] H HZ s.heap s1.heap := I1.base
  obtain ⟨⟨oc, vs, t, hoc, hdc, hvc⟩, _, _⟩ := I1.hok c' _ hc
  let EL : XK := fun cls d H' => ∃ C dd fs, cls = .ref C ∧ d = some dd ∧ o = .exn C fs ∧ FldAt X.K H' dd fs ∧ Fr [] [] HZ H'
  let QL : VK := fun v H' => ∃ d, o = .ret d ∧ Rep X.K H' v d ∧ Fr [] [] HZ H'
  have rc : codeAny (model X.prog X.w) (X.A.deeper (envOfC qg sg s.heap.objs.size g cdg)) (.call (.ref f) ⟨[], []⟩) (CR (L2.CX X.prog X.w) (envOfC qg sg s.heap.objs.size g cdg :: X.stack) X.prog X.w HZ s1 QL EL) s1 := by
    refine PySem.W.kla_callFunE hr.rm.depth of1 rfl L.co L.gen rfl ⟨c', oc, vs, t, rfl, hoc, hdc, hvc⟩ ?_
    rw [hbind]
    refine wpAny_pure (wpAny_newFunctionEnv (fun y hy => (L.own y hy).2) (fun y hy => absurd hy (by simp)) (fun h₁ hns hsb => ⟨I1.nolimit.fresh _ hsb, ?_⟩) L.kind)
    show codeAny _ _ (.expr body (LamX.lamEnv X scope s1.heap.objs.size f c')) _ _
    have kp : ∀ b o, s1.heap.get? b = some o → h₁.get? b = some o := fun b o e => hsb.extBut b o (Nat.ne_of_lt (Heap.lt_size e)) (Heap.get?_push_of_some _ e)
    have J : Inv (LamX.lamCx X (X.A.deeper (envOfC qg sg s.heap.objs.size g cdg)) (envOfC qg sg s.heap.objs.size g cdg :: X.stack) s1 HZ EL scope f c') [] σ HZ { s1 with heap := h₁, toks := s1.toks + ([] : List (Str × Value)).length } :=
      LamX.lam_start2 I L I1.env0 hr.rm.hd unn hns kp
    have hb := hbody (X.A.deeper (envOfC qg sg s.heap.objs.size g cdg)) (envOfC qg sg s.heap.objs.size g cdg :: X.stack) s1 HZ EL ⟨hr.rm.deeper _, hr.gd⟩
    refine PySem.W.kla_codeExpr (wpAny_mono ((hb _ (takes_of rfl rfl rfl rfl)).run [] _ _ HZ QL J ⟨[], ⟨hEm, List.nodup_nil⟩, ?_, ?_⟩) (fun v s' hq => ?_) fun e s' hq => hq)
    · exact Kt.of0 fun v d Γ' H' fp' ⟨e1, _⟩ r _ f1 => ⟨d, e1, r, f1.sub fun _ m => nomatch m⟩
    · exact fun C dd fs Γ' σ' H' fp' ⟨e1, _⟩ hfd _ f1 => ⟨C, dd, fs, rfl, rfl, e1, hfd, f1.sub fun _ m => nomatch m⟩
    · obtain ⟨w', H', J', rv, q⟩ := hq
      exact ⟨w', H', J'.os, J'.bare, J'.base, J'.hok, rv, q⟩
  have back : ∀ {H'}, Fr [] [] HZ H' → Env X.K Γ σZ H' fpZ ∧ Fr fpZ fpZ HZ H' := fun {H'} f1 => by
    refine ⟨⟨hEZ.1.mono f1.ez fun b m => ?_, hEZ.2⟩, fun b o e tt _ => f1.keep b o e tt (List.not_mem_nil), fun b m => .inl m, f1.dom, f1.ez⟩
    obtain ⟨u, e, mu⟩ := (hEZ.1.wr b m).mut
    rcases hEZ.1.wr b m with ⟨xs, e⟩ | ⟨xs, e⟩
    · rw [e]; exact f1.keep b _ e (fun _ z => by cases z) (List.not_mem_nil)
    · rw [e]; exact f1.keep b _ e (fun _ z => by cases z) (List.not_mem_nil)
  refine wpAny_call (codeAny_mono rc fun r s' hq => ?_)
  cases r with
  | error e =>
    exact tk e s' (XE.of_call I1 (fun cls d H' ⟨C, dd, fs, e1, e2, e3, e4, f1⟩ => by
      subst e1 e2
      obtain ⟨b1, b2⟩ := back f1
      exact xZ C dd fs Γ σZ H' fpZ (hR C fs e3) e4 b1 b2) hq)
  | ok fl =>
    cases fl with
    | ret u =>
      refine I1.after ?_
      obtain ⟨v, H', q1, q2, q3, q4, q5, d, e1, r, f1⟩ := hq
      obtain ⟨b1, b2⟩ := back f1
      exact ⟨v, H', q1, q2, q3, q4, q5, kZ.to0 (hP d e1) r b1 b2⟩
    | next => exact False.elim hq
    | brk => exact False.elim hq
    | cont => exact False.elim hq
/-- x(lambda: body), x a def that calls what it gets -/
theorem ev_told {R : XP} {Γ : Gam} {P' : D → Gam → Prop} {c Pt : Addr} {k j : Nat} {x : Str} {st : Stmt} {T : Out → D → Prop} {params : Arguments} {body : Expr} {scope : Scope} {p lpos pos : Pos} (o : Out)
    (F : DfT X.prog X.w X.K X.mg X.base k x st T) (hr : Rm j X.A) (hj : k + 2 ≤ j) (M : LamM X c Pt) (L : LamX.LamS X.env.scope scope) (hT : ∃ d, T o d) (hP : ∀ d, T o d → P' d Γ)
    (hbody : ∀ (A : Around) (outer : List PySem.Env) (s : Shared) (H : Hp) (E : XK) (f c' : Addr), Rm k (A.deeper (LamX.lamEnv X scope s.heap.objs.size f c')) → EV (LamX.lamCx X A outer s H E scope f c') (fun C fs Γ' => o = .exn C fs ∧ Γ' = un Γ) body (un Γ) (fun d Γ' => o = .ret d ∧ Γ' = un Γ))
    (hbind : ∀ (q : Str) (cl : List (Str × Addr)) (pm cv ctv : Value), bindArgs (PySem.W.kla_fn "<lambda>" q params body scope cl pm cv ctv) ⟨[], []⟩ = pure [] := by intros; rfl)
    (hdef : defaultsOf params X.env = ([], []) := by rfl) (hg : Gl X x := by rfl) (hdb : (x == ("__debug__" : Str)) = false := by decide) : EV X R (.Call (.Name x p) [.Lambda params body scope lpos] [] pos) Γ P' := by
  intro W tk
  obtain ⟨f, fd, a, N, FF, hm, S, hkp, hb, hrun⟩ := F.ex
  obtain ⟨oc, od, kV, doc, pm0, an, cdv, ct, osl, rfl, lk, hcd⟩ := FF.ex
  refine ⟨fun pins s σ H Q I ⟨fp, hE, kt, xx⟩ => ?_⟩
  have hr2 := hr.mono hj
  refine wpAny_Call_Name_kw (ld_glob I hg hm ?_ hdb)
  refine PySem.W.callWith_K (h₀ := X.base) I.ok.mod.kin hkp ?_ (by rfl) (by rfl)
  show wpAny _ _ (spliced ((false, eval (.Lambda params body scope lpos) X.env) :: backTo pos (starEach [] X.env))) _ _ s
  refine Calls.spliced_cons (lam_make3 I M.tb M.code M.mem M.one hE.1.tb hdef (L.has I.ok) fun fl c' pm ctv H1 s' I1 fr1 hf hfn hfr hco => ?_)
  refine Calls.spliced_nil ⟨I1.kIn, ?_⟩
  have E1 : EnvOk X.K H1 Γ σ fp ∧ Fr fp fp H H1 := by
    refine ⟨hE.1.mono fr1.ez fun b m => ?_, fun b o e tt _ => fr1.keep b o e tt (List.not_mem_nil), fun b m => .inl m, fr1.dom, fr1.ez⟩
    rcases hE.1.wr b m with ⟨xs, e⟩ | ⟨xs, e⟩
    · rw [e]; exact fr1.keep b _ e (fun _ z => by cases z) (List.not_mem_nil)
    · rw [e]; exact fr1.keep b _ e (fun _ z => by cases z) (List.not_mem_nil)
  let FF2 : Hp → Prop := fun H' => EnvOk X.K H' (un Γ) σ [] ∧ H' c' = some (LamX.CodeO c' (X.env.qual ++ "<lambda>"))
  have hFx : FxOk FF2 H1 := ⟨⟨E1.1.un, hco⟩, fun H2 H3 z ⟨q1, q2⟩ => ⟨q1.mono z fun _ m => (nomatch m), z.fz _ _ q2 (by unfold LamX.CodeO; trivial)⟩⟩
  let QL : VK := fun v H' => ∃ d, T o d ∧ Rep X.K H' v d ∧ Fr [] [] H1 H'
  have rc : codeAny (model X.prog X.w) X.A (.call (.ref f) ⟨[.ref fl], []⟩) (CR (L2.CX X.prog X.w) X.stack X.prog X.w H1 s' QL (fun _ _ _ => False)) s' := by
    refine LamX.run_ofS (N := N) (ps := [a]) (us := [.ref fl]) (vs := [.ref fl]) (k := k + 1) lk hcd S hr2.rm I1.env0 (.of_eq (hb x kV doc pm0 an cdv ct [.ref fl] rfl)) (.cons rfl .nil) rfl fun hr' => ?_
    have act : ActP X.prog X.w X.K X.mg X.base k X.A X.stack s' H1 fl FF2 o := act_of I1 L hf hfn hfr (hbind _ _ _ _ _) fun A outer s0 H0 E0 hr3 => hbody A outer s0 H0 E0 fl c' hr3
    have hs := hrun cdv X.A X.stack s' H1 (fun _ _ _ => False) fl FF2 o ⟨hr', hr2.gd⟩ hT act
    refine ⟨_, hs _ takes_noW, [], ⟨start_ok (Γ := [.fx (.ref fl) FF2]) (vs := [.ref fl]) (.fx hFx (.nil E1.1.tb)), List.nodup_nil⟩, fun _ _ _ _ z => z.elim, fun v d fv σ' Γ' H' fp' q ow E' nd f' => ⟨d, q, ow.1, f'.sub fun _ m => nomatch m⟩, fun _ _ _ _ z => z.elim, fun _ _ _ _ z => z.elim, xc_noW⟩
  refine wpAny_call (codeAny_mono rc fun r s2 hq => ?_)
  cases r with
  | error e =>
    obtain ⟨_, _, _, _, _, _, _, _, _, _, _, _, z⟩ := hq
    exact z.elim
  | ok flw =>
    cases flw with
    | ret u =>
      refine I1.after ?_
      obtain ⟨v, H', q1, q2, q3, q4, q5, d, e1, r, f1⟩ := hq
      have b : EnvOk X.K H' Γ σ fp ∧ Fr fp fp H1 H' := by
        refine ⟨E1.1.mono f1.ez fun b m => ?_, fun b o e tt _ => f1.keep b o e tt (List.not_mem_nil), fun b m => .inl m, f1.dom, f1.ez⟩
        rcases E1.1.wr b m with ⟨xs, e⟩ | ⟨xs, e⟩
        · rw [e]; exact f1.keep b _ e (fun _ z => by cases z) (List.not_mem_nil)
        · rw [e]; exact f1.keep b _ e (fun _ z => by cases z) (List.not_mem_nil)
      exact ⟨v, H', q1, q2, q3, q4, q5, kt.to0 (hP d e1) r ⟨b.1, hE.2⟩ (E1.2.trans b.2)⟩
    | next => exact False.elim hq
    | brk => exact False.elim hq
    | cont => exact False.elim hq
end
end DL
set_option Elab.async false
set_option linter.all false
set_option maxRecDepth 100000
set_option maxHeartbeats 2000000
namespace DL
open PySem PySem.Spec PyProof.Rows L2
theorem all3_zero {K : Fg} {H H' : Hp} (z : Ez H H') : ∀ {vs : List V} {ds : List D} {fs : List Addr}, All3 (Own K H 0) vs ds fs → All3 (Own K H' 0) vs ds []
  | _, _, _, .nil => .nil
  | _, _, _, .cons h r => by
    have := All3.cons (R := Own K H' 0) (f := []) (fs := []) ⟨h.1.mono z, rfl⟩ (all3_zero z r)
    exact this
section
variable {X : Cx} {R : XP} {Γ : Gam} {e : Expr} {p : Pos}
/-- x.extend(e), x a name, e a fresh list -/
theorem ev_extend (j : Nat) {x : Str} {v0 : V} {d0 : List D} {apos cpos : Pos} {P : D → Gam → Prop} (hd : Γ[j]? = some (.ow v0 1 (.list d0)))
    (h : EG X R 1 e Γ fun d Γ2 => ∃ v ds es, d = .list es ∧ Γ2[j]? = some (.ow v 1 (.list ds)) ∧ ds.length + es.length ≤ 1000000 ∧ P .none (Γ2.set j (.ow v 1 (.list (ds ++ es)))))
    (hN : X.N[j]? = some x := by rfl) (hv : Vis X.env.scope x := by first | exact Or.inl rfl | exact Or.inr (Or.inl rfl) | exact Or.inr (Or.inr rfl)) (hdb : (x == ("__debug__" : Str)) = false := by decide) (hcd : (x == ("__classdict__" : Str)) = false := by decide)
    (hs : starEach (e :: []) X.env = (false, eval e X.env) :: starEach [] X.env := by rfl)
    (hbase : attributeBase (.Name x p) "extend" X.env (eval (.Name x p) X.env) = eval (.Name x p) X.env := by rfl) (hfew : ((backTo cpos (starEach (e :: []) X.env)).all (fun x => !x.1) && (backToKw cpos (keywordEach [] X.env)).all (fun x => x.1.isSome)
      && decide ((e :: []).length + ([] : List Keyword).length + (if ([] : List Keyword).isEmpty then 0 else 1) < 30)) = true := by rfl) (hline : (apos.endLine == cpos.line) = true := by rfl) : EV X R (.Call (.Attribute (.Name x p) "extend" apos) [e] [] cpos) Γ P := fun W tk =>
  pe_weak (pe_bm PySem.F.plainAttrs_list PySem.F.slot_list_extend PySem.F.type_list_extend mt_extend (pe_var hN hv hdb hcd) (pa_cons (pe_any (n := 1) tk) pa_nil hs) hbase hfew hline hs) fun σ H Q ⟨fp, hE, k, xx⟩ => by
    obtain ⟨es, F⟩ := foc_slot hE hd
    obtain ⟨f, rest, ow, _⟩ := id F
    obtain ⟨a, xs, fs, rfl, ea, al, _⟩ := ow.lstAt
    refine ⟨_, es, .inl ⟨rfl, xs, .of ea⟩, Any.go h hE xx (fun w d fv Γ2 H2 fp2 ⟨v, ds, ee, ed, e2, hl, pp⟩ o E2 nd f2 => ?_)⟩
    subst ed
    obtain ⟨b, zs, gs, rfl, eb, alb, _⟩ := o.lstAt
    obtain ⟨es2, F2⟩ := foc_slot ⟨E2, (List.nodup_append.mp nd).2.1⟩ e2
    rw [es] at es2
    cases es2
    obtain ⟨f', rest', ow', _⟩ := id F2
    obtain ⟨a', xs', fs', q, ea', al', _⟩ := ow'.lstAt
    cases q
    obtain ⟨fp4, E4, f4⟩ := foc_write (ys := xs' ++ zs) (es := ds ++ ee) F2 ea' fun H' fs z kk al => ⟨fs ++ [], by simp, All3.append (all3_own z kk al) (all3_zero z alb)⟩
    have sz : sizeLine = 16777216 := sizeLine_eq
    exact ⟨a, b, xs', zs, rfl, rfl, ea', eb, by rw [al'.length, alb.length]; omega, k.to0 pp .non E4 (f2.trans (f4.wide fun x m => List.mem_append_right _ m))⟩
/-- o.index(e), o a list of flat things, e one of them -/
theorem ev_index {o : Expr} {apos cpos : Pos} {P : D → Gam → Prop}
    (h : EV X R o Γ fun d Γ1 => ∃ ds, d = .list ds ∧ ds.all flatD = true ∧ EV X R e Γ1 fun y Γ2 => flatD y = true ∧ ∃ (j : Nat) (z : D), ds[j]? = some z ∧ eqF z y = true ∧ (∀ m z', m < j → ds[m]? = some z' → eqF z' y = false) ∧ P (.int (j : Nat)) Γ2)
    (hs : starEach (e :: []) X.env = (false, eval e X.env) :: starEach [] X.env := by rfl)
    (hbase : attributeBase o "index" X.env (eval o X.env) = eval o X.env := by rfl) (hfew : ((backTo cpos (starEach (e :: []) X.env)).all (fun x => !x.1) && (backToKw cpos (keywordEach [] X.env)).all (fun x => x.1.isSome)
      && decide ((e :: []).length + ([] : List Keyword).length + (if ([] : List Keyword).isEmpty then 0 else 1) < 30)) = true := by rfl) (hline : (apos.endLine == cpos.line) = true := by rfl) : EV X R (.Call (.Attribute o "index" apos) [e] [] cpos) Γ P := fun W tk =>
  pe_weak (pe_bm PySem.F.plainAttrs_list PySem.F.slot_list_index PySem.F.type_list_index mt_index (pe_any (n := 0) tk) (pa_cons (pe_any (n := 0) tk) pa_nil hs) hbase hfew hline hs) fun σ H Q ⟨fp, hE, k, xx⟩ => by
    refine Any.go h hE xx (Kt.of0 fun vo d Γ1 H1 fp1 ⟨ds, ed, fl, he⟩ r1 E1 f1 => ?_)
    subst ed
    obtain ⟨a, vs, rfl, hl, ra⟩ : ∃ a vs, vo = .ref a ∧ LstZ X.K H1 a vs ∧ RepAll X.K H1 vs ds := by
      cases r1 with
      | lst h1 q1 => exact ⟨_, _, rfl, h1, q1⟩
    refine ⟨.inl ⟨rfl, vs, hl.sq⟩, Any.go he E1 (xx.trans f1) (Kt.of0 fun vy y Γ2 H2 fp2 ⟨fy, j, z, hz, ez, hno, p⟩ r2 E2 f2 => ?_)⟩
    have ra2 := ra.mono f2.ez
    have hl2 := hl.mono f2.ez
    obtain ⟨w, hw, rw_⟩ := ra2.getD hz
    have fz : flatD z = true := List.all_eq_true.mp fl _ (List.mem_of_getElem? hz)
    refine ⟨a, vs, vy, j, w, rfl, rfl, hl2.sq, rep_flat r2 fy, repAll_flat ra2 fl, hw, by rw [rep_eqF rw_ fz r2 fy]; exact ez, fun m z' hm hz' => ?_, k.to0 p (.int _) E2 (f1.trans f2)⟩
    obtain ⟨d', hd', rd'⟩ := ra2.get hz'
    rw [rep_eqF rd' (List.all_eq_true.mp fl _ (List.mem_of_getElem? hd')) r2 fy]
    exact hno m d' hm hd'
end
end DL
set_option Elab.async false
set_option linter.all false
set_option maxRecDepth 100000
set_option maxHeartbeats 1000000
namespace DL
open PySem PySem.Spec PyProof.Rows L2
/-! ### what isinstance asks of an own exception class -/
def isxB (K : Fg) (D : Addr) : Bool :=
  decide (PySem.W.findIn K (.ref D) "__getattribute__" = some (some (.builtin "BaseException.__getattribute__"))) && (decide (PySem.W.findIn K (.ref D) "__getattr__" = some none) &&
  (decide (PySem.W.subIn K (.ref D) (.type "BaseException") = some true) && (PySem.W.hasDictIn K D && (decide (PySem.W.findIn K (.ref D) "__class__" = some (some (.builtin "object.__class__"))) &&
  (decide (PySem.W.specialIn K (.builtin "object.__class__") "__get__" = some (some (.builtin "getset_descriptor.__get__"))) && (decide (PySem.W.takesIn K (.builtin "object.__class__") = some true) && decide (PySem.W.mroIn K D (.type "object") = some true)))))))
theorem isx_ok {K : Fg} {D : Addr} (h : isxB K D = true) : ExcC K D := by
  unfold isxB at h
  simp only [Bool.and_eq_true, decide_eq_true_eq] at h
  obtain ⟨h1, h2, h3, h4, h5, h6, h7, h8⟩ := h
  exact ⟨h1, h2, h3, h4, h5, h6, h7, h8⟩
def kitB2 (K : Fg) (x y : Str) (b : Bool) : Bool := decide (PySem.W.kitOne K (.ref (He.ga K x)) (.ref (He.ga K y)) = some b)
theorem kit2_ok {K : Fg} {x y : Str} {b : Bool} (h : kitB2 K x y b = true) : PySem.W.kitOne K (.ref (He.ga K x)) (.ref (He.ga K y)) = some b := of_decide_eq_true h
end DL
set_option Elab.async false
set_option linter.all false
set_option maxRecDepth 100000
set_option maxHeartbeats 1000000
namespace DL
open PySem PySem.Spec PyProof.Rows L2
section
variable {P : Program} {w : World} {K : Fg} {mg : Str → Option Value} {base : Heap}
/-! ### defs that make lambdas: what their code object is counts -/
/-- the code object of the def x and its table -/
def LamC (mg : Str → Option Value) (base : Heap) (x : Str) (cdv : Value) : Prop := ∃ c Pt, cdv = .ref c ∧ LamX.TabB base mg c Pt ∧ (Pt, x ++ ".<locals>." ++ "<lambda>") ∈ tbs ∧ ∀ p ∈ tbs, p.1 = Pt → p.2 = x ++ ".<locals>." ++ "<lambda>"
theorem lamC_of {h : Heap} {x : Str} {st : Stmt} {f : Addr} {fd : FuncData} {Pt : Nat} (X : K.In h) (G : h.Ns mainGlobals mg) (F : Fun K x x st f fd) (hm : mg x = some (.ref f)) (T : TBs K mg base) (mem : (x, Pt) ∈ lamTabs)
    (one : ∀ p ∈ tbs, p.1 = Pt → p.2 = x ++ ".<locals>." ++ "<lambda>") : LamC mg base x fd.code := by
  obtain ⟨c, h1, h2⟩ := T _ mem
  obtain ⟨oc, od, kV, doc, pm, an, cdv, ct, osl, e, lk, hcd⟩ := F.ex
  have hc := PySem.W.law_code X G h1 hm (X _ _ lk) rfl
  exact ⟨c, Pt, hc, h2, List.mem_map.mpr ⟨_, mem, rfl⟩, one⟩
theorem LamC.lam {x : Str} {N : List Str} {sc : Scope} {f : Addr} {cdv : Value} {A : Around} {outer : List PySem.Env} {s : Shared} {H : Hp} {E : XK} (h : LamC mg base x cdv) : ∃ c Pt, LamM (cx P w K mg base N x sc f cdv A outer s H E) c Pt := by
  obtain ⟨c, Pt, h1, h2, h3, h4⟩ := h
  exact ⟨c, Pt, h2, h1, h3, h4⟩
def BodyPC (P : Program) (w : World) (K : Fg) (mg : Str → Option Value) (base : Heap) (k : Nat) (N ps : List Str) (x : Str) (st : Stmt) (n : Nat) (ds : List D) (Q : D → Prop) (R : Addr → List (Str × D) → Prop) : Prop :=
  ∀ (f : Addr) (cdv : Value) (A : Around) (outer : List PySem.Env) (s : Shared) (H : Hp) (E : XK), LamC mg base x cdv → Rm k (cx P w K mg base N x (defScope st) f cdv A outer s H E).A →
    SS (cx P w K mg base N x (defScope st) f cdv A outer s H E) (fun C fs Γ' => ps.length ≤ Γ'.length ∧ R C fs) n (defBody st) (ds.map .pv ++ List.replicate (N.length - ps.length) .no) { nx := fun Γ' => ps.length ≤ Γ'.length ∧ Q .none, rt := fun d' Γ' => ps.length ≤ Γ'.length ∧ Q d' }
theorem fnG_ofC {x qual : Str} {st : Stmt} {f : Addr} {fd : FuncData} {N ps : List Str} {k : Nat} {sp : Sp} (F : Fun K x qual st f fd) (S : FnScope N ps (defScope st)) (len : ∀ vs H Q E, sp vs H Q E → vs.length = ps.length)
    (hb : ∀ (cdv : Value) (A : Around) (outer : List PySem.Env) (s : Shared) (H : Hp) (vs : List V) (Q : VK) (E : XK), fd.code = cdv → Rm k (A.deeper (envOfC qual (defScope st) s.heap.objs.size f cdv)) → sp vs H Q E →
      ∃ t, PSs (cx P w K mg base N qual (defScope st) f cdv A outer s H E) (defBody st) t ∧ t { nx := fun _ H' => Q .non H', rt := Q } (start N vs) H) : FnG P w K mg base (k + 1) f fd ps sp := by
  obtain ⟨oc, od, kV, doc, pm, an, cdv, ct, osl, rfl, lk, hcd⟩ := F.ex
  refine ⟨len, fun A outer s H args us vs Q E hr en hbd rv hs => ?_⟩
  have hlen := len _ _ _ _ hs
  have inK : K.In s.heap := en.mod.kin.keeps fun b o e => (en.bs b o e).1
  have lim : s.heap.NoLimit := en.mod.nolimit.keeps fun b o e => (en.bs b o e).1
  have kinds : ∀ y ∈ ps.zip us, (defScope st).names.lookup y.1 = some .local ∨ ((defScope st).names.lookup y.1 = some .cell ∧ ((cellsFrom (s.heap.objs.size + 1) (defScope st).names []).lookup y.1).isSome = true) := by
    intro ⟨nm, v⟩ hy
    rcases S.par nm (List.of_mem_zip hy).1 with q | q
    · exact .inl q
    · exact .inr ⟨q, PySem.W.cellsFrom_some _ _ _ (.inl q)⟩
  refine codeAny_call_function hr.rm.depth (inK _ _ lk) rfl S.co S.gen rfl (PySem.W.codeRec_of inK hcd) (hbd _ _ _ _ ?_)
  refine wpAny_newFunctionEnv_cells S.kind kinds fun env he s1 ic => ?_
  subst he
  refine ⟨lim.keeps ic.toInCall.keep, codeAny_func ?_⟩
  obtain ⟨t, ht, q⟩ := hb cdv A outer s H vs Q E rfl ⟨hr.rm.deeper _, hr.gd⟩ hs
  have I := inv_start (CX := CX P w) (E := E) S hr.rm.hd en hlen rv ic
  have fin : ∀ {σ' : Sl} {H' : Hp} {v : V} {u : Value} {s' : Shared}, Inv (cx P w K mg base N qual (defScope st) f cdv A outer s H E) [] σ' H' s' → RelV v u → Q v H' → CE outer P w H s Q u s' :=
    fun J r2 q2 => ⟨_, _, J.os, J.bare, J.base, J.hok, r2, q2⟩
  refine wpAny_mono (ht.run [] s1 (start N vs) H _ I q) (fun fl s' hq => ?_) fun _ _ hq => hq
  cases fl with
  | ret u =>
    obtain ⟨v, σ', H', J, r2, q2⟩ := hq
    exact fin J r2 q2
  | next =>
    obtain ⟨σ', H', J, q2⟩ := hq
    exact fin (v := V.non) (u := Value.none) J rfl q2
  | brk =>
    obtain ⟨_, _, _, z⟩ := hq
    exact z.elim
  | cont =>
    obtain ⟨_, _, _, z⟩ := hq
    exact z.elim
theorem df_pC {x : Str} {st : Stmt} {f : Addr} {fd : FuncData} {N ps : List Str} {k n : Nat} {S : List D → D → Prop} (F : Fun K x x st f fd) (S0 : FnScope N ps (defScope st)) (hm : mg x = some (.ref f)) (hC : LamC mg base x fd.code)
    (bd : ∀ (qual : Str) (kV doc pm : Value) (an : Option Addr) (cdv ct : Value) (us : List Value), us.length = ps.length → bindArgs (PySem.W.fnOf x qual (defArgs st) (defBody st) (defScope st) .none kV doc pm an cdv ct) ⟨us, []⟩ = pure (ps.zip us))
    (hl : ∀ ds d, S ds d → ds.length = ps.length) (hb : ∀ ds d, S ds d → BodyPC P w K mg base k N ps x st n ds (fun d' => d' = d) (fun _ _ => False)) : Df P w K mg base (k + 1) x st ps n (pfs S) := by
  refine ⟨⟨x, f, fd, F, ?_, hm⟩, bd⟩
  refine fnG_ofC F S0 (fun vs H Q E h => h.1) fun cdv A outer s H vs Q E ec hr h => ?_
  obtain ⟨hln, Γ, fp, Pd, R, ⟨ds, d, e, hS, hq⟩, hE, hk, hx⟩ := h
  subst e
  have lenΓ : (ds.map SV.pv).length = ps.length := by rw [List.length_map]; exact hl ds d hS
  refine ⟨_, (body_ret (Q := Pd) (hl ds d hS) (hb ds d hS f cdv A outer s H E (ec ▸ hC) hr) hq : SS (cx P w K mg base N x (defScope st) f cdv A outer s H E) (finX (ds.map .pv) R) n (defBody st) (ds.map .pv ++ List.replicate (N.length - ps.length) .no) (fin (ds.map .pv) Pd)) _ (takes_of rfl rfl rfl rfl), fp, ⟨by rw [← hln]; exact start_ok hE.1, hE.2⟩, ?_, ?_, ?_, ?_, ?_⟩
  · intro σ' Γ' H' fp' ⟨hl', p⟩ E1 f1
    obtain ⟨fq, q1, q2⟩ := sh_ok hE.1 hl' E1.1
    refine hk .non .none [] _ H' fq p ?_ q2 (E1.2.sublist q1) (f1.sub fun a m => q1.subset m)
    cases n with
    | zero => exact ⟨.non, rfl⟩
    | succ n => exact .inr (.inr ⟨trivial, .non, rfl⟩)
  · intro v d fv σ' Γ' H' fp' ⟨hl', p⟩ o E1 nd f1
    obtain ⟨fq, q1, q2⟩ := sh_ok hE.1 hl' E1
    refine hk v d fv _ H' fq p o q2 (nd.sublist (q1.append_left fv)) (f1.sub fun a m => ?_)
    rcases List.mem_append.mp m with m | m
    · exact List.mem_append_left _ m
    · exact List.mem_append_right _ (q1.subset m)
  · intro σ' Γ' H' fp' z; exact z.elim
  · intro σ' Γ' H' fp' z; exact z.elim
  · intro C dd gs Γ' σ' H' fp' ⟨hl', r⟩ hf' E1 f1
    obtain ⟨fq, q1, q2⟩ := sh_ok hE.1 hl' E1.1
    exact hx C dd gs _ H' fq r hf' ⟨q2, E1.2.sublist q1⟩ (f1.sub fun a m => q1.subset m)
/-- a def that gets a function -/
theorem dfT_of {x a : Str} {st : Stmt} {f : Addr} {fd : FuncData} {N : List Str} {k : Nat} {T : Out → D → Prop} (F : Fun K x x st f fd) (S0 : FnScope N [a] (defScope st)) (hm : mg x = some (.ref f))
    (bd : ∀ (qual : Str) (kV doc pm : Value) (an : Option Addr) (cdv ct : Value) (us : List Value), us.length = 1 → bindArgs (PySem.W.fnOf x qual (defArgs st) (defBody st) (defScope st) .none kV doc pm an cdv ct) ⟨us, []⟩ = pure ([a].zip us))
    (hb : ∀ (cdv : Value) (A : Around) (outer : List PySem.Env) (s : Shared) (H : Hp) (E : XK) (u : Addr) (F : Hp → Prop) (o : Out), Rm (k + 1) (A.deeper (envOfC x (defScope st) s.heap.objs.size f cdv)) → (∃ d, T o d) → ActP P w K mg base k A outer s H u F o →
      SS (cx P w K mg base N x (defScope st) f cdv A outer s H E) noX 0 (defBody st) (.fx (.ref u) F :: List.replicate (N.length - 1) .no) { nx := fun _ => False, rt := fun d _ => T o d }) : DfT P w K mg base k x st T :=
  ⟨f, fd, a, N, F, hm, S0, F.kp, bd, hb⟩
end
end DL
set_option Elab.async false
set_option linter.all false
set_option maxRecDepth 100000
set_option maxHeartbeats 8000000
set_option pp.maxSteps 600
namespace KX
open PySem PySem.Spec PyProof.Rows L2 DL GA
abbrev tdD (d : D) : D := .tuple [.str "told", d]
abbrev wbD (d : D) : D := .tuple [.str "web", d, .bool false]
abbrev rmD (d : D) : D := .tuple [.str "room", d, .bool false]
abbrev lnD (d : D) : D := .tuple [.str "length", d, .bool false]
/-! ### the law's own asking: what a lambda gives, as a tuple -/
def T_told7 (CW CR CL : Addr) : Out → D → Prop := fun o d => (∃ x, o = .ret x ∧ d = tdD x) ∨ (∃ x, o = .exn CW (xTh x) ∧ d = wbD x) ∨ (∃ x, o = .exn CR (xTh x) ∧ d = rmD x) ∨ ∃ x, o = .exn CL (xTh x) ∧ d = lnD x
structure Dst (CW CR CL : Addr) : Prop where
  wr : CW ≠ CR
  wl : CW ≠ CL
  rl : CR ≠ CL
theorem told_fun7 {CW CR CL : Addr} {o : Out} {d d' : D} (hne : Dst CW CR CL) (h : T_told7 CW CR CL o d) (h' : T_told7 CW CR CL o d') : d' = d := by
  obtain ⟨h1, h2, h3⟩ := hne
  rcases h with ⟨x, e, rfl⟩ | ⟨x, e, rfl⟩ | ⟨x, e, rfl⟩ | ⟨x, e, rfl⟩ <;> rcases h' with ⟨y, e', rfl⟩ | ⟨y, e', rfl⟩ | ⟨y, e', rfl⟩ | ⟨y, e', rfl⟩ <;> rw [e] at e' <;>
    first | (cases e'; rfl) | (cases e'; first | exact absurd rfl h1 | exact absurd rfl h2 | exact absurd rfl h3) | cases e'
section
variable {P : Program} {w : World} {K : Fg} {mg : Str → Option Value} {base : Heap} (G : Fre mg)
include G
abbrev kitI (K : Fg) (C C' : Addr) (b : Bool) : Prop := PySem.W.kitOne K (.ref C) (.ref C') = some b
abbrev exI (K : Fg) (C C' : Addr) (b : Bool) : Prop := PySem.W.exmOne K (.ref C) (.ref C') = some b
end
/-! ### what is due -/
def unTb : D → List (List Int)
  | .tuple ds => ds.map fun r => match r with
    | .tuple es => es.map fun e => match e with
      | .int i => i
      | _ => 0
    | _ => []
  | _ => []
theorem unTb_tb (T : List (List Int)) : unTb (tb T) = T := by
  show (T.map rowD).map _ = T
  rw [List.map_map]
  conv => rhs; rw [← List.map_id T]
  refine List.map_congr_left fun r _ => ?_
  simp only [Function.comp, rowD, List.map_map]
  conv => rhs; rw [id, ← List.map_id r]
  exact List.map_congr_left fun _ _ => rfl
def natD : D → Nat
  | .int i => i.toNat
  | _ => 0
def dW (x l : D) : D := if isFrom 0 l = true then tdD (tb (pwT (unTb x).length (unTb x) (natD l))) else lnD l
def dR (x i j l : D) : D := if isBet 0 (((unTb x).length : Nat) - 1) i = false then rmD i else if isBet 0 (((unTb x).length : Nat) - 1) j = false then rmD j else
  if isFrom 0 l = true then tdD (.int (pw (unTb x).length (ent (unTb x)) (natD l) (natD i) (natD j))) else lnD l
def dC (x l : D) : D := if isFrom 1 l = true then tdD (.int (tr (unTb x).length (ent (unTb x)) (natD l))) else lnD l
def dN (x l : D) : D := if isFrom 1 l = true then tdD (.int (toldN (unTb x).length (unTb x) (natD l))) else lnD l
noncomputable def dues (x i j l : D) : List D := if isWebB x = true then [dW x l, dR x i j l, dC x l, dN x l] else [wbD x, wbD x, wbD x, wbD x]
/-- within the limits of the document -/
structure Lim7 (x l : D) : Prop where
  web : ∀ n T, x = tb T → Web n T → n ≤ 5 ∧ ∀ i j, ent T i j ≤ 6
  len : ∀ v, l = .int v → v ≤ 40
theorem Lim7.sm {x l : D} (h : Lim7 x l) {n : Nat} {T : List (List Int)} (hx : x = tb T) (hT : Web n T) : Sm20 n T := fun i j _ _ => Int.le_trans ((h.web n T hx hT).2 i j) (by decide)
theorem from_of {a : Int} {l : D} (h : isFrom a l = true) : ∃ v, l = .int v ∧ a ≤ v := by
  cases l <;> first | (cases h; done) | exact ⟨_, rfl, of_decide_eq_true h⟩
theorem bet_of {a b : Int} {l : D} (h : isBet a b l = true) : ∃ v, l = .int v ∧ a ≤ v ∧ v ≤ b := by
  cases l <;> first | (cases h; done) | exact ⟨_, rfl, of_decide_eq_true h⟩
structure Due7 (CW CR CL : Addr) (x i j l : D) (o1 o2 o3 o4 : Out) (d1 d2 d3 d4 : D) : Prop where
  a1 : S_power CW CL [x, l] o1
  a2 : S_walks CW CR CL [x, i, j, l] o2
  a3 : S_closed CW CL [x, l] o3
  a4 : S_rounds CW CL [x, l] o4
  t1 : T_told7 CW CR CL o1 d1
  t2 : T_told7 CW CR CL o2 d2
  t3 : T_told7 CW CR CL o3 d3
  t4 : T_told7 CW CR CL o4 d4
theorem due7_ex (CW CR CL : Addr) {x i j l : D} (ox : okD x = true) (oi : okD i = true) (oj : okD j = true) (ol : okD l = true) (hl : Lim7 x l) : ∃ o1 o2 o3 o4 d1 d2 d3 d4, Due7 CW CR CL x i j l o1 o2 o3 o4 d1 d2 d3 d4 ∧ dues x i j l = [d1, d2, d3, d4] := by
  have ri := ok_real oi
  have rj := ok_real oj
  have rl := ok_real ol
  unfold dues
  cases hw : isWebB x with
  | false => exact ⟨_, _, _, _, wbD x, wbD x, wbD x, wbD x, ⟨⟨x, l, rfl, ox, rl, .inl ⟨hw, rfl⟩⟩, ⟨x, i, j, l, rfl, ox, ri, rj, rl, .inl ⟨hw, rfl⟩⟩, ⟨x, l, rfl, ox, rl, .inl ⟨hw, rfl⟩⟩, ⟨x, l, rfl, ox, rl, .inl ⟨hw, rfl⟩⟩, .inr (.inl ⟨x, rfl, rfl⟩), .inr (.inl ⟨x, rfl, rfl⟩), .inr (.inl ⟨x, rfl, rfl⟩), .inr (.inl ⟨x, rfl, rfl⟩)⟩, rfl⟩
  | true =>
    obtain ⟨n, T, hT, rfl⟩ := isWeb_of hw
    have hs := hl.sm rfl hT
    have l1 := hT.tbl.len
    have n1 := hT.tbl.n1
    rw [if_pos rfl]
    have c1 : ∃ o1, S_power CW CL [tb T, l] o1 ∧ T_told7 CW CR CL o1 (dW (tb T) l) := by
      unfold dW
      rw [unTb_tb, l1]
      cases h : isFrom 0 l with
      | false => exact ⟨_, ⟨_, l, rfl, ox, rl, .inr ⟨n, T, hT, hs, rfl, .inl ⟨h, rfl⟩⟩⟩, .inr (.inr (.inr ⟨l, rfl, by rw [if_neg (by simp)]⟩))⟩
      | true =>
        obtain ⟨v, rfl, h0⟩ := from_of h
        have := hl.len v rfl
        obtain ⟨L, rfl⟩ := Int.eq_ofNat_of_zero_le h0
        exact ⟨_, ⟨_, _, rfl, ox, rl, .inr ⟨n, T, hT, hs, rfl, .inr ⟨L, by omega, rfl, rfl⟩⟩⟩, .inl ⟨_, rfl, by rw [if_pos rfl]; rfl⟩⟩
    have c2 : ∃ o2, S_walks CW CR CL [tb T, i, j, l] o2 ∧ T_told7 CW CR CL o2 (dR (tb T) i j l) := by
      unfold dR
      rw [unTb_tb, l1]
      cases hi : isBet 0 ((n : Nat) - 1) i with
      | false => exact ⟨_, ⟨_, i, j, l, rfl, ox, ri, rj, rl, .inr ⟨n, T, hT, hs, rfl, .inl ⟨hi, rfl⟩⟩⟩, .inr (.inr (.inl ⟨i, rfl, by rw [if_pos rfl]⟩))⟩
      | true =>
      cases hj : isBet 0 ((n : Nat) - 1) j with
      | false => exact ⟨_, ⟨_, i, j, l, rfl, ox, ri, rj, rl, .inr ⟨n, T, hT, hs, rfl, .inr (.inl ⟨hi, hj, rfl⟩)⟩⟩, .inr (.inr (.inl ⟨j, rfl, by rw [if_neg (by simp), if_pos rfl]⟩))⟩
      | true =>
      cases h : isFrom 0 l with
      | false => exact ⟨_, ⟨_, i, j, l, rfl, ox, ri, rj, rl, .inr ⟨n, T, hT, hs, rfl, .inr (.inr (.inl ⟨hi, hj, h, rfl⟩))⟩⟩, .inr (.inr (.inr ⟨l, rfl, by rw [if_neg (by simp), if_neg (by simp), if_neg (by simp)]⟩))⟩
      | true =>
        obtain ⟨v, rfl, h0⟩ := from_of h
        have := hl.len v rfl
        obtain ⟨a, rfl, a0, a1⟩ := bet_of hi
        obtain ⟨b, rfl, b0, b1⟩ := bet_of hj
        obtain ⟨L, rfl⟩ := Int.eq_ofNat_of_zero_le h0
        obtain ⟨a, rfl⟩ := Int.eq_ofNat_of_zero_le a0
        obtain ⟨b, rfl⟩ := Int.eq_ofNat_of_zero_le b0
        exact ⟨_, ⟨_, _, _, _, rfl, ox, ri, rj, rl, .inr ⟨n, T, hT, hs, rfl, .inr (.inr (.inr ⟨a, b, L, by omega, by omega, by omega, rfl, rfl, rfl, rfl⟩))⟩⟩, .inl ⟨_, rfl, by rw [if_neg (by simp), if_neg (by simp), if_pos rfl]; rfl⟩⟩
    have c3 : ∃ o3, S_closed CW CL [tb T, l] o3 ∧ T_told7 CW CR CL o3 (dC (tb T) l) := by
      unfold dC
      rw [unTb_tb, l1]
      cases h : isFrom 1 l with
      | false => exact ⟨_, ⟨_, l, rfl, ox, rl, .inr ⟨n, T, hT, hs, rfl, .inl ⟨h, rfl⟩⟩⟩, .inr (.inr (.inr ⟨l, rfl, by rw [if_neg (by simp)]⟩))⟩
      | true =>
        obtain ⟨v, rfl, h0⟩ := from_of h
        have := hl.len v rfl
        obtain ⟨L, rfl⟩ := Int.eq_ofNat_of_zero_le (show 0 ≤ v by omega)
        exact ⟨_, ⟨_, _, rfl, ox, rl, .inr ⟨n, T, hT, hs, rfl, .inr ⟨L, by omega, by omega, rfl, rfl⟩⟩⟩, .inl ⟨_, rfl, by rw [if_pos rfl]; rfl⟩⟩
    have c4 : ∃ o4, S_rounds CW CL [tb T, l] o4 ∧ T_told7 CW CR CL o4 (dN (tb T) l) := by
      unfold dN
      rw [unTb_tb, l1]
      cases h : isFrom 1 l with
      | false => exact ⟨_, ⟨_, l, rfl, ox, rl, .inr ⟨n, T, hT, hs, rfl, .inl ⟨h, rfl⟩⟩⟩, .inr (.inr (.inr ⟨l, rfl, by rw [if_neg (by simp)]⟩))⟩
      | true =>
        obtain ⟨v, rfl, h0⟩ := from_of h
        have := hl.len v rfl
        obtain ⟨L, rfl⟩ := Int.eq_ofNat_of_zero_le (show 0 ≤ v by omega)
        exact ⟨_, ⟨_, _, rfl, ox, rl, .inr ⟨n, T, hT, hs, rfl, .inr ⟨L, by omega, by omega, rfl, rfl⟩⟩⟩, .inl ⟨_, rfl, by rw [if_pos rfl]; rfl⟩⟩
    obtain ⟨o1, p1, q1⟩ := c1
    obtain ⟨o2, p2, q2⟩ := c2
    obtain ⟨o3, p3, q3⟩ := c3
    obtain ⟨o4, p4, q4⟩ := c4
    exact ⟨o1, o2, o3, o4, _, _, _, _, ⟨p1, p2, p3, p4, q1, q2, q3, q4⟩, rfl⟩
end KX
set_option Elab.async false
set_option linter.all false
set_option maxRecDepth 100000
set_option maxHeartbeats 8000000
set_option pp.maxSteps 600
namespace KX
open PySem PySem.Spec PyProof.Rows L2 DL GA
/-! ### how great the numbers are -/
theorem pw_bd5 {n : Nat} {A : Nat → Nat → Int} (h5 : n ≤ 5) (h : ∀ i j, i < n → j < n → 0 ≤ A i j ∧ A i j ≤ 6) : ∀ (k i j : Nat), i < n → 0 ≤ pw n A k i j ∧ pw n A k i j ≤ 30 ^ k
  | 0, i, j, _ => by
    show 0 ≤ (if i = j then (1 : Int) else 0) ∧ (if i = j then (1 : Int) else 0) ≤ 30 ^ 0
    split <;> decide
  | k + 1, i, j, hi => by
    have ih := pw_bd5 h5 h k
    have hp : (0 : Int) ≤ 30 ^ k := Int.le_of_lt (Int.pow_pos (by decide))
    refine ⟨sg_nonneg fun m hm => Int.mul_nonneg (h i m hi (List.mem_range.mp hm)).1 (ih m j (List.mem_range.mp hm)).1, ?_⟩
    have e1 : sg (List.range n) (fun m => A i m * pw n A k m j) ≤ sg (List.range n) fun _ => 6 * 30 ^ k := sg_le fun m hm => by
      have hm := List.mem_range.mp hm
      have h1 := h i m hi hm
      have h2 := ih m j hm
      exact Int.le_trans (Int.mul_le_mul_of_nonneg_left h2.2 h1.1) (Int.mul_le_mul_of_nonneg_right h1.2 hp)
    rw [sg_const, List.length_range] at e1
    have e2 : (n : Int) * (6 * 30 ^ k) ≤ 5 * (6 * 30 ^ k) := Int.mul_le_mul_of_nonneg_right (by omega) (Int.mul_nonneg (by decide) hp)
    have e3 : (30 : Int) ^ (k + 1) = 30 * 30 ^ k := by rw [Int.pow_succ, Int.mul_comm]
    show sg (List.range n) (fun m => A i m * pw n A k m j) ≤ _
    omega
def Bnd (v : Int) : Prop := v.natAbs < 10 ^ 90
theorem bnd_of {v : Int} (h0 : 0 ≤ v) (h : v ≤ 5 * 30 ^ 40) : Bnd v := by
  have h1 : v.natAbs ≤ 5 * 30 ^ 40 := by omega
  exact Nat.lt_of_le_of_lt h1 (by decide)
theorem pow_le {k : Nat} (h : k ≤ 40) : (30 : Int) ^ k ≤ 30 ^ 40 := by
  have : (30 : Nat) ^ k ≤ 30 ^ 40 := Nat.pow_le_pow_right (by decide) h
  exact_mod_cast this
section
variable {n : Nat} {T : List (List Int)} (hT : Tbl n T) (h5 : n ≤ 5) (hb : ∀ i j, ent T i j ≤ 6)
include hT h5 hb
theorem small5 : ∀ i j, i < n → j < n → 0 ≤ ent T i j ∧ ent T i j ≤ 6 := fun i j _ _ => ⟨ent_pos hT i j, hb i j⟩
theorem tr_bd5 {L : Nat} (hL : L ≤ 40) : 0 ≤ tr n (ent T) L ∧ tr n (ent T) L ≤ 5 * 30 ^ 40 := by
  have h := fun i (hi : i ∈ List.range n) => pw_bd5 h5 (small5 hT h5 hb) L i i (List.mem_range.mp hi)
  refine ⟨sg_nonneg fun i hi => (h i hi).1, ?_⟩
  have e1 : tr n (ent T) L ≤ sg (List.range n) fun _ => 30 ^ 40 := sg_le fun i hi => Int.le_trans (h i hi).2 (pow_le hL)
  rw [sg_const, List.length_range] at e1
  exact Int.le_trans e1 (Int.mul_le_mul_of_nonneg_right (by omega) (by decide))
end
theorem prim_pos {S : List Ar} {d : Nat} : 0 ≤ prim S d := by
  unfold prim
  rw [cnt_len]; omega
/-- the told rounds' numbers exist, and are what the Moebius sums tell -/
theorem told_ex {n : Nat} {T : List (List Int)} (hT : Tbl n T) : ∃ M, MFor (tr n (ent T)) M ∧ ∀ L, 1 ≤ L → L < 41 → toldN n T L = M L ∧ 0 ≤ M L ∧ M L ≤ tr n (ent T) L := by
  obtain ⟨M, h1, h2⟩ := gauss (n := n) (A := ent T) fun i j _ _ => ent_pos hT i j
  have pos : ∀ d, 1 ≤ d → 0 ≤ M d := fun d hd => by
    have a := h1 d hd
    have b := prim_pos (S := arrs n (ent T)) (d := d)
    rw [a] at b
    exact Int.nonneg_of_mul_nonneg_right b (by omega)
  refine ⟨M, h2, fun L hL h41 => ⟨?_, pos L hL, ?_⟩⟩
  · unfold toldN
    rw [told_mob h2 hL h41, Int.mul_ediv_cancel_left _ (by omega)]
  · have e := told_less h2 hL
    have s0 : 0 ≤ sg ((List.range L).filter fun d => decide (L % d = 0)) (fun d => d * M d) := sg_nonneg fun d hd => by
      rcases Nat.eq_zero_or_pos d with z | z
      · subst z; simp
      · exact Int.mul_nonneg (by omega) (pos d z)
    have : M L ≤ (L : Int) * M L := by
      have := Int.mul_le_mul_of_nonneg_right (show (1 : Int) ≤ L by omega) (pos L hL)
      omega
    omega
theorem vw_intB {v : Int} (h : Bnd v) : Vw 1000 0 (.int v) := ⟨decide_eq_true h, by simp [PyData.depth], by simp [wt]⟩
theorem vw_tbB {n : Nat} {T : List (List Int)} (hT : Tbl n T) (hb : ∀ i j, i < n → j < n → Bnd (ent T i j)) : Vw 70000 2 (tb T) := by
  have l1 := hT.len
  have l2 := hT.n8
  refine vw_tup (k := 1) (fun d m => ?_) ?_
  · obtain ⟨r, hr, rfl⟩ := List.mem_map.mp m
    refine ⟨?_, ?_⟩
    · simp only [rowD, gd, gdA_iff]
      intro d m
      obtain ⟨x, hx, rfl⟩ := List.mem_map.mp m
      obtain ⟨i, hi, rfl⟩ := List.mem_iff_getElem.mp hr
      obtain ⟨j, hj, rfl⟩ := List.mem_iff_getElem.mp hx
      have e : T[i][j] = ent T i j := by simp [ent, row, hi, hj]
      have hr := hT.rows _ hr
      rw [e]
      exact decide_eq_true (hb i j (by omega) (by omega))
    · simp only [rowD, PyData.depth]
      have := depthA_le (k := 0) (ds := r.map PyData.int) fun d m => by
        obtain ⟨x, _, rfl⟩ := List.mem_map.mp m
        exact Nat.le_refl _
      omega
  · have wi : ∀ r : List Int, wtA (r.map .int) = 1002 * r.length := fun r => by
      induction r with
      | nil => rfl
      | cons a r ih => simp only [List.map_cons, wtA, wt, List.length_cons]; omega
    have wr : ∀ T : List (List Int), (∀ r ∈ T, r.length = n) → wtA (T.map rowD) = (1002 * n + 102) * T.length := fun T h => by
      induction T with
      | nil => rfl
      | cons r T ih =>
        have ih := ih fun x m => h x (List.mem_cons_of_mem _ m)
        have h1 := h r List.mem_cons_self
        have h2 := wi r
        rw [h1] at h2
        show wt (.tuple (r.map .int)) + 2 + wtA (T.map rowD) = _
        simp only [wt, List.length_cons]
        rw [ih, h2, Nat.mul_succ]; omega
    rw [wr T hT.rows, l1]
    have : (1002 * n + 102) * n ≤ (1002 * 8 + 102) * 8 := Nat.mul_le_mul (by omega) l2
    omega
theorem vw_word {N k : Nat} {d : D} (s : Str) (hs : (reprText s).length ≤ 1000) (h : Vw N k d) : Vw (N + 3000) (k + 1) (.tuple [.str s, d, .bool false]) ∧ Vw (N + 3000) (k + 1) (.tuple [.str s, d]) := by
  have g1 : gd (.str s) = true := decide_eq_true hs
  have e1 : (PyData.str s).depth = 0 := rfl
  have e2 : (PyData.bool false).depth = 0 := rfl
  have hw := h.wt
  refine ⟨vw_tup (fun e m => ?_) (by simp [wtA, wt]; omega), vw_tup (fun e m => ?_) (by simp [wtA, wt]; omega)⟩
  · simp only [List.mem_cons, List.not_mem_nil, or_false] at m
    rcases m with rfl | rfl | rfl
    · exact ⟨g1, by omega⟩
    · exact ⟨h.gd, h.dp⟩
    · exact ⟨rfl, by omega⟩
  · simp only [List.mem_cons, List.not_mem_nil, or_false] at m
    rcases m with rfl | rfl
    · exact ⟨g1, by omega⟩
    · exact ⟨h.gd, h.dp⟩
theorem wtA_le {N : Nat} : ∀ {ds : List D}, (∀ d ∈ ds, wt d ≤ N) → wtA ds ≤ (N + 2) * ds.length
  | [], _ => Nat.zero_le _
  | d :: ds, h => by
    have := wtA_le (ds := ds) fun x m => h x (List.mem_cons_of_mem _ m)
    have := h d List.mem_cons_self
    simp only [wtA, List.length_cons, Nat.mul_succ]; omega
theorem rp_list {ds : List D} (h : ∀ d ∈ ds, Vw 600000 30 d) (hl : ds.length ≤ 20) : RpOk (.list ds) ∧ RpOk (.tuple ds) := by
  have w1 := wtA_le (ds := ds) fun d m => (h d m).wt
  have w2 : (600000 + 2) * ds.length ≤ (600000 + 2) * 20 := Nat.mul_le_mul_left _ hl
  have v1 : Vw 13000000 31 (.list ds) := vw_lst (fun d m => ⟨(h d m).gd, (h d m).dp⟩) (by omega)
  have v2 : Vw 13000000 31 (.tuple ds) := vw_tup (fun d m => ⟨(h d m).gd, (h d m).dp⟩) (by omega)
  have h1 := v1.wt
  have h2 := v1.dp
  have h3 := v2.wt
  have h4 := v2.dp
  exact ⟨rp_gd v1.gd (by omega) (by omega), rp_gd v2.gd (by omega) (by omega)⟩
theorem dues_vw {x i j l : D} (hx : Vw 200000 24 x) (hi : Vw 200000 24 i) (hj : Vw 200000 24 j) (hl : Vw 200000 24 l) (lim : Lim7 x l) : ∀ d ∈ dues x i j l, Vw 600000 30 d := by
  have w1 : (reprText "told").length ≤ 1000 := by decide +kernel
  have w2 : (reprText "web").length ≤ 1000 := by decide +kernel
  have w3 : (reprText "room").length ≤ 1000 := by decide +kernel
  have w4 : (reprText "length").length ≤ 1000 := by decide +kernel
  have up : ∀ {N k : Nat} {d : D}, N ≤ 600000 → k ≤ 30 → Vw N k d → Vw 600000 30 d := fun h1 h2 v => v.mono h1 h2
  have vl : Vw 600000 30 (lnD l) := up (by decide) (by decide) (vw_word "length" w4 hl).1
  have vi : ∀ {v : Int}, Bnd v → Vw 600000 30 (tdD (.int v)) := fun h => up (by decide) (by decide) (vw_word "told" w1 (vw_intB h)).2
  unfold dues
  cases hw : isWebB x with
  | false =>
    have vx : Vw 600000 30 (wbD x) := up (by decide) (by decide) (vw_word "web" w2 hx).1
    intro d m
    simp only [Bool.false_eq_true, if_false, List.mem_cons, List.not_mem_nil, or_false] at m
    rcases m with rfl | rfl | rfl | rfl <;> exact vx
  | true =>
    obtain ⟨n, T, hT, rfl⟩ := isWeb_of hw
    obtain ⟨h5, h6⟩ := lim.web n T rfl hT
    have l1 := hT.tbl.len
    have lt : ∀ {v : Int}, l = .int v → v ≤ 40 := fun e => lim.len _ e
    have len40 : ∀ {a}, isFrom a l = true → natD l ≤ 40 := fun {a} h => by
      obtain ⟨v, rfl, _⟩ := from_of h
      have := lim.len v rfl
      show v.toNat ≤ 40
      omega
    have bp : ∀ {a}, isFrom a l = true → ∀ i j, i < n → Bnd (pw n (ent T) (natD l) i j) := fun h i j hi => by
      have b := pw_bd5 h5 (small5 hT.tbl h5 h6) (natD l) i j hi
      have p := pow_le (len40 h)
      have q : (30 : Int) ^ 40 ≤ 5 * 30 ^ 40 := by decide
      exact bnd_of b.1 (Int.le_trans b.2 (Int.le_trans p q))
    intro d m
    rw [if_pos rfl] at m
    simp only [List.mem_cons, List.not_mem_nil, or_false] at m
    have hs := lim.sm rfl hT
    rcases m with rfl | rfl | rfl | rfl
    · unfold dW
      split
      · rename_i h
        rw [unTb_tb, l1]
        exact up (by decide) (by decide) (vw_word "told" w1 (vw_tbB (pwT_tbl hT.tbl hs _) fun i j hi hj => by rw [pwT_ent hi hj]; exact bp h i j hi)).2
      · exact vl
    · unfold dR
      rw [unTb_tb, l1]
      split
      · exact up (by decide) (by decide) (vw_word "room" w3 hi).1
      · rename_i h1
        split
        · exact up (by decide) (by decide) (vw_word "room" w3 hj).1
        · split
          · rename_i h
            obtain ⟨v, e, v0, v1⟩ := bet_of (show isBet 0 ((n : Nat) - 1) i = true by simpa using h1)
            have n1 := hT.tbl.n1
            exact vi (bp h _ _ (by rw [e]; show v.toNat < n; omega))
          · exact vl
    · unfold dC
      rw [unTb_tb, l1]
      split
      · rename_i h
        have b := tr_bd5 hT.tbl h5 h6 (len40 h)
        exact vi (bnd_of b.1 b.2)
      · exact vl
    · unfold dN
      rw [unTb_tb, l1]
      split
      · rename_i h
        obtain ⟨M, _, hM⟩ := told_ex hT.tbl
        obtain ⟨v, e, v1⟩ := from_of h
        have h40 := len40 h
        have b := tr_bd5 hT.tbl h5 h6 h40
        obtain ⟨e1, m0, m1⟩ := hM (natD l) (by rw [e]; show 1 ≤ v.toNat; omega) (by omega)
        rw [e1]
        exact vi (bnd_of m0 (Int.le_trans m1 b.2))
      · exact vl
end KX
set_option Elab.async false
set_option linter.all false
set_option maxRecDepth 100000
set_option maxHeartbeats 8000000
set_option pp.maxSteps 600
namespace KX
open PySem PySem.Spec PyProof.Rows L2 DL GA
theorem bl_le (c : Nat → Int) : ∀ n, 1 ≤ bl c n ∧ bl c n ≤ n + 1
  | 0 => ⟨Nat.le_refl _, Nat.le_refl _⟩
  | k + 1 => by
    have := bl_le c k
    unfold bl
    split <;> omega
theorem bl_zero (c : Nat → Int) : ∀ n q, bl c n ≤ q → q ≤ n → c q = 0
  | 0, q, h, h' => by
    have : bl c 0 = 1 := rfl
    omega
  | k + 1, q, h, h' => by
    unfold bl at h
    split at h
    · rename_i e
      rcases Nat.lt_or_ge k q with z | z
      · rw [show q = k + 1 by omega]; exact e
      · exact bl_zero c k q h z
    · omega
theorem bl_last {c : Nat → Int} (h : c 0 = 1) : ∀ n, c (bl c n - 1) ≠ 0
  | 0 => by rw [show bl c 0 - 1 = 0 from rfl, h]; decide
  | k + 1 => by
    unfold bl
    split
    · exact bl_last h k
    · rename_i e
      exact e
theorem bl_sum (c f : Nat → Int) : ∀ n, sg (List.range (n + 1)) (fun q => c q * f q) = sg (List.range (bl c n)) fun q => c q * f q
  | 0 => rfl
  | k + 1 => by
    unfold bl
    split
    · rename_i e
      rw [List.range_succ, sg_app, sg_cons, sg_nil, e, bl_sum c f k]; omega
    · rfl
/-- the table obeys its polynomial from the exponent n on -/
theorem bot_ch {n : Nat} {A : Nat → Nat → Int} {c : Nat → Int} (B : Bot n A c) {e i j : Nat} (he : n ≤ e) (hi : i < n) (hj : j < n) : sg (List.range (bl c n)) (fun q => c q * pw n A (e - q) i j) = 0 := by
  rw [← bl_sum c (fun q => pw n A (e - q) i j) n]
  have e1 : sg (List.range (n + 1)) (fun q => c q * pw n A (e - q) i j) = sg (List.range (n + 1)) fun q => sg (List.range n) fun m => (c q * pw n A (n - q) i m) * pw n A (e - n) m j := sg_congr fun q hq => by
    have hq := List.mem_range.mp hq
    rw [show e - q = (n - q) + (e - n) by omega, ← pw_add (n - q) (e - n) i j hi]
    show c q * sg (List.range n) (fun k => pw n A (n - q) i k * pw n A (e - n) k j) = _
    rw [← sg_mul]
    exact sg_congr fun m _ => by rw [Int.mul_assoc]
  rw [e1, sg_swap]
  refine sg_none fun m hm => ?_
  have hm := List.mem_range.mp hm
  rw [sg_mulR, B.2.2.2 i m hi hm, Int.zero_mul]
/-- and so do the closed numbers -/
theorem bot_tr {n : Nat} {A : Nat → Nat → Int} {c : Nat → Int} (B : Bot n A c) {L : Nat} (h1 : 1 ≤ L) : (if L < bl c n then (L : Int) * c L else 0) + sg (List.range (min L (bl c n))) (fun q => c q * tr n A (L - q)) = 0 := by
  have hb := bl_le c n
  rcases Nat.lt_or_ge n L with h | h
  · rw [if_neg (by omega), Nat.min_eq_right (by omega)]
    have e1 : sg (List.range (bl c n)) (fun q => c q * tr n A (L - q)) = sg (List.range n) fun i => sg (List.range (bl c n)) fun q => c q * pw n A (L - q) i i := by
      rw [sg_swap]
      exact sg_congr fun q _ => by rw [sg_mul]; rfl
    rw [e1, sg_none fun i hi => bot_ch B (by omega) (List.mem_range.mp hi) (List.mem_range.mp hi)]; rfl
  · have e := B.2.1 L h1 h
    rcases Nat.lt_or_ge L (bl c n) with z | z
    · rw [if_pos z, Nat.min_eq_left (by omega), e]; omega
    · rw [if_neg (by omega), Nat.min_eq_right z]
      have e0 : c L = 0 := bl_zero c n L z h
      rw [e0, Int.mul_zero] at e
      have e1 : sg (List.range L) (fun q => c q * tr n A (L - q)) = sg (List.range (bl c n)) fun q => c q * tr n A (L - q) := by
        obtain ⟨d, rfl⟩ : ∃ d, L = bl c n + d := ⟨L - bl c n, by omega⟩
        rw [List.range_add, sg_app]
        rw [sg_none (l := List.map _ _) fun q hq => by
          obtain ⟨r, hr, rfl⟩ := List.mem_map.mp hq
          have hr := List.mem_range.mp hr
          rw [bl_zero c n _ (by omega) (by omega), Int.zero_mul]]
        omega
      rw [← e1]; omega
theorem at_back {α : Type} {l : List α} {x : α} {m a : Nat} (hl : l.length = m + 1) (ha : a ≤ m) (h : l[m - a]? = some x) : L2.atI l (-1 - (a : Int)) = some x := by
  have e : ixN l.length (-1 - (a : Int)) = some (m - a) := by
    rw [hl]
    unfold ixN
    rw [if_neg (by omega), if_pos (by omega)]
    congr 1
    omega
  unfold L2.atI
  rw [e]
  exact h
def pwL (n : Nat) (T : List (List Int)) (m : Nat) : D := .list ((List.range m).map fun k => tb (pwT n T k))
theorem pwT_at {n : Nat} {T : List (List Int)} (hT : Tbl n T) {e i j : Nat} (hi : i < n) (hj : j < n) : ((List.range n).map fun i => rowD ((List.range n).map fun j => pw n (ent T) e i j))[i]? = some (rowD ((List.range n).map fun j => pw n (ent T) e i j)) ∧ (((List.range n).map fun j => pw n (ent T) e i j).map PyData.int)[j]? = some (.int (pw n (ent T) e i j)) := by
  simp [hi, hj]
section
variable {P : Program} {w : World} {K : Fg} {mg : Str → Option Value} {base : Heap} (G : Fre mg)
include G
def S_lzero : List D → D → Prop := fun ds d => ∃ n T c e, Tbl n T ∧ Sm20 n T ∧ Bot n (ent T) c ∧ n ≤ e ∧ e ≤ 40 ∧ ds = [pwL n T (e + 1), .tuple (intsD (bl c n) c)] ∧ d = .bool true
abbrev n_law_is_zero : List Str := ["_law_tables", "_law_bottom", "_law_n", "_law_i", "_law_j", "_law_at", "_law_many"]
omit G in
theorem nd_law_is_zero : n_law_is_zero.Nodup := by decide
theorem b_lzero {k : Nat} {ds : List D} {d0 : D} (S : S_lzero ds d0) : BodyP P w K mg base k n_law_is_zero ["_law_tables", "_law_bottom"] (top 41) 0 ds (fun d' => d' = d0) (fun _ _ => False) := by
  obtain ⟨n, T, c, e, hT, hs, B, h1, h2, rfl, rfl⟩ := S
  have l1 := hT.len
  have n8 := hT.n8
  have hbl := bl_le c n
  have tbe : ∀ k, tb (pwT n T k) = .tuple ((List.range n).map fun i => rowD ((List.range n).map fun j => pw n (ent T) k i j)) := fun k => tb_mk n _
  intro qual f cdv A outer s H E
  conv in (occs := *) defScope _ => all_goals whnf
  conv in defBody _ => whnf
  intro hr
  generalize hPD : PyData.tuple (intsD (bl c n) c) = bd
  show SS _ _ _ _ [.pv (pwL n T (e + 1)), .pv bd, .no, .no, .no, .no, .no] _
  have ga : ∀ a, a ≤ e → ((List.range (e + 1)).map fun k => tb (pwT n T k))[e - a]? = some (tb (pwT n T (e - a))) := fun a ha => by
    rw [List.getElem?_map, List.getElem?_range (by omega)]; rfl
  refine ss_cons (s1_set 2 (eg_callB1 G.len boot_len (ev_sub (ev_var 0 rfl (ev_neg (ev_int ⟨_, rfl, _, sub_lst (at_lst1 (m := e) (by simp) (ga 0 (Nat.zero_le _))), _, by rw [tbe]; exact q_len rfl, lt_ok rfl, ?_⟩))))) nd_law_is_zero)
  rw [show ((((List.range n).map fun i => rowD ((List.range n).map fun j => pw n (ent T) (e - 0) i j)).length : Nat) : Int) = (n : Nat) by simp]
  show SS _ _ _ _ [.pv (pwL n T (e + 1)), .pv bd, .pv (.int (n : Nat)), .no, .no, .no, .no] _
  refine ss_cons (s1_for (ix := [3]) (passes_of rfl) rfl (ei_range1 G.range (ev_var 2 rfl ⟨(n : Nat), rfl, by omega, by omega, ?_⟩)))
  refine ⟨fun q Γ => q ≤ n ∧ ∃ s3 s4, Γ = [.pv (pwL n T (e + 1)), .pv bd, .pv (.int (n : Nat)), s3, s4, .no, .no], ⟨Nat.zero_le _, .no, .no, rfl⟩, ?_, ?_⟩
  rotate_left
  · rintro Γ ⟨_, s3, s4, rfl⟩
    exact ss_one (s1_ret (ev_bl ⟨le_ok rfl, rfl⟩))
  rintro i d Γ hd ⟨_, s3, s4, rfl⟩
  obtain ⟨hi, rfl⟩ := rng_get hd
  refine gt_name 3 nd_law_is_zero (lt_ok rfl) ?_
  refine ss_one (s1_for (ix := [4]) (passes_of rfl) rfl (ei_range1 G.range (ev_var 2 rfl ⟨(n : Nat), rfl, by omega, by omega, ?_⟩)))
  refine ⟨fun q Γ => q ≤ n ∧ ∃ s4, Γ = [.pv (pwL n T (e + 1)), .pv bd, .pv (.int (n : Nat)), .pv (.int (i : Nat)), s4, .no, .no], ⟨Nat.zero_le _, s4, rfl⟩, ?_, ?_⟩
  rotate_left
  · rintro Γ ⟨_, s4, rfl⟩
    exact ⟨by omega, _, s4, rfl⟩
  rintro j d Γ hd ⟨_, s4, rfl⟩
  obtain ⟨hj, rfl⟩ := rng_get hd
  refine gt_name 4 nd_law_is_zero (lt_ok rfl) ?_
  refine ss_one (s1_if (et_cmp (eg_callB1 G.sum boot_sum (eg_freeze (eg_lc (n := 0) (own := [("_law_at", 5), ("_law_many", 6)]) rfl nd_law_is_zero (ei_enum G.enum (ev_var 1 rfl ⟨_, by rw [← hPD]; rfl, ?_⟩)) (blkOk_by (by rfl)))))))
  unfold intsD
  rw [enum_ints]
  refine lci_mapL (List.range (bl c n)) (fun (i : Nat) => .tuple [.int (i : Nat), .int (c i)]) (fun q => .int (c q * pw n (ent T) (e - q) i j)) rfl (by simp; omega) rfl ⟨_, q_sumR rfl, ev_int ⟨_, c_neI, fun h => ?_, fun h => ss_nil ⟨by omega, .pv (.int (j : Nat)), rfl⟩⟩⟩ fun q hq s H C cl fp => gt_tup rfl (gts_cons (gt_name 5 nd_law_is_zero (lt_ok rfl) (gts_cons (gt_name 6 nd_law_is_zero (lt_ok rfl) (gts_nil fun s H C cl fp => ?_)))))
  · rw [bot_ch B h1 hi hj] at h
    exact absurd h (by decide)
  · have hq := List.mem_range.mp hq
    have b1 := log_leA (bot_bd hT hs B q)
    have b2 := sm_pw hT hs (e - q) i j hi
    have b2 := log_le b2.1 b2.2
    refine eg_bin (ev_var 6 rfl (ev_sub (ev_sub (ev_sub (ev_var 0 rfl (eg_bin (ev_neg (ev_int ⟨_, rfl, ev_var 5 rfl ⟨_, b_sub, _, sub_lst (at_back (m := e) (by simp) (by omega) (ga q (by omega))), ev_var 3 rfl ⟨_, by rw [tbe]; exact sub_tup (at_nat (pwT_at hT hi hj).1), ev_var 4 rfl ⟨_, sub_tup (at_nat (pwT_at hT hi hj).2), _, b_mulW ?_, rfl, rfl⟩⟩⟩⟩))))))))
    show _ + _ < _
    omega
end
end KX
set_option Elab.async false
set_option linter.all false
set_option maxRecDepth 100000
set_option maxHeartbeats 8000000
set_option pp.maxSteps 600
namespace KX
open PySem PySem.Spec PyProof.Rows L2 DL GA
/-- a drawn web -/
structure DW (n : Nat) (T : List (List Int)) : Prop where
  web : Web n T
  n5 : n ≤ 5
  six : ∀ i j, ent T i j ≤ 6
theorem DW.sm {n : Nat} {T : List (List Int)} (h : DW n T) : Sm20 n T := fun i j _ _ => Int.le_trans (h.six i j) (by decide)
theorem DW.vwP {n : Nat} {T : List (List Int)} (h : DW n T) {q : Nat} (hq : q ≤ 40) : Vw 70000 2 (tb (pwT n T q)) :=
  vw_tbB (pwT_tbl h.web.tbl h.sm q) fun i j hi hj => by
    rw [pwT_ent hi hj]
    have h1 := pw_bd5 h.n5 (small5 h.web.tbl h.n5 h.six) q i j hi
    have h2 := pow_le hq
    exact bnd_of h1.1 (by omega)
theorem DW.rpP {n : Nat} {T : List (List Int)} (h : DW n T) {q : Nat} (hq : q ≤ 40) : RpOk (tb (pwT n T q)) := by
  have v := h.vwP hq
  have h1 := v.wt
  have h2 := v.dp
  exact rp_gd v.gd (by omega) (by omega)
theorem sPow {CW CL : Addr} {n : Nat} {T : List (List Int)} (h : DW n T) {q : Nat} (hq : q ≤ 40) : S_power CW CL [tb T, .int (q : Nat)] (.ret (tb (pwT n T q))) :=
  ⟨tb T, .int (q : Nat), rfl, ok_tb h.web.tbl, rfl, .inr ⟨n, T, h.web, h.sm, rfl, .inr ⟨q, by omega, rfl, rfl⟩⟩⟩
theorem prodT {n : Nat} {T : List (List Int)} (a b : Nat) : mkT n (mulF n (pw n (ent T) a) (ent (pwT n T b))) = pwT n T (a + b) := by
  unfold pwT
  refine mk_congr fun i j hi hj => ?_
  rw [← pw_add a b i j hi]
  exact sg_congr fun k hk => by
    have hk := List.mem_range.mp hk
    rw [mk_ent hk hj]
theorem sh3 {v : V} {m n : Nat} {d e x y : D} {Γ : Gam} : sh [.ow v m d, .pv x, .pv y] (.ow v n e :: s1 :: s2 :: Γ) = [.ow v n e, .no, .no] := by simp [sh]
theorem sh4 {v : V} {m n : Nat} {d e x y z : D} {Γ : Gam} : sh [.ow v m d, .pv x, .pv y, .pv z] (.ow v n e :: s1 :: s2 :: s3 :: Γ) = [.ow v n e, .no, .no, .no] := by simp [sh]
def fsPows : FS := fun Γ Q _ => ∃ v d n T m, Γ = [.ow v 2 d, .pv (tb T), .pv (.int (m : Nat))] ∧ DeckD d ∧ DW n T ∧ m ≤ 40 ∧ ∀ d', DeckD d' → Q (pwL n T (m + 1)) [.ow v 2 d', .no, .no]
section
variable {P : Program} {w : World} {K : Fg} {mg : Str → Option Value} {base : Heap} (G : Fre mg)
include G
theorem kw3_power (qual : Str) (kV doc pm : Value) (an : Option Addr) (cdv ct : Value) (us : List Value) (h : us.length = (["length", "web"] : List Str).length) : bindArgs (PySem.W.fnOf "power" qual (defArgs (top 26)) (defBody (top 26)) (defScope (top 26)) .none kV doc pm an cdv ct) ⟨[], (["length", "web"] : List Str).zip us⟩ = pure ((["web", "length"] : List Str).zip (DL.pick [1, 0] us)) :=
  match us, h with | [_, _], _ => rfl
abbrev n_law_are_powers_right : List Str := ["_law_deck_here", "_law_web_here", "_law_most", "_law_found", "_law_due", "_law_exponent", "_law_told", "_law_one", "_law_other", "_law_near"]
omit G in
theorem nd_law_are_powers_right : n_law_are_powers_right.Nodup := by decide
theorem b_lpows {CW CL : Addr} (F1 : Df P w K mg base 7 "power" (top 26) ["web", "length"] 0 (pfo (S_power CW CL))) (Fdr : Df P w K mg base 1 "_law_draw" (top 33) ["_law_deck_here", "_law_many"] 0 fsDraw)
    (Fsm : Df P w K mg base 1 "_law_same" (top 39) ["_law_told", "_law_due"] 0 (pfs S_lsame)) (Fun : Df P w K mg base 1 "_law_unit" (top 38) ["_law_n"] 0 (pfs S_lunit)) (Flp : Df P w K mg base 1 "_law_product" (top 37) ["_law_one", "_law_other"] 0 (pfs S_lprodG))
    (Ftb : Df P w K mg base 1 "_law_table" (top 40) ["_law_rows"] 0 (pfs S_ltableT)) {k : Nat} (hk : 7 ≤ k) {Γ : Gam} {Q : D → Gam → Prop} {R : XP} (S : fsPows Γ Q R) :
    BodyF P w K mg base k n_law_are_powers_right ["_law_deck_here", "_law_web_here", "_law_most"] (top 42) 0 Γ Q R := by
  obtain ⟨v, d, n, T, m, rfl, hd, h, hm, q⟩ := S
  have hT := h.web.tbl
  have l1 := hT.len
  have n8 := hT.n8
  have hs := h.sm
  intro qual f cdv A outer s H E
  conv in (occs := *) defScope _ => all_goals whnf
  conv in defBody _ => whnf
  intro hr
  show SS _ _ _ _ [.ow v 2 d, .pv (tb T), .pv (.int (m : Nat)), .no, .no, .no, .no, .no, .no, .no] _
  refine ss_cons (s1_par2 3 4 1 0 rfl nd_law_are_powers_right (eg_lst (ea_nil ⟨[], rfl, le_ok rfl, eg_callS Fun hr (by omega) (eg_callB1 G.len boot_len (ev_var 1 rfl ⟨_, q_len (ds := T.map rowD) rfl, rfl, _, ⟨n, n8, by simp [l1], rfl⟩, lt_ok rfl, lt_ok rfl, fun v3 _ => ?_⟩)) ⟨rfl, trivial⟩⟩)))
  show SS _ _ _ _ [.ow v 2 d, .pv (tb T), .pv (.int (m : Nat)), .ow v3 1 (pwL n T 0), .pv (tL (mkT n (pw n (ent T) 0))), .no, .no, .no, .no, .no] _
  refine ss_cons (s1_for (ix := [5]) (passes_of rfl) rfl (ei_range1 G.range (eg_bin (ev_var 2 rfl (ev_int ⟨_, b_add, (m : Nat) + 1, rfl, by omega, by omega, ?_⟩)))))
  rw [show ((m : Nat) : Int) + 1 = ((m + 1 : Nat) : Int) by omega]
  refine ⟨fun q Γ => q ≤ m + 1 ∧ ∃ v3 s5 s6, Γ = [.ow v 2 d, .pv (tb T), .pv (.int (m : Nat)), .ow v3 1 (pwL n T q), .pv (tL (mkT n (pw n (ent T) q))), s5, s6, .no, .no, .no], ⟨Nat.zero_le _, v3, .no, .no, rfl⟩, ?_, ?_⟩
  · rintro q d2 Γ hd2 ⟨_, v3, s5, s6, rfl⟩
    obtain ⟨hq, rfl⟩ := rng_get hd2
    refine gt_name 5 nd_law_are_powers_right (lt_ok rfl) ?_
    refine ss_cons (s1_set 6 (eg_callSX F1 hr hk (ev_var 1 rfl (ev_var 5 rfl ⟨rfl, .inl ⟨_, sPow h (by omega), lt_ok rfl, ?_⟩⟩)) ⟨rfl, rfl, trivial⟩) nd_law_are_powers_right)
    show SS _ _ _ _ [.ow v 2 d, .pv (tb T), .pv (.int (m : Nat)), .ow v3 1 (pwL n T q), .pv (tL (mkT n (pw n (ent T) q))), .pv (.int (q : Nat)), .pv (tb (pwT n T q)), .no, .no, .no] _
    refine ss_cons (s1_if (et_not (et_val (eg_callS Fsm hr (by omega) (ev_var 6 rfl (eg_callS Ftb hr (by omega) (ev_var 4 rfl ⟨rfl, _, ⟨n, _, n8, rfl, rfl⟩, rfl, _, ⟨_, rfl, h.rpP (q := q) (by omega), rfl⟩, true, rfl, (fun z => nomatch z), fun _ => ss_nil ?_⟩) ⟨rfl, trivial⟩)) ⟨rfl, rfl, trivial⟩))))
    refine ss_cons (s1_expr (ev_append 3 rfl (ev_var 6 rfl ⟨v3, 0, _, rfl, .inl rfl, by simp; omega, ?_⟩)))
    have ea : PyData.list (((List.range q).map fun k => tb (pwT n T k)) ++ [tb (pwT n T q)]) = pwL n T (q + 1) := by
      unfold pwL
      rw [List.range_succ, List.map_append]; rfl
    rw [ea]
    refine ss_one (s1_set 4 (eg_callS Flp hr (by omega) (ev_var 4 rfl (ev_var 1 rfl ⟨rfl, _, ⟨n, false, pw n (ent T) q, T, hT, fun i j k hi hj hk => ?_, rfl, rfl⟩, lt_ok rfl, hq, v3, .pv (.int (q : Nat)), .pv (tb (pwT n T q)), ?_⟩)) ⟨rfl, rfl, trivial⟩) nd_law_are_powers_right)
    · have b1 := sm_pw hT hs q i k hi
      have b1 := log_le b1.1 b1.2
      have b2 : (ent T k j).natAbs ≤ 2 ^ 3 := by
        have := ent_pos hT k j
        have := h.six k j
        omega
      have b2 := log_leA b2
      omega
    · rw [mul_right]; rfl
  · rintro Γ ⟨_, v3, s5, s6, rfl⟩
    rw [show (rngD 0 ((m + 1 : Nat) : Int)).length = m + 1 by rw [rngD_len]; simp]
    refine ss_cons (s1_par2 7 8 0 0 rfl nd_law_are_powers_right (ev_draw Fdr hr (by omega) 0 rfl (ev_int ⟨v, d, 21, rfl, rfl, hd, by omega, by omega, fun a d1 a0 a1 hd1 => ev_draw Fdr hr (by omega) 0 rfl (ev_int ⟨v, d1, 21, rfl, rfl, hd1, by omega, by omega, fun b d2 b0 b1 hd2 => ⟨lt_ok rfl, lt_ok rfl, fun _ _ => ?_⟩⟩)⟩)))
    obtain ⟨a, rfl⟩ := Int.eq_ofNat_of_zero_le a0
    obtain ⟨b, rfl⟩ := Int.eq_ofNat_of_zero_le b0
    show SS _ _ _ _ [.ow v 2 d2, .pv (tb T), .pv (.int (m : Nat)), .ow v3 1 (pwL n T (m + 1)), .pv (tL (mkT n (pw n (ent T) (m + 1)))), s5, s6, .pv (.int (a : Nat)), .pv (.int (b : Nat)), .no] _
    refine ss_cons (s1_set 9 (eg_callS Ftb hr (by omega) (eg_callS Flp hr (by omega) (eg_callKX F1 hr hk [1, 0] (kw3_power G) rfl (ek_cons (ev_var 7 rfl (ek_cons (ev_var 1 rfl (ek_nil ⟨[.int (a : Nat), tb T], rfl, rfl, rfl, .inl ⟨_, sPow h (q := a) (by omega), ?_⟩⟩)))))) ⟨rfl, rfl, trivial⟩) ⟨rfl, trivial⟩) nd_law_are_powers_right)
    refine eg_callSX F1 hr hk (ev_var 1 rfl (ev_var 8 rfl ⟨rfl, .inl ⟨_, sPow h (q := b) (by omega), rfl, _, ⟨n, true, pw n (ent T) a, pwT n T b, pwT_tbl hT hs b, fun i j k hi hj hk => ?_, rfl, rfl⟩, rfl, _, ⟨n, _, n8, rfl, rfl⟩, lt_ok rfl, ?_⟩⟩)) ⟨rfl, rfl, trivial⟩
    · rw [pwT_ent hk hj]
      have b1 := sm_pw hT hs a i k hi
      have b1 := log_le b1.1 b1.2
      have b2 := sm_pw hT hs b k j hk
      have b2 := log_le b2.1 b2.2
      omega
    rw [prodT]
    show SS _ _ _ _ [.ow v 2 d2, .pv (tb T), .pv (.int (m : Nat)), .ow v3 1 (pwL n T (m + 1)), .pv (tL (mkT n (pw n (ent T) (m + 1)))), s5, s6, .pv (.int (a : Nat)), .pv (.int (b : Nat)), .pv (tb (pwT n T (a + b)))] _
    refine ss_one (s1_ret (eg_if (et_val (eg_callS Fsm hr (by omega) (eg_callSX F1 hr hk (ev_var 1 rfl (eg_bin (ev_var 7 rfl (ev_var 8 rfl ⟨_, b_add, rfl, .inl ⟨_, sPow h (q := a + b) (by omega), ev_var 9 rfl ⟨rfl, _, ⟨_, rfl, h.rpP (q := a + b) (by omega), rfl⟩, true, rfl, fun _ => ev_varZ 3 rfl ⟨le_ok rfl, ?_⟩, (fun z => nomatch z)⟩⟩⟩)))) ⟨rfl, rfl, trivial⟩) ⟨rfl, rfl, trivial⟩))))
    show Q _ (sh [.ow v 2 d, .pv (tb T), .pv (.int (m : Nat))] (.ow v 2 d2 :: .pv (tb T) :: .pv (.int (m : Nat)) :: _))
    rw [sh3]
    exact q d2 hd2
end
end KX
set_option Elab.async false
set_option linter.all false
set_option maxRecDepth 100000
set_option maxHeartbeats 8000000
set_option pp.maxSteps 600
namespace KX
open PySem PySem.Spec PyProof.Rows L2 DL GA
theorem DW.bndP {n : Nat} {T : List (List Int)} (h : DW n T) {q i j : Nat} (hq : q ≤ 40) (hi : i < n) : Bnd (pw n (ent T) q i j) := by
  have h1 := pw_bd5 h.n5 (small5 h.web.tbl h.n5 h.six) q i j hi
  have h2 := pow_le hq
  exact bnd_of h1.1 (by omega)
theorem DW.bndT {n : Nat} {T : List (List Int)} (h : DW n T) {q : Nat} (hq : q ≤ 40) : Bnd (tr n (ent T) q) := by
  have h1 := tr_bd5 h.web.tbl h.n5 h.six hq
  exact bnd_of h1.1 h1.2
theorem rp_two {a b : Int} (h1 : Bnd a) (h2 : Bnd b) : RpOk (.tuple [.int a, .int b]) := (rp_list (ds := [.int a, .int b]) (fun d m => by
  rcases List.mem_cons.mp m with rfl | m
  · exact (vw_intB h1).mono (by omega) (by omega)
  · rw [List.mem_singleton.mp m]
    exact (vw_intB h2).mono (by omega) (by omega)) (by show 2 ≤ 20; omega)).2
theorem rp_intsG {m : Nat} {f : Nat → Int} (hm : m ≤ 1000) (h : ∀ k, k < m → Bnd (f k)) : RpOk (.list (((List.range m).map f).map .int)) ∧ RpOk (.tuple (((List.range m).map f).map .int)) := by
  have v : ∀ d ∈ ((List.range m).map f).map PyData.int, Vw 1000 0 d := fun d hd => by
    obtain ⟨x, hx, rfl⟩ := List.mem_map.mp hd
    obtain ⟨k, hk, rfl⟩ := List.mem_map.mp hx
    exact vw_intB (h k (List.mem_range.mp hk))
  have w1 := wtA_le (ds := ((List.range m).map f).map PyData.int) fun d m => (v d m).wt
  have w2 : (((List.range m).map f).map PyData.int).length = m := by simp
  rw [w2] at w1
  have w3 : (1000 + 2) * m ≤ (1000 + 2) * 1000 := Nat.mul_le_mul_left _ hm
  have v1 : Vw 1300000 1 (.list (((List.range m).map f).map PyData.int)) := vw_lst (fun d m => ⟨(v d m).gd, (v d m).dp⟩) (by omega)
  have v2 : Vw 1300000 1 (.tuple (((List.range m).map f).map PyData.int)) := vw_tup (fun d m => ⟨(v d m).gd, (v d m).dp⟩) (by omega)
  have h1 := v1.wt
  have h2 := v1.dp
  have h3 := v2.wt
  have h4 := v2.dp
  exact ⟨rp_gd v1.gd (by omega) (by omega), rp_gd v2.gd (by omega) (by omega)⟩
theorem sWalk {CW CR CL : Addr} {n : Nat} {T : List (List Int)} (h : DW n T) {a b L : Nat} (ha : a < n) (hb : b < n) (hL : L ≤ 40) : S_walks CW CR CL [tb T, .int (a : Nat), .int (b : Nat), .int (L : Nat)] (.ret (.int (pw n (ent T) L a b))) :=
  ⟨tb T, _, _, _, rfl, ok_tb h.web.tbl, rfl, rfl, rfl, .inr ⟨n, T, h.web, h.sm, rfl, .inr (.inr (.inr ⟨a, b, L, ha, hb, by omega, rfl, rfl, rfl, rfl⟩))⟩⟩
theorem sClosed {CW CL : Addr} {n : Nat} {T : List (List Int)} (h : DW n T) {L : Nat} (h1 : 1 ≤ L) (hL : L ≤ 40) : S_closed CW CL [tb T, .int (L : Nat)] (.ret (.int (tr n (ent T) L))) :=
  ⟨tb T, _, rfl, ok_tb h.web.tbl, rfl, .inr ⟨n, T, h.web, h.sm, rfl, .inr ⟨L, h1, by omega, rfl, rfl⟩⟩⟩
def tot0 (c : Nat → Int) (b L : Nat) : Int := if L < b then (L : Int) * c L else 0
def Kp (s : SV) : Prop := s = .no ∨ ∃ d, s = .pv d
def fsNums : FS := fun Γ Q _ => ∃ v d n T m c, Γ = [.ow v 2 d, .pv (tb T), .pv (pwL n T (m + 1)), .pv (.tuple (intsD (bl c n) c))] ∧ DeckD d ∧ DW n T ∧ Bot n (ent T) c ∧ m ≤ 40 ∧ ∀ d', DeckD d' → Q (.bool true) [.ow v 2 d', .no, .no, .no]
section
variable {P : Program} {w : World} {K : Fg} {mg : Str → Option Value} {base : Heap} (G : Fre mg)
include G
theorem kw3_walks (qual : Str) (kV doc pm : Value) (an : Option Addr) (cdv ct : Value) (us : List Value) (h : us.length = (["length", "web", "j", "i"] : List Str).length) : bindArgs (PySem.W.fnOf "walks_many" qual (defArgs (top 28)) (defBody (top 28)) (defScope (top 28)) .none kV doc pm an cdv ct) ⟨[], (["length", "web", "j", "i"] : List Str).zip us⟩ = pure ((["web", "i", "j", "length"] : List Str).zip (DL.pick [1, 3, 2, 0] us)) :=
  match us, h with | [_, _, _, _], _ => rfl
abbrev n_law_are_numbers_right : List Str := ["_law_deck_here", "_law_web_here", "_law_tables", "_law_bottom", "_law_n", "_law_most", "_law_turn", "_law_i", "_law_j", "_law_length", "_law_told", "_law_closed", "_law_table_here", "_law_total", "_law_at"]
omit G in
theorem nd_law_are_numbers_right : n_law_are_numbers_right.Nodup := by decide
theorem b_lnums {CW CR CL : Addr} (F2 : Df P w K mg base 7 "walks_many" (top 28) ["web", "i", "j", "length"] 0 (pfo (S_walks CW CR CL))) (F3 : Df P w K mg base 7 "closed_many" (top 29) ["web", "length"] 0 (pfo (S_closed CW CL)))
    (Fdr : Df P w K mg base 1 "_law_draw" (top 33) ["_law_deck_here", "_law_many"] 0 fsDraw)
    (Fsm : Df P w K mg base 1 "_law_same" (top 39) ["_law_told", "_law_due"] 0 (pfs S_lsame)) {k : Nat} (hk : 7 ≤ k) {Γ : Gam} {Q : D → Gam → Prop} {R : XP} (S : fsNums Γ Q R) :
    BodyF P w K mg base k n_law_are_numbers_right ["_law_deck_here", "_law_web_here", "_law_tables", "_law_bottom"] (top 43) 0 Γ Q R := by
  obtain ⟨v, d, n, T, m, c, rfl, hd, h, B, hm, q⟩ := S
  have hT := h.web.tbl
  have l1 := hT.len
  have n1 := hT.n1
  have n8 := hT.n8
  have hs := h.sm
  have hbl := bl_le c n
  have tbe : ∀ k, tb (pwT n T k) = .tuple ((List.range n).map fun i => rowD ((List.range n).map fun j => pw n (ent T) k i j)) := fun k => tb_mk n _
  have ga : ∀ a, a ≤ m → ((List.range (m + 1)).map fun k => tb (pwT n T k))[a]? = some (tb (pwT n T a)) := fun a ha => by
    rw [List.getElem?_map, List.getElem?_range (by omega)]; rfl
  have gc : ∀ a, a < bl c n → (intsD (bl c n) c)[a]? = some (.int (c a)) := fun a ha => by simp [intsD, ha]
  intro qual f cdv A outer s H E
  conv in (occs := *) defScope _ => all_goals whnf
  conv in defBody _ => whnf
  intro hr
  show SS _ _ _ _ [.ow v 2 d, .pv (tb T), .pv (pwL n T (m + 1)), .pv (.tuple (intsD (bl c n) c)), .no, .no, .no, .no, .no, .no, .no, .no, .no, .no, .no] _
  refine ss_cons (s1_asg2 4 5 0 0 rfl nd_law_are_numbers_right (eg_callB1 G.len boot_len (ev_var 1 rfl ⟨_, q_len (ds := T.map rowD) rfl, eg_bin (eg_callB1 G.len boot_len (ev_var 2 rfl ⟨_, q_len (ds := (List.range (m + 1)).map fun k => tb (pwT n T k)) rfl, ev_int ⟨_, b_sub, lt_ok rfl, lt_ok rfl, fun _ _ => ?_⟩⟩))⟩)))
  rw [show (((List.map rowD T).length : Nat) : Int) = (n : Nat) by simp [l1], show ((((List.range (m + 1)).map fun k => tb (pwT n T k)).length : Nat) : Int) - 1 = (m : Nat) by simp]
  show SS _ _ _ _ [.ow v 2 d, .pv (tb T), .pv (pwL n T (m + 1)), .pv (.tuple (intsD (bl c n) c)), .pv (.int (n : Nat)), .pv (.int (m : Nat)), .no, .no, .no, .no, .no, .no, .no, .no, .no] _
  refine ss_cons (s1_for (ix := [6]) (passes_of rfl) rfl (ei_range1 G.range (ev_int ⟨6, rfl, by omega, by omega, ?_⟩)))
  refine ⟨fun _ Γ => ∃ d s6 s7 s8 s9 s10, DeckD d ∧ Kp s7 ∧ Γ = [.ow v 2 d, .pv (tb T), .pv (pwL n T (m + 1)), .pv (.tuple (intsD (bl c n) c)), .pv (.int (n : Nat)), .pv (.int (m : Nat)), s6, s7, s8, s9, s10, .no, .no, .no, .no], ⟨d, .no, .no, .no, .no, .no, hd, .inl rfl, rfl⟩, ?_, ?_⟩
  · rintro i0 dd0 Γ _ ⟨d, s6, s7, s8, s9, s10, hd, h7, rfl⟩
    refine gt_name 6 nd_law_are_numbers_right (lt_ok rfl) ?_
    refine ss_cons (s1_par3 7 8 9 rfl nd_law_are_numbers_right (ev_draw Fdr hr (by omega) 0 rfl (ev_var 4 rfl ⟨v, d, (n : Nat), rfl, rfl, hd, by omega, by omega, fun a d1 a0 a1 hd1 => ev_draw Fdr hr (by omega) 0 rfl (ev_var 4 rfl ⟨v, d1, (n : Nat), rfl, rfl, hd1, by omega, by omega, fun b d2 b0 b1 hd2 =>
      ev_draw Fdr hr (by omega) 0 rfl (eg_bin (ev_var 5 rfl (ev_int ⟨_, b_add, v, d2, (m : Nat) + 1, rfl, rfl, hd2, by omega, by omega, fun L d3 L0 L1 hd3 => ⟨lt_ok rfl, lt_ok rfl, lt_ok rfl, ?_⟩⟩)))⟩)⟩)))
    obtain ⟨a, rfl⟩ := Int.eq_ofNat_of_zero_le a0
    obtain ⟨b, rfl⟩ := Int.eq_ofNat_of_zero_le b0
    obtain ⟨L, rfl⟩ := Int.eq_ofNat_of_zero_le L0
    have a1 : a < n := by omega
    have b1 : b < n := by omega
    have L1 : L ≤ m := by omega
    show SS _ _ _ _ [.ow v 2 d3, .pv (tb T), .pv (pwL n T (m + 1)), .pv (.tuple (intsD (bl c n) c)), .pv (.int (n : Nat)), .pv (.int (m : Nat)), .pv dd0, .pv (.int (a : Nat)), .pv (.int (b : Nat)), .pv (.int (L : Nat)), s10, .no, .no, .no, .no] _
    refine ss_cons (s1_set 10 (ev_tups (le_ok rfl) (eg_callSX F2 hr hk (ev_var 1 rfl (ev_var 7 rfl (ev_var 8 rfl (ev_var 9 rfl ⟨rfl, .inl ⟨_, sWalk h a1 b1 (by omega), ?_⟩⟩)))) ⟨rfl, rfl, rfl, rfl, trivial⟩) ⟨rfl, rfl, trivial⟩) nd_law_are_numbers_right)
    refine eg_callKX F2 hr hk [1, 3, 2, 0] (kw3_walks G) rfl (ek_cons (ev_var 9 rfl (ek_cons (ev_var 1 rfl (ek_cons (ev_var 7 rfl (ek_cons (ev_var 8 rfl (ek_nil ⟨[.int (L : Nat), tb T, .int (a : Nat), .int (b : Nat)], rfl, rfl, rfl, .inl ⟨_, sWalk h b1 a1 (by omega), lt_ok rfl, ?_⟩⟩)))))))))
    show SS _ _ _ _ [.ow v 2 d3, .pv (tb T), .pv (pwL n T (m + 1)), .pv (.tuple (intsD (bl c n) c)), .pv (.int (n : Nat)), .pv (.int (m : Nat)), .pv dd0, .pv (.int (a : Nat)), .pv (.int (b : Nat)), .pv (.int (L : Nat)), .pv (.tuple [.int (pw n (ent T) L a b), .int (pw n (ent T) L b a)]), .no, .no, .no, .no] _
    refine ss_one (s1_if (et_not (et_val (eg_callS Fsm hr (by omega) (ev_var 10 rfl (ev_tups (le_ok rfl) (ev_sub (ev_sub (ev_sub (ev_var 2 rfl (ev_var 9 rfl ⟨_, sub_lst (at_nat (ga L L1)), ev_var 7 rfl ⟨_, by rw [tbe]; exact sub_tup (at_nat (pwT_at (j := b) hT a1 b1).1), ev_var 8 rfl ⟨_, sub_tup (at_nat (pwT_at hT a1 b1).2), ?_⟩⟩⟩))))) ⟨rfl, rfl, trivial⟩)) ⟨rfl, rfl, trivial⟩))))
    refine ev_sub (ev_sub (ev_sub (ev_var 2 rfl (ev_var 9 rfl ⟨_, sub_lst (at_nat (ga L L1)), ev_var 8 rfl ⟨_, by rw [tbe]; exact sub_tup (at_nat (pwT_at (j := a) hT b1 a1).1), ev_var 7 rfl ⟨_, sub_tup (at_nat (pwT_at hT b1 a1).2), rfl, _, ⟨_, rfl, rp_two (h.bndP (by omega) a1) (h.bndP (by omega) b1), rfl⟩, true, rfl, (fun z => nomatch z), fun _ => ss_nil ⟨d3, _, .pv (.int (a : Nat)), _, _, _, hd3, .inr ⟨_, rfl⟩, rfl⟩⟩⟩⟩))))
  · rintro Γ ⟨d, s6, s7, s8, s9, s10, hd, h7, rfl⟩
    have er : rngD 1 ((m : Nat) + 1) = (List.range m).map fun (i : Nat) => .int ((i + 1 : Nat) : Int) := by
      unfold rngD
      rw [show (((m : Nat) : Int) + 1 - 1).toNat = m by omega]
      exact List.map_congr_left fun i _ => by congr 1; omega
    refine ss_cons (s1_setLc 11 rfl nd_law_are_numbers_right (own := [("_law_length", 9)]) (n := 0) (ei_range2 G.range (ev_int (eg_bin (ev_var 5 rfl (ev_int ⟨_, b_add, 1, (m : Nat) + 1, rfl, rfl, by omega, ?_⟩))))) (blkOk_by (by rfl)) (sw_true rfl rfl rfl (by rfl)))
    rw [er]
    refine lci_mapL (List.range m) (fun (i : Nat) => .int ((i + 1 : Nat) : Int)) (fun i => .int (tr n (ent T) (i + 1))) rfl (by simp; omega) rfl ⟨lt_ok rfl, fun v11 => ?_⟩ fun i hi s H C cl fp => gt_name 9 nd_law_are_numbers_right (lt_ok rfl) fun s H C cl fp => ?_
    rotate_left
    · have hi := List.mem_range.mp hi
      exact eg_callSX F3 hr hk (ev_var 1 rfl (ev_var 9 rfl ⟨rfl, .inl ⟨_, sClosed h (L := i + 1) (by omega) (by omega), rfl, rfl⟩⟩)) ⟨rfl, rfl, trivial⟩
    have eCL : PyData.list ((List.range m).map fun i => PyData.int (tr n (ent T) (i + 1))) = .list (((List.range m).map fun k => tr n (ent T) (k + 1)).map .int) := by rw [List.map_map]; rfl
    rw [eCL]
    generalize hCD : PyData.list (((List.range m).map fun k => tr n (ent T) (k + 1)).map .int) = CD
    refine ss_cons (S1.nxi (N := fun Γ' => ∃ s6 s7 s8 s9 s10, Γ' = [.ow v 2 d, .pv (tb T), .pv (pwL n T (m + 1)), .pv (.tuple (intsD (bl c n) c)), .pv (.int (n : Nat)), .pv (.int (m : Nat)), s6, s7, s8, s9, s10, .pv CD, .no, .no, .no]) (s1_if (et_not (et_val (eg_callS Fsm hr (by omega) (ev_varZ 11 rfl (eg_freeze (eg_lc (n := 0) (own := [("_law_table_here", 12)]) rfl nd_law_are_numbers_right (ei_seq (eg_freeze (n := 1) (eg_sliceL (lo := some _) (hi := none) (ev_var 2 rfl (ev_int ⟨1, rfl, _, rfl, _, rfl, ?_⟩))))) (blkOk_by (by rfl))))) ⟨rfl, rfl, trivial⟩)))) ?_)
    · rw [show cutD ((List.range (m + 1)).map fun k => tb (pwT n T k)) (some 1) none = (List.range m).map fun k => tb (pwT n T (k + 1)) by
        rw [show (some (1 : Int)) = some ((1 : Nat) : Int) from rfl, cut_from (by simp), List.range_succ_eq_map, List.map_cons, List.drop_succ_cons, List.drop_zero, List.map_map]; rfl]
      refine lci_mapL (List.range m) (fun k => tb (pwT n T (k + 1))) (fun k => .int (tr n (ent T) (k + 1))) rfl (by simp; omega) rfl ⟨rfl, _, ⟨CD, by rw [eCL, hCD], by rw [← hCD]; exact (rp_intsG (by omega) fun k hk => h.bndT (by omega)).1, rfl⟩, true, rfl, (fun z => nomatch z), fun _ => ss_nil ⟨_, _, _, _, _, rfl⟩⟩ fun k hk2 s H C cl fp => gt_name 12 nd_law_are_numbers_right (lt_ok rfl) fun s H C cl fp => ?_
      have en : rngD 0 (n : Nat) = (List.range n).map fun (j : Nat) => .int (j : Nat) := by rw [rngD_eq, List.map_map]; rfl
      refine eg_callB1 G.sum boot_sum (eg_freeze (eg_lc (n := 0) (own := [("_law_i", 7)]) rfl nd_law_are_numbers_right (ei_range1 G.range (ev_var 4 rfl ⟨(n : Nat), rfl, by omega, by omega, ?_⟩)) (blkOk_by (by rfl))))
      refine lci_mapL (List.range n) (fun (j : Nat) => .int (j : Nat)) (fun i => .int (pw n (ent T) (k + 1) i i)) en (by simp; omega) rfl ⟨_, q_sumR rfl, rfl, ?_⟩ fun i hi s H C cl fp => gt_name 7 nd_law_are_numbers_right (lt_ok rfl) fun s H C cl fp => ?_
      · rcases h7 with rfl | ⟨x, rfl⟩ <;> rfl
      · have hi := List.mem_range.mp hi
        exact ev_sub (ev_sub (ev_var 12 rfl (ev_var 7 rfl ⟨_, by rw [tbe]; exact sub_tup (at_nat (pwT_at (j := i) hT hi hi).1), ev_var 7 rfl ⟨_, sub_tup (at_nat (pwT_at hT hi hi).2), rfl, rfl⟩⟩)))
    · rintro Γ' ⟨s6, s7, s8, s9, s10, rfl⟩
      refine ss_cons (s1_for (ix := [9]) (passes_of rfl) rfl (ei_range2 G.range (ev_int (eg_bin (ev_var 5 rfl (ev_int ⟨_, b_add, 1, (m : Nat) + 1, rfl, rfl, by omega, ?_⟩))))))
      rw [er]
      refine ⟨fun _ Γ => ∃ s9 s13 s14, Γ = [.ow v 2 d, .pv (tb T), .pv (pwL n T (m + 1)), .pv (.tuple (intsD (bl c n) c)), .pv (.int (n : Nat)), .pv (.int (m : Nat)), s6, s7, s8, s9, s10, .pv CD, .no, s13, s14], ⟨s9, .no, .no, rfl⟩, ?_, ?_⟩
      rotate_left
      · rintro Γ ⟨s9, s13, s14, rfl⟩
        refine ss_one (s1_ret (ev_bl ⟨le_ok rfl, ?_⟩))
        show Q _ (sh [.ow v 2 _, .pv (tb T), .pv (pwL n T (m + 1)), .pv (.tuple (intsD (bl c n) c))] (.ow v 2 d :: .pv (tb T) :: .pv (pwL n T (m + 1)) :: .pv (.tuple (intsD (bl c n) c)) :: _))
        rw [sh4]
        exact q d hd
      rintro i dd Γ hdd ⟨s9, s13, s14, rfl⟩
      have hi : i < m := by
        have := (List.getElem?_eq_some_iff.mp hdd).1
        simpa using this
      obtain rfl : dd = .int ((i + 1 : Nat) : Int) := by
        rw [List.getElem?_map, List.getElem?_range hi] at hdd
        exact (Option.some.inj hdd).symm
      obtain ⟨L, hL, L1, L2⟩ : ∃ L, i + 1 = L ∧ 1 ≤ L ∧ L ≤ m := ⟨i + 1, rfl, by omega, by omega⟩
      rw [hL]
      refine gt_name 9 nd_law_are_numbers_right (lt_ok rfl) ?_
      have elb : (((intsD (bl c n) c).length : Nat) : Int) = (bl c n : Nat) := by simp [intsD]
      refine ss_cons (S1.nxi (N := fun Γ' => Γ' = [.ow v 2 d, .pv (tb T), .pv (pwL n T (m + 1)), .pv (.tuple (intsD (bl c n) c)), .pv (.int (n : Nat)), .pv (.int (m : Nat)), s6, s7, s8, .pv (.int (L : Nat)), s10, .pv CD, .no, .pv (.int (tot0 c (bl c n) L)), s14]) (s1_set 13 (eg_if (et_cmp (ev_var 9 rfl (eg_callB1 G.len boot_len (ev_var 3 rfl ⟨_, q_len (ds := intsD (bl c n) c) rfl, _, c_lt, fun h1 => ?_, fun h1 => ?_⟩))))) nd_law_are_numbers_right) ?_)
      · rw [elb] at h1
        have h1 : L < bl c n := by have := of_decide_eq_true h1; omega
        refine eg_bin (ev_var 9 rfl (ev_sub (ev_var 3 rfl (ev_var 9 rfl ⟨_, sub_tup (at_nat (gc L h1)), _, b_mul (.inl ⟨by omega, by omega⟩), lt_ok rfl, ?_⟩))))
        rw [show (L : Int) * c L = tot0 c (bl c n) L from (if_pos h1).symm]; rfl
      · rw [elb] at h1
        have h1 : ¬ L < bl c n := by have := of_decide_eq_false h1; omega
        refine ev_int ⟨lt_ok rfl, ?_⟩
        rw [show (0 : Int) = tot0 c (bl c n) L from (if_neg h1).symm]; rfl
      · rintro Γ' rfl
        refine ss_cons (s1_for (ix := [14]) (passes_of rfl) rfl (ei_range1 G.range (eg_callB G.min boot_min (ea_cons (ev_var 9 rfl (ea_cons (eg_callB1 G.len boot_len (ev_var 3 rfl ⟨_, q_len (ds := intsD (bl c n) c) rfl, ea_nil ⟨[.int (L : Nat), .int (((intsD (bl c n) c).length : Nat) : Int)], _, rfl, q_min2 rfl, ((min L (bl c n) : Nat) : Int), ?_, by omega, by omega, ?_⟩⟩))))))))
        · rw [elb]
          congr 1
          split <;> omega
        refine ⟨fun q Γ => q ≤ min L (bl c n) ∧ ∃ s14, Γ = [.ow v 2 d, .pv (tb T), .pv (pwL n T (m + 1)), .pv (.tuple (intsD (bl c n) c)), .pv (.int (n : Nat)), .pv (.int (m : Nat)), s6, s7, s8, .pv (.int (L : Nat)), s10, .pv CD, .no, .pv (.int (tot0 c (bl c n) L + sg (List.range q) fun r => c r * tr n (ent T) (L - r))), s14], ⟨Nat.zero_le _, s14, by rw [List.range_zero, sg_nil, Int.add_zero]⟩, ?_, ?_⟩
        · rintro r d2 Γ hd2 ⟨_, s14, rfl⟩
          obtain ⟨hr2, rfl⟩ := rng_get hd2
          refine gt_name 14 nd_law_are_numbers_right (lt_ok rfl) ?_
          have g1 : (((List.range m).map fun k => tr n (ent T) (k + 1)).map PyData.int)[L - r - 1]? = some (.int (tr n (ent T) (L - r))) := by
            rw [List.getElem?_map, List.getElem?_map, List.getElem?_range (by omega)]
            show some (PyData.int (tr n (ent T) (L - r - 1 + 1))) = _
            rw [show L - r - 1 + 1 = L - r by omega]
          have z1 := log_leA (bot_bd hT hs B r)
          have z2 := log_leA (tr_bd hT hs (L := L - r) (by omega))
          refine ss_one (s1_set 13 (eg_bin (ev_var 13 rfl (eg_bin (ev_sub (ev_var 3 rfl (ev_var 14 rfl ⟨_, sub_tup (at_nat (gc r (by omega))), ?_⟩)))))) nd_law_are_numbers_right)
          refine ev_sub (ev_var 11 rfl (eg_bin (eg_bin (ev_var 9 rfl (ev_var 14 rfl ⟨_, b_sub, ev_int ⟨_, b_sub, _, by rw [← hCD, show ((L : Nat) : Int) - (r : Nat) - 1 = ((L - r - 1 : Nat) : Int) by omega]; exact sub_lst (at_nat g1), _, b_mulW ?_, _, b_add, lt_ok rfl, by omega, .pv (.int (r : Nat)), ?_⟩⟩)))))
          · show _ + _ < _
            omega
          · rw [List.range_succ, sg_app, sg_cons, sg_nil, Int.add_zero, ← Int.add_assoc]; rfl
        · rintro Γ ⟨_, s14, rfl⟩
          rw [show (rngD 0 ((min L (bl c n) : Nat) : Int)).length = min L (bl c n) by rw [rngD_len]; simp, show tot0 c (bl c n) L + _ = 0 from bot_tr B L1]
          refine ss_one (s1_if (et_cmp (ev_var 13 rfl (ev_int ⟨_, c_neI, fun h1 => absurd h1 (by decide), fun h1 => ss_nil ⟨_, _, _, rfl⟩⟩))))
end
end KX
set_option Elab.async false
set_option linter.all false
set_option maxRecDepth 100000
set_option maxHeartbeats 8000000
set_option pp.maxSteps 600
namespace KX
open PySem PySem.Spec PyProof.Rows L2 DL GA
theorem web_row {n : Nat} {T : List (List Int)} (h : Web n T) {i : Nat} (hi : i < n) : ∃ j, j < n ∧ 0 < ent T i j := by
  obtain ⟨j, e⟩ := rch_out (h.sc i i hi hi)
  exact ⟨j, (ent_lt h.tbl e).2, e⟩
theorem pw_pos {n : Nat} {T : List (List Int)} (h : Web n T) : ∀ (k i : Nat), i < n → ∃ j, j < n ∧ 0 < pw n (ent T) k i j
  | 0, i, hi => ⟨i, hi, by show (0 : Int) < if i = i then 1 else 0; rw [if_pos rfl]; decide⟩
  | k + 1, i, hi => by
    obtain ⟨m, hm, e1⟩ := web_row h hi
    obtain ⟨j, hj, e2⟩ := pw_pos h k m hm
    refine ⟨j, hj, ?_⟩
    show 0 < sg (List.range n) fun m => ent T i m * pw n (ent T) k m j
    have nn : ∀ k m, 0 ≤ pw n (ent T) k m j := fun k => by
      induction k with
      | zero => exact fun m => by show (0 : Int) ≤ if m = j then 1 else 0; split <;> decide
      | succ k ih => exact fun m => sg_nonneg fun x _ => Int.mul_nonneg (ent_pos h.tbl m x) (ih x)
    have h0 : 0 < ent T i m * pw n (ent T) k m j := Int.mul_pos e1 e2
    have h1 : sg (List.range n) (fun x => if x = m then ent T i m * pw n (ent T) k m j else 0) ≤ sg (List.range n) fun m => ent T i m * pw n (ent T) k m j := sg_le fun x _ => by
      split
      · rename_i e
        subst e
        exact Int.le_refl _
      · exact Int.mul_nonneg (ent_pos h.tbl i x) (nn k x)
    rw [sg_rng hm fun x _ ne => if_neg ne, if_pos rfl] at h1
    omega
theorem bl_two {n : Nat} {T : List (List Int)} (h : Web n T) {c : Nat → Int} (B : Bot n (ent T) c) : 2 ≤ bl c n := by
  have hb := bl_le c n
  rcases Nat.lt_or_ge 1 (bl c n) with z | z
  · exact z
  · have e1 : bl c n = 1 := by omega
    obtain ⟨j, hj, e⟩ := pw_pos h n 0 h.tbl.n1
    have := bot_ch B (Nat.le_refl n) (i := 0) (j := j) h.tbl.n1 hj
    rw [e1] at this
    have e2 : sg (List.range 1) (fun q => c q * pw n (ent T) (n - q) 0 j) = c 0 * pw n (ent T) n 0 j + 0 := rfl
    rw [e2, B.1] at this
    omega
def S_law : List D → D → Prop := fun ds d => ∃ ns : List Int, ns.length ≤ 63 ∧ ds = [.list (ns.map .int)] ∧ d = .bool true
section
variable {P : Program} {w : World} {K : Fg} {mg : Str → Option Value} {base : Heap} (G : Fre mg)
include G
theorem kw3_bottom (qual : Str) (kV doc pm : Value) (an : Option Addr) (cdv ct : Value) (us : List Value) (h : us.length = (["web"] : List Str).length) : bindArgs (PySem.W.fnOf "bottom_of" qual (defArgs (top 30)) (defBody (top 30)) (defScope (top 30)) .none kV doc pm an cdv ct) ⟨[], (["web"] : List Str).zip us⟩ = pure ((["web"] : List Str).zip (DL.pick [0] us)) :=
  match us, h with | [_], _ => rfl
abbrev n_law : List Str := ["_law_script", "_law_deck_here", "_law_web_here", "_law_bottom", "_law_most", "_law_it", "_law_tables", "_law_exponent"]
omit G in
theorem nd_law : n_law.Nodup := by decide
theorem b_law {CW : Addr} (Fdk : Df P w K mg base 1 "_law_deck" (top 32) ["_law_script"] 2 (pfq Pre_deck Post_deck)) (Fpk : Df P w K mg base 2 "_law_pick" (top 34) ["_law_deck_here", "_law_some"] 0 fsPick)
    (Fwb : Df P w K mg base 3 "_law_web" (top 36) ["_law_deck_here", "_law_most"] 0 fsWebM) (Fbt : Df P w K mg base 7 "bottom_of" (top 30) ["web"] 0 (pfo (S_bottom_of CW)))
    (Fpw : Df P w K mg base 8 "_law_are_powers_right" (top 42) ["_law_deck_here", "_law_web_here", "_law_most"] 0 fsPows) (Fz : Df P w K mg base 1 "_law_is_zero" (top 41) ["_law_tables", "_law_bottom"] 0 (pfs S_lzero))
    (Fnm : Df P w K mg base 8 "_law_are_numbers_right" (top 43) ["_law_deck_here", "_law_web_here", "_law_tables", "_law_bottom"] 0 fsNums) (Fsm : Df P w K mg base 1 "_law_same" (top 39) ["_law_told", "_law_due"] 0 (pfs S_lsame))
    {k : Nat} (hk : 8 ≤ k) {ds : List D} {d0 : D} (S : S_law ds d0) : BodyP P w K mg base k n_law ["_law_script"] (top 44) 0 ds (fun d' => d' = d0) (fun _ _ => False) := by
  obtain ⟨ns, hns, rfl, rfl⟩ := S
  generalize hsc : PyData.list (ns.map PyData.int) = sc
  intro qual f cdv A outer s H E
  conv in (occs := *) defScope _ => all_goals whnf
  conv in defBody _ => whnf
  intro hr
  have le : ∀ {a : Nat}, a ≤ 8 → a ≤ k := fun h => Nat.le_trans h hk
  show SS _ _ _ _ [.pv sc, .no, .no, .no, .no, .no, .no, .no] _
  refine ss_cons (s1_setO 1 2 (eg_callQ Fdk hr (le (by decide)) (ea_cons (ev_var 0 rfl (ea_nil ⟨[sc], rfl, rfl, ⟨ns, hns, by rw [hsc]⟩, fun d hd => ⟨lt_ok rfl, fun v => ?_⟩⟩)))) nd_law)
  have hd : DeckD d := hd
  refine ss_cons (s1_set 2 (eg_deck Fwb hr (le (by decide)) 1 rfl (ev_int ⟨rfl, v, 2, d, rfl, v, d, 5, rfl, hd, by omega, by omega, fun n T d1 _ hn hW hB hd1 => ⟨lt_ok rfl, ?_⟩⟩) ⟨rfl, rfl, trivial⟩) nd_law)
  have hT := hW.tbl
  have l1 := hT.len
  have n1 := hT.n1
  have dw : DW n T := ⟨hW, hn, hB⟩
  obtain ⟨c, B⟩ : ∃ c, Bot n (ent T) c := bot_ex n1 hn (ent T)
  show SS _ _ _ _ [.pv sc, .ow v 2 d1, .pv (tb T), .no, .no, .no, .no, .no] _
  refine ss_cons (s1_par2 3 4 0 0 rfl nd_law (eg_callSX Fbt hr (le (by decide)) (ev_var 2 rfl ⟨rfl, .inl ⟨_, ⟨n, T, c, hW, dw.sm, B, rfl, rfl⟩, ?_⟩⟩) ⟨rfl, trivial⟩))
  refine ev_pick Fpk hr (le (by decide)) 1 rfl (ev_tups (le_ok rfl) (ev_int (ev_int (ev_int (ev_int (ev_int (ev_int ⟨v, d1, _, rfl, rfl, hd1, lt_ok rfl, lt_ok rfl, fun x d2 hx hd2 => ⟨lt_ok rfl, lt_ok rfl, fun _ _ => ?_⟩⟩)))))) ⟨rfl, rfl, rfl, rfl, rfl, rfl, trivial⟩)
  obtain ⟨m, hm1, hm2, rfl⟩ := pick_nat (a := 7) (b := 40) (by decide) hx
  have hbl := bl_le c n
  have hb2 := bl_two hW B
  have gc : ∀ a, a < bl c n → (intsD (bl c n) c)[a]? = some (.int (c a)) := fun a ha => by simp [intsD, ha]
  have elb : (intsD (bl c n) c).length = bl c n := by simp [intsD]
  have g0 : ∀ {X : Cx}, SubG X (.tuple (intsD (bl c n) c)) (.int 0) (.int 1) := by
    intro X
    have := gc 0 (by omega)
    rw [B.1] at this
    exact sub_tup (at_nat (i := 0) this)
  have gl : ∀ {X : Cx}, SubG X (.tuple (intsD (bl c n) c)) (.int (-1)) (.int (c (bl c n - 1))) := sub_tup (at_lst1 (m := bl c n - 1) (by omega) (gc _ (by omega)))
  show SS _ _ _ _ [.pv sc, .ow v 2 d2, .pv (tb T), .pv (.tuple (intsD (bl c n) c)), .pv (.int (m : Nat)), .no, .no, .no] _
  refine ss_cons (S1.nxi (N := fun Γ' => Γ' = [.pv sc, .ow v 2 d2, .pv (tb T), .pv (.tuple (intsD (bl c n) c)), .pv (.int (m : Nat)), .no, .no, .no]) (s1_if (et_of_w (ew_or (et_not (et_val (ev_isi (Tn := "tuple") G.isi G.tuple boot_tuple (ev_var 3 rfl ⟨rfl, _, kit_tup' _, ⟨_, rfl, fun h1 => (ew_or1 (et_cmp (EG.cut (d0 := .list []) (eg_freeze (eg_lc (n := 0) (own := [("_law_it", 5)]) rfl nd_law (ei_seq (ev_var 3 rfl ⟨_, rfl, ?_⟩)) (blkOk_by (by rfl)))) (eg_freeze (n := 1) (eg_lsts (le_ok rfl) ⟨_, (c_neNilL hr.rm.units), fun h2 => ?_, fun h3 => ?_⟩ trivial))))), fun h4 => ⟨fun _ => ?_, fun z => nomatch z⟩⟩⟩))))))) ?_)
  · refine lci_filterL (List.range (bl c n)) (fun i => .int (c i)) (fun i => .int (c i)) (fun _ => false) (by unfold intsD; rw [List.map_map]; rfl) (by simp; omega) rfl ⟨by simp, rfl⟩ fun i hi s H C cl fp => ?_
    refine gt_name 5 nd_law (lt_ok rfl) fun s H C cl fp => ?_
    refine ET.flt (Γn := [.pv sc, .ow v 2 d2, .pv (tb T), .pv (.tuple (intsD (bl c n) c)), .pv (.int (m : Nat)), .pv (.int (c i)), .no, .no]) ?_ rfl fun _ s H C cl fp => ev_var 5 rfl ⟨rfl, rfl⟩
    refine (et_of_w (ew_or (et_not (et_val (ev_isi (Tn := "int") G.isi G.int boot_int (ev_var 5 rfl ⟨rfl, _, kit_int' _, ⟨_, rfl, fun h1 => (ew_or1 (et_val (ev_isi (Tn := "bool") G.isi G.bool boot_bool (ev_var 5 rfl ⟨rfl, _, kit_bool _, ⟨_, rfl, fun h2 => ?_, fun h3 => ?_⟩⟩)))), fun h4 => ⟨fun _ => ?_, fun z => nomatch z⟩⟩⟩))))))
    · cases h2
    · exact ⟨rfl, rfl⟩
    · cases h4
  · cases h2
  · exact ss_nil rfl
  · cases h4
  · rintro Γ' rfl
    refine ss_cons (S1.nxi (N := fun Γ' => Γ' = [.pv sc, .ow v 2 d2, .pv (tb T), .pv (.tuple (intsD (bl c n) c)), .pv (.int (m : Nat)), .no, .no, .no]) (s1_if (et_of_w (ew_or (et_cmp (eg_callB1 G.len boot_len (ev_var 3 rfl ⟨_, q_len rfl, (ev_int ⟨_, c_lt, fun h1 => (ew_or (et_cmp (eg_callB1 G.len boot_len (ev_var 3 rfl ⟨_, q_len rfl, (eg_bin (eg_callB1 G.len boot_len (ev_var 2 rfl ⟨_, q_len rfl, (ev_int ⟨_, b_add, ⟨_, c_gt, fun h2 => (ew_or (et_cmp (ev_sub (ev_var 3 rfl (ev_int ⟨_, g0, (ev_int ⟨_, c_neI, fun h3 => (ew_or1 (et_cmp (ev_sub (ev_var 3 rfl (ev_neg (ev_int ⟨_, rfl, ⟨_, gl, (ev_int ⟨_, c_eqI, fun h4 => ?_, fun h5 => ?_⟩)⟩⟩)))))), fun h6 => ⟨fun _ => ?_, fun z => nomatch z⟩⟩)⟩))))), fun h7 => ⟨fun _ => ?_, fun z => nomatch z⟩⟩⟩)⟩)))⟩)))), fun h8 => ⟨fun _ => ?_, fun z => nomatch z⟩⟩)⟩)))))) ?_)
    · exact absurd (of_decide_eq_true h4) (bl_last B.1 n)
    · exact ss_nil rfl
    · cases h6
    · have h7 := of_decide_eq_true h7
      rw [elb] at h7
      simp only [List.length_map, l1] at h7
      omega
    · have h8 := of_decide_eq_true h8
      rw [elb] at h8
      omega
    rintro Γ' rfl
    refine ss_cons (s1_set 6 (eg_deck Fpw hr (le (by decide)) 1 rfl (ev_var 2 rfl (ev_var 4 rfl ⟨rfl, v, 2, d2, rfl, v, d2, n, T, m, rfl, hd2, dw, hm2, fun d3 hd3 => ⟨lt_ok rfl, ?_⟩⟩)) ⟨rfl, rfl, rfl, trivial⟩) nd_law)
    show SS _ _ _ _ [.pv sc, .ow v 2 d3, .pv (tb T), .pv (.tuple (intsD (bl c n) c)), .pv (.int (m : Nat)), .no, .pv (pwL n T (m + 1)), .no] _
    refine ss_cons (S1.nxi (N := fun Γ' => Γ' = [.pv sc, .ow v 2 d3, .pv (tb T), .pv (.tuple (intsD (bl c n) c)), .pv (.int (m : Nat)), .no, .pv (pwL n T (m + 1)), .no]) (s1_if (et_cmp (ev_var 6 rfl (ev_non ⟨_, c_isN, fun h1 => ?_, fun h2 => ss_nil rfl⟩)))) ?_)
    · cases h1
    rintro Γ' rfl
    refine ss_cons (s1_for (ix := [7]) (passes_of rfl) rfl (ei_range2 G.range (eg_callB1 G.len boot_len (ev_var 2 rfl ⟨_, q_len (ds := T.map rowD) rfl, eg_bin (ev_var 4 rfl (ev_int ⟨_, b_add, (n : Nat), (m : Nat) + 1, by simp [l1], rfl, by omega, ?_⟩))⟩))))
    have er : rngD (n : Nat) ((m : Nat) + 1) = (List.range (m + 1 - n)).map fun (i : Nat) => .int ((n + i : Nat) : Int) := by
      unfold rngD
      rw [show (((m : Nat) : Int) + 1 - (n : Nat)).toNat = m + 1 - n by omega]
      exact List.map_congr_left fun i _ => by congr 1
    rw [er]
    refine ⟨fun _ Γ => ∃ s7, Γ = [.pv sc, .ow v 2 d3, .pv (tb T), .pv (.tuple (intsD (bl c n) c)), .pv (.int (m : Nat)), .no, .pv (pwL n T (m + 1)), s7], ⟨.no, rfl⟩, ?_, ?_⟩
    · rintro i dd Γ hdd ⟨s7, rfl⟩
      have hi : i < m + 1 - n := by
        have := (List.getElem?_eq_some_iff.mp hdd).1
        simpa using this
      obtain rfl : dd = .int ((n + i : Nat) : Int) := by
        rw [List.getElem?_map, List.getElem?_range hi] at hdd
        exact (Option.some.inj hdd).symm
      refine gt_name 7 nd_law (lt_ok rfl) ?_
      refine ss_one (s1_if (et_not (et_val (eg_callS Fz hr (le (by decide)) (eg_freeze (n := 1) (eg_sliceL (lo := none) (hi := some _) (ev_var 6 rfl (eg_bin (ev_var 7 rfl (ev_int ⟨_, b_add, _, rfl, _, rfl, ev_var 3 rfl ⟨rfl, _, ⟨n, T, c, n + i, hT, dw.sm, B, by omega, by omega, ?_, rfl⟩, true, rfl, (fun z => nomatch z), fun _ => ss_nil ⟨_, rfl⟩⟩⟩)))))) ⟨rfl, rfl, trivial⟩))))
      rw [show ((n + i : Nat) : Int) + 1 = ((n + i + 1 : Nat) : Int) by omega, cut_to (by simp only [List.length_map, List.length_range]; omega)]
      unfold pwL
      rw [← List.map_take, List.take_range, Nat.min_eq_left (by omega)]
    · rintro Γ ⟨s7, rfl⟩
      have rpb : RpOk (.tuple (intsD (bl c n) c)) := (rp_intsG (m := bl c n) (f := c) (by omega) fun k hk => by
        have h1 := bot_bd hT dw.sm B k
        have h2 : 2 ^ (27 * k) ≤ 2 ^ 135 := Nat.pow_le_pow_right (by decide) (by omega)
        have h3 : 2 ^ 135 < 10 ^ 90 := by decide
        exact Nat.lt_of_le_of_lt (Nat.le_trans h1 h2) h3).2
      refine ss_cons (s1_if (et_not (et_val (eg_callS Fsm hr (le (by decide)) (eg_callKX Fbt hr (le (by decide)) [0] (kw3_bottom G) rfl (ek_cons (ev_var 2 rfl (ek_nil ⟨[tb T], rfl, rfl, rfl, .inl ⟨_, ⟨n, T, c, hW, dw.sm, B, rfl, rfl⟩, ev_var 3 rfl ⟨rfl, _, ⟨_, rfl, rpb, rfl⟩, true, rfl, (fun z => nomatch z), fun _ => ss_nil ?_⟩⟩⟩)))) ⟨rfl, rfl, trivial⟩))))
      exact ss_one (s1_ret (eg_deck Fnm hr (le (by decide)) 1 rfl (ev_var 2 rfl (ev_var 6 rfl (ev_var 3 rfl ⟨rfl, v, 2, d3, rfl, v, d3, n, T, m, c, rfl, hd3, dw, B, hm2, fun d4 hd4 => ⟨le_ok rfl, rfl⟩⟩))) ⟨rfl, rfl, rfl, rfl, trivial⟩))
end
end KX
set_option Elab.async false
set_option linter.all false
set_option maxRecDepth 100000
set_option maxHeartbeats 0
namespace KX
open PySem PySem.Spec PyProof.Rows L2 DL He
/-! ### the head -/
def dNx (x : Str) (i : Nat) : DefD := ⟨(x, none), x, x, defArgs (top i), defBody (top i), defScope (top i), [], []⟩
def clsB : Stmt → Stmt
  | .ClassDef _ _ _ (b :: _) _ _ _ _ _ _ _ => b
  | s => s
abbrev iS_BadWeb : Stmt := clsB (top 2)
def dI_BadWeb : DefD := ⟨("BadWeb", some "__init__"), "__init__", "BadWeb.__init__", defArgs iS_BadWeb, defBody iS_BadWeb, defScope iS_BadWeb, [], []⟩
abbrev iS_BadRoom : Stmt := clsB (top 4)
def dI_BadRoom : DefD := ⟨("BadRoom", some "__init__"), "__init__", "BadRoom.__init__", defArgs iS_BadRoom, defBody iS_BadRoom, defScope iS_BadRoom, [], []⟩
abbrev iS_BadLength : Stmt := clsB (top 3)
def dI_BadLength : DefD := ⟨("BadLength", some "__init__"), "__init__", "BadLength.__init__", defArgs iS_BadLength, defBody iS_BadLength, defScope iS_BadLength, [], []⟩
def fn : List DefD := [dNx "is_integer" 16,
  dNx "is_from" 17,
  dNx "is_between" 18,
  dNx "is_row" 19,
  dNx "is_row_from" 20,
  dNx "is_table_thing" 21,
  dNx "reached_from" 11,
  dNx "fault_of" 12,
  dNx "is_web_thing" 22,
  dNx "need_web" 23,
  dNx "need_length" 24,
  dNx "product_of" 7,
  dNx "unit_table" 8,
  dNx "trace_of" 10,
  dNx "power_of" 9,
  dNx "traces_to" 13,
  dNx "bottom_polynomial" 14,
  dNx "power" 26,
  dNx "walks_many" 28,
  dNx "closed_many" 29,
  dNx "bottom_of" 30,
  dNx "_law_draw" 33,
  dNx "_law_pick" 34,
  dNx "_law_order" 35,
  dNx "_law_web" 36,
  dNx "_law_deck" 32,
  dNx "_law_same" 39,
  dNx "_law_product" 37,
  dNx "_law_unit" 38,
  dNx "_law_table" 40,
  dNx "_law_is_zero" 41,
  dNx "_law_are_powers_right" 42,
  dNx "_law_are_numbers_right" 43,
  dNx "law" 44,
  dI_BadWeb,
  dI_BadRoom,
  dI_BadLength]
def fa : List Fa := ([.glo "is_integer", .glo "is_from", .glo "is_between", .glo "is_row", .glo "is_row_from", .glo "is_table_thing", .glo "reached_from", .glo "fault_of", .glo "is_web_thing", .glo "need_web", .glo "need_length", .glo "product_of", .glo "unit_table", .glo "trace_of", .glo "power_of", .glo "traces_to", .glo "bottom_polynomial", .glo "power", .glo "walks_many", .glo "closed_many", .glo "bottom_of", .glo "_law_draw", .glo "_law_pick", .glo "_law_order"] : List Fa) ++ ([.glo "_law_web", .glo "_law_deck", .glo "_law_same", .glo "_law_product", .glo "_law_unit", .glo "_law_table", .glo "_law_is_zero", .glo "_law_are_powers_right", .glo "_law_are_numbers_right", .glo "law", .free "isinstance", .free "int", .free "bool", .free "tuple", .free "list", .free "str", .free "len", .free "all", .free "sorted", .free "range", .free "enumerate", .free "zip", .free "sum", .free "max"] : List Fa) ++ ([.free "min", .free "abs", .free "repr", .free "dict", .int "MOST_ROOMS" 8, .glo "BadWeb", .noat "BadWeb" "thing", .meth "BadWeb" "__init__", .exm "BadWeb" "BadWeb" true, .glo "BadRoom", .noat "BadRoom" "thing", .meth "BadRoom" "__init__", .exm "BadRoom" "BadRoom" true, .glo "BadLength", .noat "BadLength" "thing", .meth "BadLength" "__init__", .exm "BadLength" "BadLength" true] : List Fa)
def ex : List (PySem.W.Frag → Bool) := [fun K => xclA K (ga K "BadWeb"), fun K => xfB K (ga K "BadWeb"), fun K => xclA K (ga K "BadRoom"), fun K => xfB K (ga K "BadRoom"), fun K => xclA K (ga K "BadLength"), fun K => xfB K (ga K "BadLength"), noLst, lamB]
abbrev R : PySem.W.OpenRow := PySem.W.OpenLaw.row PySem.Challenge.rw_otherpace_k03_whole_powers_obey_the_bott
abbrev hk : PySem.W.Hook := hookX 5 fa fn ex
def ob (s : PySem.W.SharedT) : AlX := obsXG 5 fa fn ex (HandSHeadRun.getT s)
theorem ob_eq (s : PySem.W.SharedT) : ob s = hk.obs s.abs := obsXG_eq (HandSHeadRun.getT_eq s)
def lo : List Str := ((["PaceError", "BadWeb", "BadLength", "BadRoom", "MOST_ROOMS", "product_of", "unit_table", "power_of", "trace_of", "reached_from", "fault_of", "traces_to", "bottom_polynomial", "is_integer", "is_from", "is_between", "is_row", "is_row_from", "is_table_thing", "is_web_thing", "need_web", "need_length", "power", "walks_many", "closed_many", "bottom_of", "_law_deck", "_law_draw", "_law_pick", "_law_order"] : List Str) ++ (["_law_web", "_law_product", "_law_unit", "_law_same", "_law_table", "_law_is_zero", "_law_are_powers_right", "_law_are_numbers_right"] : List Str))
theorem run (w : World) : HandSHeadRun.RunEq R (PySem.W.view R.prog [44]) hk ob 4000 lo w := by
  intro os
  kernel_rfl
theorem fun_at {K : Fg} {h : Heap} {mg : Str → Option Value} (X : K.In h) (G : h.Ns mainGlobals mg) (c : SaysX fa fn ex K) (i : Nat) (x : Str) (j : Nat) (h1 : fn[i]? = some (dNx x j) := by rfl) (h2 : fa[i]? = some (.glo x) := by rfl) :
    ∃ f fd, Fun K x x (top j) f fd ∧ mg x = some (.ref f) := by
  obtain ⟨fd, F⟩ := c.d.def_ i h1
  exact ⟨_, fd, fun_of F, glo_ok X G (c.d.fact i h2)⟩
theorem fun_inj {K : Fg} {x q q' : Str} {st : Stmt} {f : Addr} {fd fd' : FuncData} (F : Fun K x q st f fd) (F' : Fun K x q' st f fd') : fd = fd' := by
  obtain ⟨_, _, _, _, _, _, _, _, _, rfl, l, _⟩ := F.ex
  obtain ⟨_, _, _, _, _, _, _, _, _, rfl, l', _⟩ := F'.ex
  rw [l] at l'
  cases l'
  rfl
theorem fre_of {K : Fg} {h : Heap} {mg : Str → Option Value} (X : K.In h) (G : h.Ns mainGlobals mg) (c : SaysX fa fn ex K) : Fre mg :=
  ⟨free_ok X G (c.d.fact 34 (f := .free "isinstance") rfl), free_ok X G (c.d.fact 35 (f := .free "int") rfl), free_ok X G (c.d.fact 36 (f := .free "bool") rfl), free_ok X G (c.d.fact 37 (f := .free "tuple") rfl), free_ok X G (c.d.fact 38 (f := .free "list") rfl), free_ok X G (c.d.fact 39 (f := .free "str") rfl), free_ok X G (c.d.fact 40 (f := .free "len") rfl), free_ok X G (c.d.fact 41 (f := .free "all") rfl), free_ok X G (c.d.fact 42 (f := .free "sorted") rfl), free_ok X G (c.d.fact 43 (f := .free "range") rfl), free_ok X G (c.d.fact 44 (f := .free "enumerate") rfl), free_ok X G (c.d.fact 45 (f := .free "zip") rfl), free_ok X G (c.d.fact 46 (f := .free "sum") rfl), free_ok X G (c.d.fact 47 (f := .free "max") rfl), free_ok X G (c.d.fact 48 (f := .free "min") rfl), free_ok X G (c.d.fact 49 (f := .free "abs") rfl), free_ok X G (c.d.fact 50 (f := .free "repr") rfl), free_ok X G (c.d.fact 51 (f := .free "dict") rfl)⟩
theorem exn_BadWeb {P : Program} {w : World} {base : Heap} {K : Fg} {h : Heap} {mg : Str → Option Value} (X : K.In h) (G : h.Ns mainGlobals mg) (c : SaysX fa fn ex K) : Exn P w K mg base "BadWeb" "thing" (ga K "BadWeb") := by
  obtain ⟨fd, F⟩ := c.d.def_ 34 (d := dI_BadWeb) rfl
  have M := meth_ok (c.d.fact 55 (f := .meth "BadWeb" "__init__") rfl)
  have F1 : Fun K "__init__" "BadWeb.__init__" iS_BadWeb (ma K (ga K "BadWeb") "__init__") fd := fun_of F
  refine ⟨xcl_ok (c.own 0), glo_ok X G (c.d.fact 53 (f := .glo "BadWeb") rfl), noat_ok (c.d.fact 54 (f := .noat "BadWeb" "thing") rfl), ⟨_, fd, M.at_, beq_iff_eq.mp M.fn, ?_, fun s u v => ?_⟩, xfB_ok (c.own 1), exm_ok (c.d.fact 56 (f := .exm "BadWeb" "BadWeb" true) rfl)⟩
  · exact init_d F1 ⟨rfl, rfl, rfl, by decide +kernel, rfl, by decide +kernel, by decide +kernel⟩ rfl rfl rfl (by decide) (by decide) (by decide) (by decide) fun env he => by
      obtain ⟨_, _, _, _, _⟩ := env
      cases he
      rfl
  · obtain ⟨oc, od, kV, doc, pm, an, cdv, ct, osl, rfl, _, _⟩ := F1.ex
    exact .of_eq rfl
theorem exn_BadRoom {P : Program} {w : World} {base : Heap} {K : Fg} {h : Heap} {mg : Str → Option Value} (X : K.In h) (G : h.Ns mainGlobals mg) (c : SaysX fa fn ex K) : Exn P w K mg base "BadRoom" "thing" (ga K "BadRoom") := by
  obtain ⟨fd, F⟩ := c.d.def_ 35 (d := dI_BadRoom) rfl
  have M := meth_ok (c.d.fact 59 (f := .meth "BadRoom" "__init__") rfl)
  have F1 : Fun K "__init__" "BadRoom.__init__" iS_BadRoom (ma K (ga K "BadRoom") "__init__") fd := fun_of F
  refine ⟨xcl_ok (c.own 2), glo_ok X G (c.d.fact 57 (f := .glo "BadRoom") rfl), noat_ok (c.d.fact 58 (f := .noat "BadRoom" "thing") rfl), ⟨_, fd, M.at_, beq_iff_eq.mp M.fn, ?_, fun s u v => ?_⟩, xfB_ok (c.own 3), exm_ok (c.d.fact 60 (f := .exm "BadRoom" "BadRoom" true) rfl)⟩
  · exact init_d F1 ⟨rfl, rfl, rfl, by decide +kernel, rfl, by decide +kernel, by decide +kernel⟩ rfl rfl rfl (by decide) (by decide) (by decide) (by decide) fun env he => by
      obtain ⟨_, _, _, _, _⟩ := env
      cases he
      rfl
  · obtain ⟨oc, od, kV, doc, pm, an, cdv, ct, osl, rfl, _, _⟩ := F1.ex
    exact .of_eq rfl
theorem exn_BadLength {P : Program} {w : World} {base : Heap} {K : Fg} {h : Heap} {mg : Str → Option Value} (X : K.In h) (G : h.Ns mainGlobals mg) (c : SaysX fa fn ex K) : Exn P w K mg base "BadLength" "thing" (ga K "BadLength") := by
  obtain ⟨fd, F⟩ := c.d.def_ 36 (d := dI_BadLength) rfl
  have M := meth_ok (c.d.fact 63 (f := .meth "BadLength" "__init__") rfl)
  have F1 : Fun K "__init__" "BadLength.__init__" iS_BadLength (ma K (ga K "BadLength") "__init__") fd := fun_of F
  refine ⟨xcl_ok (c.own 4), glo_ok X G (c.d.fact 61 (f := .glo "BadLength") rfl), noat_ok (c.d.fact 62 (f := .noat "BadLength" "thing") rfl), ⟨_, fd, M.at_, beq_iff_eq.mp M.fn, ?_, fun s u v => ?_⟩, xfB_ok (c.own 5), exm_ok (c.d.fact 64 (f := .exm "BadLength" "BadLength" true) rfl)⟩
  · exact init_d F1 ⟨rfl, rfl, rfl, by decide +kernel, rfl, by decide +kernel, by decide +kernel⟩ rfl rfl rfl (by decide) (by decide) (by decide) (by decide) fun env he => by
      obtain ⟨_, _, _, _, _⟩ := env
      cases he
      rfl
  · obtain ⟨oc, od, kV, doc, pm, an, cdv, ct, osl, rfl, _, _⟩ := F1.ex
    exact .of_eq rfl
theorem law_df {P : Program} {w : World} {K : Fg} {h base : Heap} {mg : Str → Option Value} (X : K.In h) (H : h.Ns mainGlobals mg) (c : SaysX fa fn ex K) (TB : TBs K mg base) : Df P w K mg base 9 "law" (top 44) ["_law_script"] 0 (pfs S_law) := by
  have G := fre_of X H c
  have h_MOST_ROOMS : ∃ t, mg "MOST_ROOMS" = some (.int 8 t) := int_ok X H (c.d.fact 52 (f := .int "MOST_ROOMS" 8) rfl)
  have NBadWeb : Exn P w K mg base "BadWeb" "thing" (ga K "BadWeb") := exn_BadWeb X H c
  have NBadRoom : Exn P w K mg base "BadRoom" "thing" (ga K "BadRoom") := exn_BadRoom X H c
  have NBadLength : Exn P w K mg base "BadLength" "thing" (ga K "BadLength") := exn_BadLength X H c
  obtain ⟨f0, fd0, F0, m0⟩ := fun_at X H c 0 "is_integer" 16
  have D_is_integer : Df P w K mg base 1 "is_integer" (top 16) ["thing"] 0 (pfs S_is_integer) := df_p F0 (N := n_is_integer) ⟨rfl, rfl, rfl, by decide +kernel, rfl, by decide +kernel, by decide +kernel⟩ m0 (fun _ _ _ _ _ _ _ us hl => match us, hl with | [_], _ => rfl) (fun ds d S => by (repeat (first | (subst S; rfl) | (obtain ⟨e, _⟩ := S; subst e; rfl) | (obtain ⟨_, S⟩ := S)))) fun ds d S => b_is_integer G S
  obtain ⟨f1, fd1, F1, m1⟩ := fun_at X H c 1 "is_from" 17
  have D_is_from : Df P w K mg base 2 "is_from" (top 17) ["thing", "least"] 0 (pfs S_is_from) := df_p F1 (N := n_is_from) ⟨rfl, rfl, rfl, by decide +kernel, rfl, by decide +kernel, by decide +kernel⟩ m1 (fun _ _ _ _ _ _ _ us hl => match us, hl with | [_, _], _ => rfl) (fun ds d S => by (repeat (first | (subst S; rfl) | (obtain ⟨e, _⟩ := S; subst e; rfl) | (obtain ⟨_, S⟩ := S)))) fun ds d S => b_is_from G D_is_integer (Nat.le_refl _) S
  obtain ⟨f2, fd2, F2, m2⟩ := fun_at X H c 2 "is_between" 18
  have D_is_between : Df P w K mg base 2 "is_between" (top 18) ["thing", "least", "most"] 0 (pfs S_is_between) := df_p F2 (N := n_is_between) ⟨rfl, rfl, rfl, by decide +kernel, rfl, by decide +kernel, by decide +kernel⟩ m2 (fun _ _ _ _ _ _ _ us hl => match us, hl with | [_, _, _], _ => rfl) (fun ds d S => by (repeat (first | (subst S; rfl) | (obtain ⟨e, _⟩ := S; subst e; rfl) | (obtain ⟨_, S⟩ := S)))) fun ds d S => b_is_between G D_is_integer (Nat.le_refl _) S
  obtain ⟨f3, fd3, F3, m3⟩ := fun_at X H c 3 "is_row" 19
  have D_is_row : Df P w K mg base 2 "is_row" (top 19) ["thing", "many"] 0 (pfs S_is_row) := df_p F3 (N := n_is_row) ⟨rfl, rfl, rfl, by decide +kernel, rfl, by decide +kernel, by decide +kernel⟩ m3 (fun _ _ _ _ _ _ _ us hl => match us, hl with | [_, _], _ => rfl) (fun ds d S => by (repeat (first | (subst S; rfl) | (obtain ⟨e, _⟩ := S; subst e; rfl) | (obtain ⟨_, S⟩ := S)))) fun ds d S => b_is_row G D_is_integer (Nat.le_refl _) S
  obtain ⟨f4, fd4, F4, m4⟩ := fun_at X H c 4 "is_row_from" 20
  have D_is_row_from : Df P w K mg base 3 "is_row_from" (top 20) ["thing", "many", "least"] 0 (pfs S_is_row_from) := df_p F4 (N := n_is_row_from) ⟨rfl, rfl, rfl, by decide +kernel, rfl, by decide +kernel, by decide +kernel⟩ m4 (fun _ _ _ _ _ _ _ us hl => match us, hl with | [_, _, _], _ => rfl) (fun ds d S => by (repeat (first | (subst S; rfl) | (obtain ⟨e, _⟩ := S; subst e; rfl) | (obtain ⟨_, S⟩ := S)))) fun ds d S => b_is_row_from G D_is_row (Nat.le_refl _) S
  obtain ⟨f5, fd5, F5, m5⟩ := fun_at X H c 5 "is_table_thing" 21
  have D_is_table_thing : Df P w K mg base 4 "is_table_thing" (top 21) ["thing"] 0 (pfs S_is_table_thing) := df_p F5 (N := n_is_table_thing) ⟨rfl, rfl, rfl, by decide +kernel, rfl, by decide +kernel, by decide +kernel⟩ m5 (fun _ _ _ _ _ _ _ us hl => match us, hl with | [_], _ => rfl) (fun ds d S => by (repeat (first | (subst S; rfl) | (obtain ⟨e, _⟩ := S; subst e; rfl) | (obtain ⟨_, S⟩ := S)))) fun ds d S => b_is_table_thing G D_is_row_from h_MOST_ROOMS (Nat.le_refl _) S
  obtain ⟨f6, fd6, F6, m6⟩ := fun_at X H c 6 "reached_from" 11
  have D_reached_from : Df P w K mg base 1 "reached_from" (top 11) ["table", "room"] 1 (pfs S_reached_from) := df_p F6 (N := n_reached_from) ⟨rfl, rfl, rfl, by decide +kernel, rfl, by decide +kernel, by decide +kernel⟩ m6 (fun _ _ _ _ _ _ _ us hl => match us, hl with | [_, _], _ => rfl) (fun ds d S => by (repeat (first | (subst S; rfl) | (obtain ⟨e, _⟩ := S; subst e; rfl) | (obtain ⟨_, S⟩ := S)))) fun ds d S => b_reached_from G S
  obtain ⟨f7, fd7, F7, m7⟩ := fun_at X H c 7 "fault_of" 12
  have D_fault_of : Df P w K mg base 2 "fault_of" (top 12) ["table"] 0 (pfs S_fault_of) := df_p F7 (N := n_fault_of) ⟨rfl, rfl, rfl, by decide +kernel, rfl, by decide +kernel, by decide +kernel⟩ m7 (fun _ _ _ _ _ _ _ us hl => match us, hl with | [_], _ => rfl) (fun ds d S => by (repeat (first | (subst S; rfl) | (obtain ⟨e, _⟩ := S; subst e; rfl) | (obtain ⟨_, S⟩ := S)))) fun ds d S => b_fault_of G D_reached_from (Nat.le_refl _) S
  obtain ⟨f8, fd8, F8, m8⟩ := fun_at X H c 8 "is_web_thing" 22
  have D_is_web_thing : Df P w K mg base 5 "is_web_thing" (top 22) ["thing"] 0 (pfs S_is_web_thing) := df_p F8 (N := n_is_web_thing) ⟨rfl, rfl, rfl, by decide +kernel, rfl, by decide +kernel, by decide +kernel⟩ m8 (fun _ _ _ _ _ _ _ us hl => match us, hl with | [_], _ => rfl) (fun ds d S => by (repeat (first | (subst S; rfl) | (obtain ⟨e, _⟩ := S; subst e; rfl) | (obtain ⟨_, S⟩ := S)))) fun ds d S => b_is_web_thing G D_is_table_thing D_fault_of (Nat.le_refl _) S
  obtain ⟨f9, fd9, F9, m9⟩ := fun_at X H c 9 "need_web" 23
  have D_need_web : Df P w K mg base 6 "need_web" (top 23) ["web"] 0 (pfo (S_need_web (ga K "BadWeb"))) := df_o F9 (N := n_need_web) ⟨rfl, rfl, rfl, by decide +kernel, rfl, by decide +kernel, by decide +kernel⟩ m9 (fun _ _ _ _ _ _ _ us hl => match us, hl with | [_], _ => rfl) (fun ds o S => by (repeat (first | (subst S; rfl) | (obtain ⟨e, _⟩ := S; subst e; rfl) | (obtain ⟨_, S⟩ := S)))) fun ds o S => b_need_web G NBadWeb D_is_web_thing (Nat.le_refl _) S
  obtain ⟨f10, fd10, F10, m10⟩ := fun_at X H c 10 "need_length" 24
  have D_need_length : Df P w K mg base 3 "need_length" (top 24) ["length", "least"] 0 (pfo (S_need_length (ga K "BadLength"))) := df_o F10 (N := n_need_length) ⟨rfl, rfl, rfl, by decide +kernel, rfl, by decide +kernel, by decide +kernel⟩ m10 (fun _ _ _ _ _ _ _ us hl => match us, hl with | [_, _], _ => rfl) (fun ds o S => by (repeat (first | (subst S; rfl) | (obtain ⟨e, _⟩ := S; subst e; rfl) | (obtain ⟨_, S⟩ := S)))) fun ds o S => b_need_length G NBadLength D_is_from (Nat.le_refl _) S
  obtain ⟨f11, fd11, F11, m11⟩ := fun_at X H c 11 "product_of" 7
  have D_product_of : Df P w K mg base 1 "product_of" (top 7) ["one", "other"] 0 (pfs S_product_of) := df_p F11 (N := n_product_of) ⟨rfl, rfl, rfl, by decide +kernel, rfl, by decide +kernel, by decide +kernel⟩ m11 (fun _ _ _ _ _ _ _ us hl => match us, hl with | [_, _], _ => rfl) (fun ds d S => by (repeat (first | (subst S; rfl) | (obtain ⟨e, _⟩ := S; subst e; rfl) | (obtain ⟨_, S⟩ := S)))) fun ds d S => b_product_of G S
  obtain ⟨f12, fd12, F12, m12⟩ := fun_at X H c 12 "unit_table" 8
  have D_unit_table : Df P w K mg base 1 "unit_table" (top 8) ["many"] 0 (pfs S_unit_table) := df_p F12 (N := n_unit_table) ⟨rfl, rfl, rfl, by decide +kernel, rfl, by decide +kernel, by decide +kernel⟩ m12 (fun _ _ _ _ _ _ _ us hl => match us, hl with | [_], _ => rfl) (fun ds d S => by (repeat (first | (subst S; rfl) | (obtain ⟨e, _⟩ := S; subst e; rfl) | (obtain ⟨_, S⟩ := S)))) fun ds d S => b_unit_table G S
  obtain ⟨f13, fd13, F13, m13⟩ := fun_at X H c 13 "trace_of" 10
  have D_trace_of : Df P w K mg base 1 "trace_of" (top 10) ["table"] 0 (pfs S_trace_of) := df_p F13 (N := n_trace_of) ⟨rfl, rfl, rfl, by decide +kernel, rfl, by decide +kernel, by decide +kernel⟩ m13 (fun _ _ _ _ _ _ _ us hl => match us, hl with | [_], _ => rfl) (fun ds d S => by (repeat (first | (subst S; rfl) | (obtain ⟨e, _⟩ := S; subst e; rfl) | (obtain ⟨_, S⟩ := S)))) fun ds d S => b_trace_of G S
  obtain ⟨f14, fd14, F14, m14⟩ := fun_at X H c 14 "power_of" 9
  have D_power_of : Df P w K mg base 2 "power_of" (top 9) ["table", "exponent"] 0 (pfs S_power_of) := df_p F14 (N := n_power_of) ⟨rfl, rfl, rfl, by decide +kernel, rfl, by decide +kernel, by decide +kernel⟩ m14 (fun _ _ _ _ _ _ _ us hl => match us, hl with | [_, _], _ => rfl) (fun ds d S => by (repeat (first | (subst S; rfl) | (obtain ⟨e, _⟩ := S; subst e; rfl) | (obtain ⟨_, S⟩ := S)))) fun ds d S => b_power_of G D_unit_table D_product_of (Nat.le_refl _) S
  obtain ⟨f15, fd15, F15, m15⟩ := fun_at X H c 15 "traces_to" 13
  have D_traces_to : Df P w K mg base 2 "traces_to" (top 13) ["table", "most"] 0 (pfs S_traces) := df_p F15 (N := n_traces_to) ⟨rfl, rfl, rfl, by decide +kernel, rfl, by decide +kernel, by decide +kernel⟩ m15 (fun _ _ _ _ _ _ _ us hl => match us, hl with | [_, _], _ => rfl) (fun ds d S => by (repeat (first | (subst S; rfl) | (obtain ⟨e, _⟩ := S; subst e; rfl) | (obtain ⟨_, S⟩ := S)))) fun ds d S => b_traces G D_unit_table D_product_of D_trace_of (Nat.le_refl _) S
  obtain ⟨f16, fd16, F16, m16⟩ := fun_at X H c 16 "bottom_polynomial" 14
  have D_bottom_polynomial : Df P w K mg base 3 "bottom_polynomial" (top 14) ["table"] 0 (pfs S_bottom) := df_p F16 (N := n_bottom_polynomial) ⟨rfl, rfl, rfl, by decide +kernel, rfl, by decide +kernel, by decide +kernel⟩ m16 (fun _ _ _ _ _ _ _ us hl => match us, hl with | [_], _ => rfl) (fun ds d S => by (repeat (first | (subst S; rfl) | (obtain ⟨e, _⟩ := S; subst e; rfl) | (obtain ⟨_, S⟩ := S)))) fun ds d S => b_bottom G D_traces_to (Nat.le_refl _) S
  obtain ⟨f17, fd17, F17, m17⟩ := fun_at X H c 17 "power" 26
  have D_power : Df P w K mg base 7 "power" (top 26) ["web", "length"] 0 (pfo (S_power (ga K "BadWeb") (ga K "BadLength"))) := df_o F17 (N := n_power) ⟨rfl, rfl, rfl, by decide +kernel, rfl, by decide +kernel, by decide +kernel⟩ m17 (fun _ _ _ _ _ _ _ us hl => match us, hl with | [_, _], _ => rfl) (fun ds o S => by (repeat (first | (subst S; rfl) | (obtain ⟨e, _⟩ := S; subst e; rfl) | (obtain ⟨_, S⟩ := S)))) fun ds o S => b_power G D_need_web D_need_length D_power_of (Nat.le_refl _) S
  obtain ⟨f18, fd18, F18, m18⟩ := fun_at X H c 18 "walks_many" 28
  have D_walks_many : Df P w K mg base 7 "walks_many" (top 28) ["web", "i", "j", "length"] 0 (pfo (S_walks (ga K "BadWeb") (ga K "BadRoom") (ga K "BadLength"))) := df_o F18 (N := n_walks_many) ⟨rfl, rfl, rfl, by decide +kernel, rfl, by decide +kernel, by decide +kernel⟩ m18 (fun _ _ _ _ _ _ _ us hl => match us, hl with | [_, _, _, _], _ => rfl) (fun ds o S => by (repeat (first | (subst S; rfl) | (obtain ⟨e, _⟩ := S; subst e; rfl) | (obtain ⟨_, S⟩ := S)))) fun ds o S => b_walks_many G NBadRoom D_need_web D_need_length D_power_of D_is_between (Nat.le_refl _) S
  obtain ⟨f19, fd19, F19, m19⟩ := fun_at X H c 19 "closed_many" 29
  have D_closed_many : Df P w K mg base 7 "closed_many" (top 29) ["web", "length"] 0 (pfo (S_closed (ga K "BadWeb") (ga K "BadLength"))) := df_o F19 (N := n_closed_many) ⟨rfl, rfl, rfl, by decide +kernel, rfl, by decide +kernel, by decide +kernel⟩ m19 (fun _ _ _ _ _ _ _ us hl => match us, hl with | [_, _], _ => rfl) (fun ds o S => by (repeat (first | (subst S; rfl) | (obtain ⟨e, _⟩ := S; subst e; rfl) | (obtain ⟨_, S⟩ := S)))) fun ds o S => b_closed_many G D_need_web D_need_length D_power_of D_trace_of (Nat.le_refl _) S
  obtain ⟨f20, fd20, F20, m20⟩ := fun_at X H c 20 "bottom_of" 30
  have D_bottom_of : Df P w K mg base 7 "bottom_of" (top 30) ["web"] 0 (pfo (S_bottom_of (ga K "BadWeb"))) := df_o F20 (N := n_bottom_of) ⟨rfl, rfl, rfl, by decide +kernel, rfl, by decide +kernel, by decide +kernel⟩ m20 (fun _ _ _ _ _ _ _ us hl => match us, hl with | [_], _ => rfl) (fun ds o S => by (repeat (first | (subst S; rfl) | (obtain ⟨e, _⟩ := S; subst e; rfl) | (obtain ⟨_, S⟩ := S)))) fun ds o S => b_bottom_of G D_need_web D_bottom_polynomial (Nat.le_refl _) S
  obtain ⟨f21, fd21, F21, m21⟩ := fun_at X H c 21 "_law_draw" 33
  have D__law_draw : Df P w K mg base 1 "_law_draw" (top 33) ["_law_deck_here", "_law_many"] 0 fsDraw := df_f F21 (N := n_law_draw) ⟨rfl, rfl, rfl, by decide +kernel, rfl, by decide +kernel, by decide +kernel⟩ m21 (fun _ _ _ _ _ _ _ us hl => match us, hl with | [_, _], _ => rfl) (fun Γ Q R S => by (repeat (first | (subst S; rfl) | (obtain ⟨e, _⟩ := S; subst e; rfl) | (obtain ⟨_, S⟩ := S)))) fun Γ Q R S => b_draw G S
  obtain ⟨f22, fd22, F22, m22⟩ := fun_at X H c 22 "_law_pick" 34
  have D__law_pick : Df P w K mg base 2 "_law_pick" (top 34) ["_law_deck_here", "_law_some"] 0 fsPick := df_f F22 (N := n_law_pick) ⟨rfl, rfl, rfl, by decide +kernel, rfl, by decide +kernel, by decide +kernel⟩ m22 (fun _ _ _ _ _ _ _ us hl => match us, hl with | [_, _], _ => rfl) (fun Γ Q R S => by (repeat (first | (subst S; rfl) | (obtain ⟨e, _⟩ := S; subst e; rfl) | (obtain ⟨_, S⟩ := S)))) fun Γ Q R S => b_pick G D__law_draw (Nat.le_refl _) S
  obtain ⟨f23, fd23, F23, m23⟩ := fun_at X H c 23 "_law_order" 35
  have D__law_order : Df P w K mg base 2 "_law_order" (top 35) ["_law_deck_here", "_law_n"] 0 fsOrder := df_f F23 (N := n_law_order) ⟨rfl, rfl, rfl, by decide +kernel, rfl, by decide +kernel, by decide +kernel⟩ m23 (fun _ _ _ _ _ _ _ us hl => match us, hl with | [_, _], _ => rfl) (fun Γ Q R S => by (repeat (first | (subst S; rfl) | (obtain ⟨e, _⟩ := S; subst e; rfl) | (obtain ⟨_, S⟩ := S)))) fun Γ Q R S => b_order G D__law_draw (Nat.le_refl _) S
  obtain ⟨f24, fd24, F24, m24⟩ := fun_at X H c 24 "_law_web" 36
  have D__law_web : Df P w K mg base 3 "_law_web" (top 36) ["_law_deck_here", "_law_most"] 0 fsWebM := df_f F24 (N := n_law_web) ⟨rfl, rfl, rfl, by decide +kernel, rfl, by decide +kernel, by decide +kernel⟩ m24 (fun _ _ _ _ _ _ _ us hl => match us, hl with | [_, _], _ => rfl) (fun Γ Q R S => by (repeat (first | (subst S; rfl) | (obtain ⟨e, _⟩ := S; subst e; rfl) | (obtain ⟨_, S⟩ := S)))) fun Γ Q R S => b_webm G D__law_draw D__law_pick D__law_order (Nat.le_refl _) S
  obtain ⟨f25, fd25, F25, m25⟩ := fun_at X H c 25 "_law_deck" 32
  have D__law_deck : Df P w K mg base 1 "_law_deck" (top 32) ["_law_script"] 2 (pfq Pre_deck Post_deck) := df_q F25 (N := n_law_deck) ⟨rfl, rfl, rfl, by decide +kernel, rfl, by decide +kernel, by decide +kernel⟩ m25 (fun _ _ _ _ _ _ _ us hl => match us, hl with | [_], _ => rfl) (fun ds S => by (repeat (first | (subst S; rfl) | (obtain ⟨e, _⟩ := S; subst e; rfl) | (obtain ⟨_, S⟩ := S)))) fun ds S => b_deck G S
  obtain ⟨f26, fd26, F26, m26⟩ := fun_at X H c 26 "_law_same" 39
  have D__law_same : Df P w K mg base 1 "_law_same" (top 39) ["_law_told", "_law_due"] 0 (pfs S_lsame) := df_p F26 (N := n_law_same) ⟨rfl, rfl, rfl, by decide +kernel, rfl, by decide +kernel, by decide +kernel⟩ m26 (fun _ _ _ _ _ _ _ us hl => match us, hl with | [_, _], _ => rfl) (fun ds d S => by (repeat (first | (subst S; rfl) | (obtain ⟨e, _⟩ := S; subst e; rfl) | (obtain ⟨_, S⟩ := S)))) fun ds d S => b_lsame G S
  obtain ⟨f27, fd27, F27, m27⟩ := fun_at X H c 27 "_law_product" 37
  have D__law_product : Df P w K mg base 1 "_law_product" (top 37) ["_law_one", "_law_other"] 0 (pfs S_lprodG) := df_p F27 (N := n_law_product) ⟨rfl, rfl, rfl, by decide +kernel, rfl, by decide +kernel, by decide +kernel⟩ m27 (fun _ _ _ _ _ _ _ us hl => match us, hl with | [_, _], _ => rfl) (fun ds d S => by (repeat (first | (subst S; rfl) | (obtain ⟨e, _⟩ := S; subst e; rfl) | (obtain ⟨_, S⟩ := S)))) fun ds d S => b_lprodG G S
  obtain ⟨f28, fd28, F28, m28⟩ := fun_at X H c 28 "_law_unit" 38
  have D__law_unit : Df P w K mg base 1 "_law_unit" (top 38) ["_law_n"] 0 (pfs S_lunit) := df_p F28 (N := n_law_unit) ⟨rfl, rfl, rfl, by decide +kernel, rfl, by decide +kernel, by decide +kernel⟩ m28 (fun _ _ _ _ _ _ _ us hl => match us, hl with | [_], _ => rfl) (fun ds d S => by (repeat (first | (subst S; rfl) | (obtain ⟨e, _⟩ := S; subst e; rfl) | (obtain ⟨_, S⟩ := S)))) fun ds d S => b_lunit G S
  obtain ⟨f29, fd29, F29, m29⟩ := fun_at X H c 29 "_law_table" 40
  have D__law_table : Df P w K mg base 1 "_law_table" (top 40) ["_law_rows"] 0 (pfs S_ltableT) := df_p F29 (N := n_law_table) ⟨rfl, rfl, rfl, by decide +kernel, rfl, by decide +kernel, by decide +kernel⟩ m29 (fun _ _ _ _ _ _ _ us hl => match us, hl with | [_], _ => rfl) (fun ds d S => by (repeat (first | (subst S; rfl) | (obtain ⟨e, _⟩ := S; subst e; rfl) | (obtain ⟨_, S⟩ := S)))) fun ds d S => b_ltableT G S
  obtain ⟨f30, fd30, F30, m30⟩ := fun_at X H c 30 "_law_is_zero" 41
  have D__law_is_zero : Df P w K mg base 1 "_law_is_zero" (top 41) ["_law_tables", "_law_bottom"] 0 (pfs S_lzero) := df_p F30 (N := n_law_is_zero) ⟨rfl, rfl, rfl, by decide +kernel, rfl, by decide +kernel, by decide +kernel⟩ m30 (fun _ _ _ _ _ _ _ us hl => match us, hl with | [_, _], _ => rfl) (fun ds d S => by (repeat (first | (subst S; rfl) | (obtain ⟨e, _⟩ := S; subst e; rfl) | (obtain ⟨_, S⟩ := S)))) fun ds d S => b_lzero G S
  obtain ⟨f31, fd31, F31, m31⟩ := fun_at X H c 31 "_law_are_powers_right" 42
  have D__law_are_powers_right : Df P w K mg base 8 "_law_are_powers_right" (top 42) ["_law_deck_here", "_law_web_here", "_law_most"] 0 fsPows := df_f F31 (N := n_law_are_powers_right) ⟨rfl, rfl, rfl, by decide +kernel, rfl, by decide +kernel, by decide +kernel⟩ m31 (fun _ _ _ _ _ _ _ us hl => match us, hl with | [_, _, _], _ => rfl) (fun Γ Q R S => by (repeat (first | (subst S; rfl) | (obtain ⟨e, _⟩ := S; subst e; rfl) | (obtain ⟨_, S⟩ := S)))) fun Γ Q R S => b_lpows G D_power D__law_draw D__law_same D__law_unit D__law_product D__law_table (Nat.le_refl _) S
  obtain ⟨f32, fd32, F32, m32⟩ := fun_at X H c 32 "_law_are_numbers_right" 43
  have D__law_are_numbers_right : Df P w K mg base 8 "_law_are_numbers_right" (top 43) ["_law_deck_here", "_law_web_here", "_law_tables", "_law_bottom"] 0 fsNums := df_f F32 (N := n_law_are_numbers_right) ⟨rfl, rfl, rfl, by decide +kernel, rfl, by decide +kernel, by decide +kernel⟩ m32 (fun _ _ _ _ _ _ _ us hl => match us, hl with | [_, _, _, _], _ => rfl) (fun Γ Q R S => by (repeat (first | (subst S; rfl) | (obtain ⟨e, _⟩ := S; subst e; rfl) | (obtain ⟨_, S⟩ := S)))) fun Γ Q R S => b_lnums G D_walks_many D_closed_many D__law_draw D__law_same (Nat.le_refl _) S
  obtain ⟨f33, fd33, F33, m33⟩ := fun_at X H c 33 "law" 44
  have D_law : Df P w K mg base 9 "law" (top 44) ["_law_script"] 0 (pfs S_law) := df_p F33 (N := n_law) ⟨rfl, rfl, rfl, by decide +kernel, rfl, by decide +kernel, by decide +kernel⟩ m33 (fun _ _ _ _ _ _ _ us hl => match us, hl with | [_], _ => rfl) (fun ds d S => by (repeat (first | (subst S; rfl) | (obtain ⟨e, _⟩ := S; subst e; rfl) | (obtain ⟨_, S⟩ := S)))) fun ds d S => b_law G D__law_deck D__law_pick D__law_web D_bottom_of D__law_are_powers_right D__law_is_zero D__law_are_numbers_right D__law_same (Nat.le_refl _) S
  exact D_law
end KX
open PySem PySem.W PySem.Calls PyProof.Rows
set_option maxRecDepth 100000 in
set_option maxHeartbeats 0 in
theorem PySem.Challenge.cw_otherpace_k03_whole_powers_obey_the_bott_holds : PySem.Challenge.rw_otherpace_k03_whole_powers_obey_the_bott.Holds := by
  w_on; o_law
  refine HandSHeadRun.head_any (r := OpenLaw.row PySem.Challenge.rw_otherpace_k03_whole_powers_obey_the_bott) (q := view (OpenLaw.row PySem.Challenge.rw_otherpace_k03_whole_powers_obey_the_bott).prog [44]) (H := KX.hk) (ob := KX.ob) (M := 4000) (loose := KX.lo) (d := HandSHeadRun.topDef (OpenLaw.row PySem.Challenge.rw_otherpace_k03_whole_powers_obey_the_bott).prog 44) (kwd := []) KX.ob_eq
    (by kernel_rfl) (fun s => by kernel_rfl) KX.run (by kernel_rfl) (by kernel_rfl) (by kernel_rfl) (by rfl) (by first | assumption | decide +kernel) (by decide +kernel) ⟨rfl, rfl, rfl, rfl, rfl, by decide +kernel⟩ ?hw ?hc
  case hw => w_witness2
  case hc =>
    refine DL.walkH_of (l := PySem.Challenge.rw_otherpace_k03_whole_powers_obey_the_bott) (n := 63) (k := 9) (x := "_law_script") rfl (by decide) (by kernel_rfl) ⟨⟨rfl, by decide, by decide⟩, rfl⟩ (by kernel_rfl) ?F
    intro w mg fa h Y G hmg0
    obtain ⟨K, XK0, c⟩ := Y
    have hmg : mg ("law" : PySem.Str) = some (.ref fa) := by
      have e : (HandSHeadRun.topDef (OpenLaw.row PySem.Challenge.rw_otherpace_k03_whole_powers_obey_the_bott).prog 44).name = ("law" : PySem.Str) := by kernel_rfl
      rw [← e]
      exact hmg0
    obtain ⟨f, fd, F, m⟩ := KX.fun_at XK0 G c 33 "law" 44
    have ef : f = fa := by
      rw [m] at hmg
      exact Value.ref.inj (Option.some.inj hmg)
    subst ef
    refine ⟨K, fd, DL.SpD K 0 1 (DL.pfs KX.S_law), XK0, DL.noLst_ok (c.own 6), c.own 7, fun s u => ?_, fun H a ns hl ht hS => DL.law_sp ht hS ⟨_, _, rfl, ⟨ns, hl, rfl, rfl⟩, rfl⟩, fun base X0 G0 TB => ?_⟩
    · obtain ⟨oc, od, kV, doc, pm, an, cdv, ct, osl, rfl, _, _⟩ := F.ex
      exact .of_eq rfl
    · obtain ⟨q', f', fd', F', hF, m'⟩ := (KX.law_df (P := (PySem.Challenge.rw_otherpace_k03_whole_powers_obey_the_bott).prog) (w := w) (base := base) XK0 G c TB).ex
      have ef : f' = f := by
        rw [m] at m'
        exact (Value.ref.inj (Option.some.inj m')).symm
      subst ef
      have e := KX.fun_inj F F'
      subst e
      exact hF
