import PyProof.Rows.All
import PySem.Challenge.RW_tallsits_k26_whole_unsure_people
import HandS.ForMost
import HandS.IsInst
import HandS.SortInts
import HandS.Strs
import HandS.SetFor
import HandS.Conv
import HandS.Wide
import HandS.Deep
import HandS.TupLe
import HandS.Lambda
import KE.SortData
import KE.DataMinMax
import KE.DataEq
import KE.DataFind
import KE.KDictKeyed
import HandS.TupAny
import HandS.Defaults
import KE.GoesMore
import HandS.Style
import PyProof.TupleOps
import HandS.Star
import KE.KDictDisplayH
import HandS.TupLen
import HandS.WordsDict
import HandS.TupSets
import HandS.HeadHook2
import KE.KDictWalk
import KE.KDictCopyH
import HandS.TupMul
import KE.KDictItemsList
import HandS.Nested
import HandS.HeadHook4
import HandS.HeadWalk
import HandS.ExcOwn
import HandS.ExcIs
import HandS.HeadHook1
import PyProof.ExcBaseAll.ValueError
import HandS.DictComp
import KE.KEqDict
import KE.KeyNested
import HandS.Text
import HandS.ReplaceLit
import HandS.ReplaceList
import HandS.SortKw
import KE.SortKeyHeap
import HandS.Head0
import HandS.Head1
import HandS.Head2
import HandS.HeadEnd
set_option Elab.async false
set_option linter.all false
set_option maxRecDepth 100000
set_option maxHeartbeats 4000000
namespace L2.P
open PySem PySem.Spec PyProof.Rows L2

abbrev D := PyData
abbrev Fg := PySem.W.Frag

theorem sqL_same {K : Fg} {F F' : Hp} {a : Addr} {xs : List V} (e : Same F F') (h : SqL K F a xs) : SqL K F' a xs := e.seq h
theorem sqT_same {K : Fg} {F F' : Hp} {a : Addr} {xs : List V} (e : Same F F') (h : SqT K F a xs) : SqT K F' a xs := by
  rcases h with (h | ⟨o, h⟩) | h
  · exact .inl (.inl (e _ _ h))
  · exact .inl (.inr ⟨o, e _ _ h⟩)
  · exact .inr h
/-- a mark that no value stands for -/
def mkD : D := .dict [(.none, .none)]
/-- a tuple of two ints that the module binds: read, but no key of a dict that is filled -/
def rqD (i j : Int) : D := .dict [(.int i, mkD), (.int j, mkD)]
structure LamD where
  params : Arguments
  body : Expr
  scope : Scope
def lamSt : Stmt → Option LamD
  | .Return (some (.Call _ es _ _)) _ => match es.getLast? with
    | some (.Lambda p b sc _) => some ⟨p, b, sc⟩
    | _ => none
  | _ => none
/-- a lambda handed on within a statement -/
def lamArg : Expr → Option LamD
  | .Call _ es _ _ => match es.getLast? with
    | some (.Lambda p b sc _) => some ⟨p, b, sc⟩
    | some (.Call _ fs _ _) => match fs.getLast? with
      | some (.Lambda p b sc _) => some ⟨p, b, sc⟩
      | _ => none
    | _ => none
  | _ => none
def lamIn : Stmt → Option LamD
  | .Assign _ e _ => lamArg e
  | .If (.UnaryOp _ e _) _ _ _ => lamArg e
  | _ => none
/-- law0, law1, law2: the law's own lambdas -/
def lamB (q : Str) : Str := if q = "law0" then "law" else if q = "law1" then "law" else if q = "law2" then "law" else q
def lamI (q : Str) : Option Nat := if q = "law0" then some 0 else if q = "law1" then some 1 else if q = "law2" then some 2 else none
/-- the lambda of the def q -/
def lamOf (K : Fg) (q : Str) : Option LamD := match PySem.W.nsIn K mainGlobals (lamB q) with
  | some (some (.ref g)) => match K.lookup g with
    | some ⟨_, _, .func fd, _⟩ => match fd.body with
      | .stmts b => match lamI q with
        | none => b.getLast?.bind lamSt
        | some j => (b.filterMap lamIn)[j]?
      | _ => none
    | _ => none
  | _ => none
def LamD.fr (L : LamD) : List Str := L.scope.names.filterMap fun y => match y.2 with
  | .free => some y.1
  | _ => none
/-- exactly this object -/
def exO (a : Addr) (o : Obj) : HO := .ext fun h => h.get? a = some o
def lamQ (q : Str) : Str := lamB q ++ ".<locals>." ++ "<lambda>"
/-- at a stands q's lambda, its captured names hold vs -/
structure LamAt (K : Fg) (F : Hp) (a : Addr) (q : Str) (vs : List V) (L : LamD) (cl : List (Str × Addr)) (c' : Addr) (pm ctv : Value) : Prop where
  of : lamOf K q = some L
  obj : F a = some (exO a (PySem.W.kla_obj "<lambda>" (lamQ q) L.params L.body L.scope cl pm c' ctv))
  code : F c' = some (LamX.CodeO c' (lamQ q))
  cell : ∀ y c, cl.lookup y = some c → ∃ o v, F c = some (exO c o) ∧ o.data = .cell v
  inj : ∀ x y c, cl.lookup x = some c → cl.lookup y = some c → x = y
  len : vs.length = L.fr.length
  has : ∀ (i : Nat) (y : Str), L.fr[i]? = some y → ∃ c o u v, cl.lookup y = some c ∧ F c = some (exO c o) ∧ o.data = .cell (some u) ∧ vs[i]? = some v ∧ RelV v u
def LamHere (K : Fg) (F : Hp) (a : Addr) (q : Str) (vs : List V) : Prop := ∃ L cl c' pm ctv, LamAt K F a q vs L cl c' pm ctv
theorem LamAt.same {K : Fg} {F F' : Hp} {a : Addr} {q : Str} {vs : List V} {L : LamD} {cl : List (Str × Addr)} {c' : Addr} {pm ctv : Value} (h : LamAt K F a q vs L cl c' pm ctv) (e : Same F F') : LamAt K F' a q vs L cl c' pm ctv where
  of := h.of
  obj := e _ _ h.obj
  code := e _ _ h.code
  cell := fun y c hc => by
    obtain ⟨o, v, e1, e2⟩ := h.cell y c hc
    exact ⟨o, v, e _ _ e1, e2⟩
  inj := h.inj
  len := h.len
  has := fun i y hy => by
    obtain ⟨c, o, u, v, e1, e2, e3, e4, e5⟩ := h.has i y hy
    exact ⟨c, o, u, v, e1, e _ _ e2, e3, e4, e5⟩
theorem LamHere.same {K : Fg} {F F' : Hp} {a : Addr} {q : Str} {vs : List V} (h : LamHere K F a q vs) (e : Same F F') : LamHere K F' a q vs := by
  obtain ⟨L, cl, c', pm, ctv, z⟩ := h
  exact ⟨L, cl, c', pm, ctv, z.same e⟩
mutual
/-- the data is that key -/
inductive NkD : NestedKey → D → Prop
  | none : NkD .none .none
  | num (i : Int) : NkD (.num i) (.int i)
  | bool (b : Bool) : NkD (.num (if b = true then 1 else 0)) (.bool b)
  | tup {ks : List NestedKey} {ds : List D} : NkDs ks ds → NkD (.tup ks) (.tuple ds)
inductive NkDs : List NestedKey → List D → Prop
  | nil : NkDs [] []
  | cons {k : NestedKey} {d : D} {ks : List NestedKey} {ds : List D} : NkD k d → NkDs ks ds → NkDs (k :: ks) (d :: ds)
end
abbrev NEnt := NestedKey × Addr × V
def NRel (p : NEnt) (q : NestedKey × Addr × Value) : Prop := p.1 = q.1 ∧ p.2.1 = q.2.1 ∧ RelV p.2.2 q.2.2
def DictNF (h : Heap) (a : Addr) (L : List NEnt) : Prop := ∃ (P : Program) (w : World) (xs : List (NestedKey × Addr × Value)) (o : Obj) (es : Array DictEntry) (ep : Nat), Paired NRel L xs ∧ h.get? a = some o ∧ o.ExactDict ∧ o.data = .dict es ep ∧ es.toList = xs.map (entryOfKey (nestedKind P w)) ∧ (xs.map (·.1)).Nodup
/-- the object at a is a dict with those entries -/
def DictNO (a : Addr) (L : List NEnt) : HO := .ext fun h => DictNF h a L
/-- a function: whose lambda, what it captured -/
def fnD (q : Str) (ps : List D) : D := .dict [(.none, .tuple (.str q :: ps))]
mutual
/-- v stands for the data p, and will -/
inductive Dp (K : Fg) (F : Hp) : V → D → Prop
  | non : Dp K F .non .none
  | bl (b : Bool) : Dp K F (.bl b) (.bool b)
  | int (i : Int) : Dp K F (.int i) (.int i)
  | str (x : Str) : Dp K F (.str x) (.str x)
  | lst {a : Addr} {xs : List V} {ps : List D} : SqL K F a xs → DpAll K F xs ps → Dp K F (.ref a) (.list ps)
  | tup {a : Addr} {xs : List V} {ps : List D} : F a = some (.tup xs) → DpAll K F xs ps → Dp K F (.ref a) (.tuple ps)
  | tupK {a : Addr} {o : Obj} {its : Array Value} {n : Nat} {xs : List V} {ps : List D} : K.lookup a = some o → o.cls = .type "tuple" → o.data = .seq its n → its.size ≤ sizeLine → Vals xs its.toList → (∃ z, PyData.str z ∈ ps) → DpAll K F xs ps → Dp K F (.ref a) (.tuple ps)
  | dk {a : Addr} {o : Obj} {es : List (Key × V)} {kvs : List (D × D)} : F a = some (.frz o (.dK es)) → DkAll K F es kvs → Dp K F (.ref a) (.dict kvs)
  | dt {a : Addr} {o : Obj} {e : List Key × V} {es : List (List Key × V)} {kvs : List (D × D)} : F a = some (.frz o (.dT (e :: es))) → DtAll K F (e :: es) kvs → Dp K F (.ref a) (.dict kvs)
  | q {a : Addr} {o : Obj} {its : Array Value} {n : Nat} {i j : Int} : K.lookup a = some o → o.cls = .type "tuple" → o.data = .seq its n → its.size ≤ sizeLine → Vals [.int i, .int j] its.toList → Dp K F (.ref a) (rqD i j)
  | fn {a : Addr} {q : Str} {vs : List V} {ps : List D} : LamHere K F a q vs → DpAll K F vs ps → Dp K F (.ref a) (fnD q ps)
  | nd {a : Addr} {o : Obj} {L : List NEnt} {zs : List D} : (a == sysModules) = false → F a = some (.frz o (DictNO a L)) → DnAll K F L zs → Dp K F (.ref a) (.dict [(.none, .list zs)])
/-- a dict's items, its keys nested tuples -/
inductive DnAll (K : Fg) (F : Hp) : List NEnt → List D → Prop
  | nil : DnAll K F [] []
  | cons {k : NestedKey} {b : Addr} {v : V} {d p : D} {L : List NEnt} {zs : List D} : NkD k d → k.depth ≤ 8 → d.plain = true → Dp K F (.ref b) d → Dp K F v p → DnAll K F L zs → DnAll K F ((k, b, v) :: L) (.tuple [d, p] :: zs)
inductive DpAll (K : Fg) (F : Hp) : List V → List D → Prop
  | nil : DpAll K F [] []
  | cons {v : V} {vs : List V} {p : D} {ps : List D} : Dp K F v p → DpAll K F vs ps → DpAll K F (v :: vs) (p :: ps)
/-- a dict's items, its keys ints -/
inductive DkAll (K : Fg) (F : Hp) : List (Key × V) → List (D × D) → Prop
  | nil : DkAll K F [] []
  | cons {k : Int} {v : V} {p : D} {es : List (Key × V)} {kvs : List (D × D)} : Dp K F v p → DkAll K F es kvs → DkAll K F ((.inl k, v) :: es) ((.int k, p) :: kvs)
/-- .. its keys tuples of ints -/
inductive DtAll (K : Fg) (F : Hp) : List (List Key × V) → List (D × D) → Prop
  | nil : DtAll K F [] []
  | cons {ks : List Int} {v : V} {p : D} {es : List (List Key × V)} {kvs : List (D × D)} : Dp K F v p → DtAll K F es kvs → DtAll K F ((ks.map Sum.inl, v) :: es) ((.tuple (ks.map .int), p) :: kvs)
end
mutual
theorem Dp.same {K : Fg} {F F' : Hp} (e : Same F F') : ∀ {v : V} {p : D}, Dp K F v p → Dp K F' v p
  | _, _, .non => .non
  | _, _, .bl b => .bl b
  | _, _, .int i => .int i
  | _, _, .str i => .str i
  | _, _, .tup s r => .tup (e _ _ s) (DpAll.same e r)
  | _, _, .tupK a b c d f g r => .tupK a b c d f g (DpAll.same e r)
  | _, _, .lst s r => .lst (sqL_same e s) (DpAll.same e r)
  | _, _, .dk s r => .dk (e _ _ s) (DkAll.same e r)
  | _, _, .dt s r => .dt (e _ _ s) (DtAll.same e r)
  | _, _, .q a b c d f => .q a b c d f
  | _, _, .fn h r => .fn (h.same e) (DpAll.same e r)
  | _, _, .nd m s r => .nd m (e _ _ s) (DnAll.same e r)
theorem DnAll.same {K : Fg} {F F' : Hp} (e : Same F F') : ∀ {L : List NEnt} {zs : List D}, DnAll K F L zs → DnAll K F' L zs
  | _, _, .nil => .nil
  | _, _, .cons a b c d f g => .cons a b c (Dp.same e d) (Dp.same e f) (DnAll.same e g)
theorem DpAll.same {K : Fg} {F F' : Hp} (e : Same F F') : ∀ {vs : List V} {ps : List D}, DpAll K F vs ps → DpAll K F' vs ps
  | _, _, .nil => .nil
  | _, _, .cons a b => .cons (Dp.same e a) (DpAll.same e b)
theorem DkAll.same {K : Fg} {F F' : Hp} (e : Same F F') : ∀ {vs : List (Key × V)} {ps : List (D × D)}, DkAll K F vs ps → DkAll K F' vs ps
  | _, _, .nil => .nil
  | _, _, .cons a b => .cons (Dp.same e a) (DkAll.same e b)
theorem DtAll.same {K : Fg} {F F' : Hp} (e : Same F F') : ∀ {vs : List (List Key × V)} {ps : List (D × D)}, DtAll K F vs ps → DtAll K F' vs ps
  | _, _, .nil => .nil
  | _, _, .cons a b => .cons (Dp.same e a) (DtAll.same e b)
end
mutual
/-- plain data, as the library says it -/
theorem Dp.lib {K : Fg} {F : Hp} : ∀ {v : V} {p : D}, Dp K F v p → p.plain = true → L2.Dp K F v p
  | _, _, .non, _ => .non
  | _, _, .bl b, _ => .bl b
  | _, _, .int i, _ => .int i
  | _, _, .str i, _ => .str i
  | _, _, .tup s r, h => .tup (.inl (.inl s)) (DpAll.lib r (by simpa [PyData.plain] using h))
  | _, _, .tupK a b c d f _ r, h => .tup (.inr ⟨_, _, _, a, b, c, d, f⟩) (DpAll.lib r (by simpa [PyData.plain] using h))
  | _, _, .lst s r, h => .lst s (DpAll.lib r (by simpa [PyData.plain] using h))
  | _, _, .dk s r, h => by simp [PyData.plain] at h
  | _, _, .dt s r, h => by simp [PyData.plain] at h
  | _, _, .q a b c d f, h => by simp [rqD, PyData.plain] at h
  | _, _, .fn _ _, h => by simp [fnD, PyData.plain] at h
  | _, _, .nd _ _ _, h => by simp [PyData.plain] at h
theorem DpAll.lib {K : Fg} {F : Hp} : ∀ {vs : List V} {ps : List D}, DpAll K F vs ps → PyData.plainAll ps = true → L2.DpAll K F vs ps
  | _, _, .nil, _ => .nil
  | _, _, .cons a b, h => by
    rw [PyData.plainAll, Bool.and_eq_true] at h
    exact .cons (Dp.lib a h.1) (DpAll.lib b h.2)
end
theorem Dp.reads {X : Cx} {pins : List (Addr × Obj)} {σ : St} {H : Hp} {s : Shared} (I : L2.Inv X pins σ H s) (d : D) (v : V) (u : Value) (h : Dp X.K H v d) (hp : d.plain = true) (r : RelV v u) : ∃ as, Reads s.heap u d as := L2.Dp.reads I d v u (h.lib hp) r
theorem Dp.readsAll {X : Cx} {pins : List (Addr × Obj)} {σ : St} {H : Hp} {s : Shared} (I : L2.Inv X pins σ H s) (ds : List D) (vs : List V) (us : List Value) (h : DpAll X.K H vs ds) (hp : PyData.plainAll ds = true) (r : Vals vs us) : ∃ as, ReadsAll s.heap us ds as := L2.Dp.readsAll I ds vs us (h.lib hp) r
theorem DpAll.length {K : Fg} {F : Hp} : ∀ {vs : List V} {ps : List D}, DpAll K F vs ps → vs.length = ps.length
  | _, _, .nil => rfl
  | _, _, .cons _ b => congrArg (· + 1) (DpAll.length b)
theorem DpAll.append {K : Fg} {F : Hp} : ∀ {vs us : List V} {ps qs : List D}, DpAll K F vs ps → DpAll K F us qs → DpAll K F (vs ++ us) (ps ++ qs)
  | _, _, _, _, .nil, h => h
  | _, _, _, _, .cons a b, h => .cons a (DpAll.append b h)
theorem DpAll.get {K : Fg} {F : Hp} : ∀ {vs : List V} {ps : List D} {i : Nat} {p : D}, DpAll K F vs ps → ps[i]? = some p → ∃ v, vs[i]? = some v ∧ Dp K F v p
  | _, _, _, _, .nil, h => by simp at h
  | _, _, 0, _, .cons a _, h => by simp at h; subst h; exact ⟨_, rfl, a⟩
  | _, _, i + 1, _, .cons _ b, h => by simpa using DpAll.get (i := i) b (by simpa using h)
theorem DpAll.getV {K : Fg} {F : Hp} : ∀ {vs : List V} {ps : List D} {i : Nat} {v : V}, DpAll K F vs ps → vs[i]? = some v → ∃ p, ps[i]? = some p ∧ Dp K F v p
  | _, _, _, _, .nil, h => by simp at h
  | _, _, 0, _, .cons a _, h => by simp at h; subst h; exact ⟨_, rfl, a⟩
  | _, _, i + 1, _, .cons _ b, h => by simpa using DpAll.getV (i := i) b (by simpa using h)
theorem DpAll.set {K : Fg} {F : Hp} {v : V} {p : D} (r : Dp K F v p) : ∀ {vs : List V} {ps : List D} (i : Nat), DpAll K F vs ps → DpAll K F (vs.set i v) (ps.set i p)
  | _, _, _, .nil => .nil
  | _, _, 0, .cons _ b => .cons r b
  | _, _, i + 1, .cons a b => .cons a (DpAll.set r i b)
theorem DpAll.drop {K : Fg} {F : Hp} : ∀ {vs : List V} {ps : List D} (n : Nat), DpAll K F vs ps → DpAll K F (vs.drop n) (ps.drop n)
  | _, _, 0, r => r
  | _, _, _ + 1, .nil => .nil
  | _, _, n + 1, .cons _ t => DpAll.drop n t
theorem DpAll.take {K : Fg} {F : Hp} : ∀ {vs : List V} {ps : List D} (n : Nat), DpAll K F vs ps → DpAll K F (vs.take n) (ps.take n)
  | _, _, 0, _ => .nil
  | _, _, _ + 1, .nil => .nil
  | _, _, n + 1, .cons a t => .cons a (DpAll.take n t)
theorem DpAll.uncons {K : Fg} {F : Hp} {vs : List V} {p : D} {ps : List D} (h : DpAll K F vs (p :: ps)) : ∃ v us, vs = v :: us ∧ Dp K F v p ∧ DpAll K F us ps := by
  cases h with
  | cons a b => exact ⟨_, _, rfl, a, b⟩
theorem DpAll.unnil {K : Fg} {F : Hp} {vs : List V} (h : DpAll K F vs []) : vs = [] := by cases h; rfl
section
variable {K : Fg} {F : Hp} {v : V}
theorem Dp.inv_non (h : Dp K F v .none) : v = .non := by cases h; rfl
theorem Dp.inv_bl {b : Bool} (h : Dp K F v (.bool b)) : v = .bl b := by cases h; rfl
theorem Dp.inv_int {i : Int} (h : Dp K F v (.int i)) : v = .int i := by cases h; rfl
theorem Dp.inv_str {x : Str} (h : Dp K F v (.str x)) : v = .str x := by cases h; rfl
theorem Dp.inv_tup {ps : List D} (h : Dp K F v (.tuple ps)) : ∃ a xs, v = .ref a ∧ SqT K F a xs ∧ DpAll K F xs ps := by
  cases h with
  | tup s r => exact ⟨_, _, rfl, .inl (.inl s), r⟩
  | tupK a b c d f _ r => exact ⟨_, _, rfl, .inr ⟨_, _, _, a, b, c, d, f⟩, r⟩
theorem Dp.inv_tupX {ps : List D} (h : Dp K F v (.tuple ps)) (hz : ∀ z, PyData.str z ∉ ps) : ∃ a xs, v = .ref a ∧ F a = some (.tup xs) ∧ DpAll K F xs ps := by
  cases h with
  | tup s r => exact ⟨_, _, rfl, s, r⟩
  | tupK _ _ _ _ _ g _ => exact absurd g.choose_spec (hz _)
theorem Dp.inv_dictQ {kvs : List (D × D)} (h : Dp K F v (.dict kvs)) (nz : ∀ zs, kvs ≠ [(.none, .list zs)] := by intro _ z; cases z) : ∃ a, v = .ref a ∧ ((∃ o es, F a = some (.frz o (.dK es)) ∧ DkAll K F es kvs) ∨ (∃ o e es, F a = some (.frz o (.dT (e :: es))) ∧ DtAll K F (e :: es) kvs) ∨ (∃ i j, kvs = [(.int i, mkD), (.int j, mkD)] ∧ ∀ F, SqT K F a [.int i, .int j]) ∨ ∃ q vs ps, kvs = [(.none, .tuple (.str q :: ps))] ∧ LamHere K F a q vs ∧ DpAll K F vs ps) := by
  generalize hp : PyData.dict kvs = p at h
  cases h with
  | dk s r => cases hp; exact ⟨_, rfl, .inl ⟨_, _, s, r⟩⟩
  | dt s r => cases hp; exact ⟨_, rfl, .inr (.inl ⟨_, _, _, s, r⟩)⟩
  | q a b c d f => cases hp; exact ⟨_, rfl, .inr (.inr (.inl ⟨_, _, rfl, fun _ => .inr ⟨_, _, _, a, b, c, d, f⟩⟩))⟩
  | fn h r => cases hp; exact ⟨_, rfl, .inr (.inr (.inr ⟨_, _, _, rfl, h, r⟩))⟩
  | nd _ s r => cases hp; exact absurd rfl (nz _)
  | _ => cases hp
theorem Dp.inv_lst {ps : List D} (h : Dp K F v (.list ps)) : ∃ a xs, v = .ref a ∧ SqL K F a xs ∧ DpAll K F xs ps := by
  cases h with
  | lst s r => exact ⟨_, _, rfl, s, r⟩
end
theorem dpAll_ints {K : Fg} {F : Hp} : ∀ {vs : List V} (ns : List Int), DpAll K F vs (ns.map PyData.int) → vs = ns.map V.int
  | _, [], h => DpAll.unnil h
  | _, n :: ns, h => by
    obtain ⟨v, us, rfl, r, t⟩ := DpAll.uncons h
    rw [Dp.inv_int r, dpAll_ints ns t]
    rfl
theorem dpAll_of_ints {K : Fg} {F : Hp} : ∀ (ns : List Int), DpAll K F (ns.map V.int) (ns.map PyData.int)
  | [] => .nil
  | n :: ns => .cons (.int n) (dpAll_of_ints ns)
theorem dpAll_bls {K : Fg} {F : Hp} : ∀ {vs : List V} (ns : List Bool), DpAll K F vs (ns.map PyData.bool) → vs = ns.map V.bl
  | _, [], h => DpAll.unnil h
  | _, n :: ns, h => by
    obtain ⟨v, us, rfl, r, t⟩ := DpAll.uncons h
    rw [Dp.inv_bl r, dpAll_bls ns t]
    rfl

/-- what a memo dict holds: its keys tuples of ints (t), nested tuples of ints and bools (n) -/
inductive MG where
  | t (G : D → D → Prop) | n (G : D → D → Prop) | x (zs : List D) | o (a : Addr) (u : HO)
instance : Coe (D → D → Prop) MG := ⟨MG.t⟩
/-- entries that stand for data -/
def NEnts (K : Fg) (F : Hp) : List NEnt → List (D × D) → Prop := Paired fun p e => NkD p.1 e.1 ∧ p.1.depth ≤ 8 ∧ e.1.plain = true ∧ Dp K F (.ref p.2.1) e.1 ∧ Dp K F p.2.2 e.2
theorem NEnts.same {K : Fg} {F F' : Hp} {L : List NEnt} {kvs : List (D × D)} (h : NEnts K F L kvs) (e : Same F F') : NEnts K F' L kvs := Paired.mapP h fun _ _ z => ⟨z.1, z.2.1, z.2.2.1, z.2.2.2.1.same e, z.2.2.2.2.same e⟩
/-- exactly these entries -/
def ExactOk (K : Fg) (zs : List D) (F H : Hp) (r : Addr) : Prop := ∃ L : List NEnt, (r == sysModules) = false ∧ H r = some (DictNO r L) ∧ DnAll K F L zs ∧ (L.map (·.1)).Nodup ∧ L.length ≤ sizeLine
def NestOk (K : Fg) (G : D → D → Prop) (F H : Hp) (r : Addr) : Prop := ∃ (L : List NEnt) (kvs : List (D × D)), (r == sysModules) = false ∧ H r = some (DictNO r L) ∧ NEnts K F L kvs ∧ (L.map (·.1)).Nodup ∧ L.length ≤ sizeLine ∧ ∀ e ∈ kvs, G e.1 e.2
theorem dict_ne_code (a : Addr) (L : List NEnt) (c : Addr) (q : Str) : DictNO a L ≠ LamX.CodeO c q := fun z => by
  unfold DictNO LamX.CodeO at z
  injection z with z
  obtain ⟨oc, hoc⟩ : ∃ oc : Obj, oc = { cls := .none, data := .fields #[.none, .str q default] } := ⟨_, rfl⟩
  obtain ⟨h, hh⟩ : ∃ h : Heap, h = { objs := (Array.replicate c ({ cls := .none } : Obj)).push oc } := ⟨_, rfl⟩
  have e1 : h.get? c = some oc := by
    unfold Heap.get?
    have e : h.objs[c]? = some oc := by
      rw [hh, Array.getElem?_push]
      simp
    rw [e, hoc]
  have hp := (congrFun z h).mpr ⟨oc, #[.none, .str q default], default, e1, by rw [hoc], rfl⟩
  obtain ⟨P, w, xs, o, es, ep, _, g, _, dd, _⟩ := hp
  by_cases ac : a = c
  · rw [ac, e1] at g
    cases g
    rw [hoc] at dd
    cases dd
  · unfold Heap.get? at g
    have e : h.objs[a]? = none ∨ h.objs[a]? = some ({ cls := .none } : Obj) := by
      rw [hh, Array.getElem?_push]
      simp only [Array.size_replicate]
      rw [if_neg ac, Array.getElem?_replicate]
      split
      · exact .inr rfl
      · exact .inl rfl
    rcases e with e | e
    · rw [e] at g; cases g
    · rw [e] at g
      cases g
      cases dd
/-- what is known of a slot: nothing; a value that never changes; a list that this frame alone holds; the row of draws -/
inductive Sl where
  | no | v (p : D) | ol (xs : List D) | rw (m : Option MG) | od (t : Bool) (kvs : List (D × D))
abbrev Sl.row : Sl := .rw none
inductive Sl.IsRw : Sl → Prop
  | mk (m : Option MG) : Sl.IsRw (.rw m)
abbrev Rho := List Sl

/-- the row of draws: the script (frozen), the place, a number, a rest -/
def RowOk (K : Fg) (m : Option MG) (F H : Hp) (r : Addr) : Prop := match m with
  | none => ∃ (sa : Addr) (ns : List Int) (b c d : Int), H r = some (.lst [.ref sa, .int b, .int c, .int d]) ∧ SqL K F sa (ns.map V.int) ∧ ns.length ≤ 63 ∧ 0 ≤ b ∧ 0 ≤ c ∧ 0 ≤ d
  | some (.n G) => NestOk K G F H r
  | some (.x zs) => ExactOk K zs F H r
  | some (.o a u) => r = a ∧ H r = some u ∧ (∀ xs, u ≠ HO.tup xs) ∧ ¬ ((∃ ps, u = HO.tbl ps) ∨ ∃ c q, u = LamX.CodeO c q)
  | some (.t G) => ∃ (es : List (List Key × V)) (kvs : List (List Int × D)), H r = some (.dT es) ∧ DtAll K F es (kvs.map fun e => (.tuple (e.1.map .int), e.2)) ∧ (kvs.map fun e => e.1).Nodup ∧ ∀ e ∈ kvs, G (.tuple (e.1.map .int)) e.2

/-- no dict of this frame alone -/
def noX : Option MG → Prop
  | some (.x _) => False
  | _ => True
/-- a frame's base: the frozen heap and the heap at its entry, the row that it was handed -/
structure Bs where
  Fa : Hp
  Ha : Hp
  r : Option Addr
  m : Option MG

def tbNames : List Str := ["law", "calls_to_end", "calls_to_sit", "calls_to_sit_all", "calls_to_alone", "calls_to_end_with", "calls_to_size", "seen_person", "seen_numbers", "seen_tallest", "calm_row"]
/-- the code object of the def x, its table -/
def cdOf (K : Fg) (x : Str) : Option (Addr × Addr) := match PySem.W.nsIn K mainGlobals x with
  | some (some (.ref g)) => match K.lookup g with
    | some ⟨_, _, .func fd, _⟩ => match fd.code with
      | .ref c => match K.lookup c with
        | some ⟨_, _, .fields vs, _⟩ => match (show Option Value from vs[11]?) with
          | some (.ref P) => some (c, P)
          | _ => none
        | _ => none
      | _ => none
    | _ => none
  | _ => none
/-- .. if the table isn't part of K -/
def tbOf (K : Fg) (x : Str) : Option (Addr × Str) := match cdOf K x with
  | some (_, P) => if (K.lookup P).isNone = true then some (P, x ++ ".<locals>.<lambda>") else none
  | none => none
def tbT (K : Fg) : List (Addr × Str) := tbNames.filterMap (tbOf K)
def isTE (o : HO) : Prop := (∃ ps, o = .tbl ps) ∨ ∃ c q, o = LamX.CodeO c q
/-- no table is frozen -/
def NoTb (F : Hp) : Prop := ∀ b ps, F b ≠ some (.tbl ps)
def TbOk (K : Fg) (F H : Hp) : Prop := (∀ p ∈ tbT K, F p.1 = none) ∧ LamX.Tabs (tbT K) H ∧ NoTb F
theorem NoTb.up {F : Hp} {a : Addr} {o : HO} (h : NoTb F) (no : ∀ ps, o ≠ .tbl ps) : NoTb (upd F a o) := fun b ps e => by
  by_cases q : b = a
  · subst q; rw [upd_same] at e; exact no ps (Option.some.inj e)
  · rw [upd_ne q] at e; exact h b ps e
theorem nte_tbl {o : HO} (h : ¬ isTE o) : ∀ ps, o ≠ .tbl ps := fun ps z => h (.inl ⟨ps, z⟩)
/-- b stays as it is -/
def Ex (K : Fg) (r : Option Addr) (b : Addr) : Prop := some b ≠ r ∧ ∀ p ∈ tbT K, p.1 ≠ b
theorem not_te {o : HO} (h : (match o with | .tbl _ => false | .ext _ => false | _ => true) = true) : ¬ isTE o := by
  rintro (⟨ps, rfl⟩ | ⟨c, q, rfl⟩)
  · cases h
  · unfold LamX.CodeO at h
    cases h
theorem dict_te (a : Addr) (L : List NEnt) : ¬ isTE (DictNO a L) := by
  rintro (⟨ps, z⟩ | ⟨c, q, z⟩)
  · unfold DictNO at z; cases z
  · exact dict_ne_code a L c q z
theorem dict_nt (a : Addr) (L : List NEnt) : ∀ xs, DictNO a L ≠ HO.tup xs := fun xs z => by unfold DictNO at z; cases z
theorem tabs_ext {T : List (Addr × Str)} {H H' : Hp} (t : LamX.Tabs T H) (e : ∀ b o, H b = some o → isTE o → H' b = some o) : LamX.Tabs T H' := fun p hp => by
  obtain ⟨ps, h1, h2, h3⟩ := t p hp
  refine ⟨ps, e _ _ h1 (.inl ⟨_, rfl⟩), h2, fun pos cv hc => ?_⟩
  obtain ⟨c, e1, e2⟩ := h3 pos cv hc
  exact ⟨c, e1, e _ _ e2 (.inr ⟨_, _, rfl⟩)⟩
section
variable {K : Fg} {F F' H H' : Hp} {a : Addr} {o o0 o1 : HO}
theorem TbOk.ne (h : TbOk K F H) (e : H a = some o) (nt : ¬ isTE o) : ∀ p ∈ tbT K, p.1 ≠ a := fun p hp z => by
  obtain ⟨ps, h1, _⟩ := h.2.1 p hp
  rw [z, e] at h1
  exact nt (.inl ⟨ps, Option.some.inj h1⟩)
theorem TbOk.ne0 (h : TbOk K F H) (e : H a = none) : ∀ p ∈ tbT K, p.1 ≠ a := fun p hp z => by
  obtain ⟨ps, h1, _⟩ := h.2.1 p hp
  rw [z, e] at h1
  cases h1
theorem TbOk.up (h : TbOk K F H) (n : H a = none) (no : ∀ ps, o ≠ .tbl ps) : TbOk K (upd F a o) (upd H a o) :=
  ⟨fun p hp => by rw [upd_ne (h.ne0 n p hp)]; exact h.1 p hp, tabs_ext h.2.1 fun b u e _ => by rw [upd_ne (ne_of_none e n)]; exact e, h.2.2.up no⟩
theorem TbOk.lay (h : TbOk K F H) (n : H a = none) : TbOk K F (upd H a o) :=
  ⟨h.1, tabs_ext h.2.1 (fun b u e _ => by rw [upd_ne (ne_of_none e n)]; exact e), h.2.2⟩
theorem TbOk.chg (h : TbOk K F H) (e : H a = some o0) (nt : ¬ isTE o0) : TbOk K F (upd H a o) :=
  ⟨h.1, tabs_ext h.2.1 (fun b u e2 t => by
    have ne : b ≠ a := fun z => by
      rw [z, e] at e2
      exact nt (by rw [Option.some.inj e2]; exact t)
    rw [upd_ne ne]; exact e2), h.2.2⟩
theorem TbOk.frz (h : TbOk K F H) (e : H a = some o) (nt : ¬ isTE o) : TbOk K (upd F a o) H :=
  ⟨fun p hp => by rw [upd_ne (h.ne e nt p hp)]; exact h.1 p hp, h.2.1, h.2.2.up (nte_tbl nt)⟩
theorem TbOk.both (h : TbOk K F H) (e : H a = some o0) (nt : ¬ isTE o0) (n1 : ∀ ps, o1 ≠ .tbl ps := by intro _ z; cases z) : TbOk K (upd F a o1) (upd H a o) :=
  ⟨fun p hp => by rw [upd_ne (h.ne e nt p hp)]; exact h.1 p hp, (h.chg e nt).2.1, h.2.2.up n1⟩
end
def SameX (K : Fg) (r : Option Addr) (H H' : Hp) : Prop := ∀ b o, Ex K r b → H b = some o → H' b = some o
theorem SameX.refl {K : Fg} {r : Option Addr} (H : Hp) : SameX K r H H := fun _ _ _ h => h
theorem SameX.trans {K : Fg} {r : Option Addr} {H H1 H2 : Hp} (a : SameX K r H H1) (b : SameX K r H1 H2) : SameX K r H H2 := fun c o n h => b c o n (a c o n h)
theorem sameX_of {K : Fg} {r : Option Addr} {H H' : Hp} (a : Same H H') : SameX K r H H' := fun b o _ h => a b o h
theorem SameX.any {K : Fg} {r : Option Addr} {H H' : Hp} (a : SameX K none H H') : SameX K r H H' := fun b o n h => a b o ⟨by simp, n.2⟩ h

/-- a dict stands at a; t: its keys are tuples of ints (else ints) -/
def DAt (K : Fg) (F H : Hp) (t : Bool) (a : Addr) (kvs : List (D × D)) : Prop := match t with
  | false => ∃ es, H a = some (.dK es) ∧ DkAll K F es kvs
  | true => ∃ es, H a = some (.dT es) ∧ DtAll K F es kvs
theorem DAt.mono {K : Fg} {F F' H H' : Hp} {t : Bool} {a : Addr} {kvs : List (D × D)} (h : DAt K F H t a kvs) (eF : Same F F') (eH : ∀ o, H a = some o → H' a = some o) : DAt K F' H' t a kvs := by
  cases t with
  | false => obtain ⟨es, e, d⟩ := h; exact ⟨es, eH _ e, d.same eF⟩
  | true => obtain ⟨es, e, d⟩ := h; exact ⟨es, eH _ e, d.same eF⟩
theorem DAt.there {K : Fg} {F H : Hp} {t : Bool} {a : Addr} {kvs : List (D × D)} (h : DAt K F H t a kvs) : ∃ o, H a = some o ∧ ∀ xs, o ≠ .tup xs := by
  cases t with
  | false => obtain ⟨es, e, d⟩ := h; exact ⟨_, e, fun xs z => by cases z⟩
  | true => obtain ⟨es, e, d⟩ := h; exact ⟨_, e, fun xs z => by cases z⟩
/-- nothing, or a tuple -/
def Fz (o : Option HO) : Prop := o = none ∨ ∃ xs, o = some (.tup xs)
inductive SlOk (K : Fg) (B : Bs) (F H : Hp) : Option (Option V) → Sl → Prop
  | no {x : Option (Option V)} : SlOk K B F H x .no
  | v {x : V} {p : D} : Dp K F x p → SlOk K B F H (some (some x)) (.v p)
  | ol {a : Addr} {xs : List V} {ps : List D} : F a = none → B.Ha a = none → H a = some (.lst xs) → DpAll K F xs ps → SlOk K B F H (some (some (.ref a))) (.ol ps)
  | row {a : Addr} {m : Option MG} : F a = none → (B.Ha a = none ∨ (B.r = some a ∧ B.m = m ∧ noX m)) → RowOk K m F H a → SlOk K B F H (some (some (.ref a))) (.rw m)
  | od {t : Bool} {a : Addr} {kvs : List (D × D)} : F a = none → B.Ha a = none → DAt K F H t a kvs → SlOk K B F H (some (some (.ref a))) (.od t kvs)

def Sl.owns : Sl → Bool
  | .ol _ => true
  | .rw _ => true
  | .od _ _ => true
  | _ => false

structure Rs (K : Fg) (B : Bs) (F H : Hp) (σ : St) (ρ : Rho) : Prop where
  sub : Same F H
  ext : Same B.Fa F
  new : ∀ b, B.Fa b = none → F b ≠ none → Fz (B.Ha b)
  old : SameX K B.r B.Ha H
  hrow : ∀ r, B.r = some r → F r = none ∧ RowOk K B.m F H r
  hr2 : ∀ r, B.r = some r → B.Ha r ≠ none
  len : σ.length = ρ.length
  at_ : ∀ (i : Nat) (s : Sl), ρ[i]? = some s → SlOk K B F H σ[i]? s
  apart : ∀ (i j : Nat) (a : Addr) (s t : Sl), i ≠ j → ρ[i]? = some s → ρ[j]? = some t → s.owns = true → t.owns = true → σ[i]? = some (some (.ref a)) → σ[j]? = some (some (.ref a)) → False
  tb : TbOk K F H
  tbh : ∀ p ∈ tbT K, ∃ ps, B.Ha p.1 = some (.tbl ps)

theorem same_upd {H : Hp} {p : Addr} {o : HO} (h : H p = none) : Same H (upd H p o) := fun b x e => by
  rw [upd_ne (ne_of_none e h)]
  exact e
theorem same_upd2 {F H : Hp} {p : Addr} {o : HO} (h : Same F H) (n : F p = none) : Same F (upd H p o) := fun b x e => by
  rw [upd_ne (ne_of_none e n)]
  exact h _ _ e
theorem same_upd3 {F H : Hp} {p : Addr} {o : HO} (h : Same F H) : Same (upd F p o) (upd H p o) := fun b x e => by
  by_cases q : b = p
  · subst q; rw [upd_same] at e ⊢; exact e
  · rw [upd_ne q] at e ⊢; exact h _ _ e

section
variable {K : Fg} {B : Bs} {F F' H H' : Hp} {σ : St} {ρ : Rho}
theorem RowOk.thereX {m : Option MG} {r : Addr} (R : RowOk K m F H r) : ∃ o, H r = some o ∧ (∀ xs, o ≠ HO.tup xs) ∧ ¬ isTE o := by
  cases m with
  | none =>
    obtain ⟨_, _, _, _, _, h, _⟩ := R
    exact ⟨_, h, (fun _ z => by cases z), not_te rfl⟩
  | some G =>
    cases G with
    | t G =>
      obtain ⟨_, _, h, _⟩ := R
      exact ⟨_, h, (fun _ z => by cases z), not_te rfl⟩
    | n G =>
      obtain ⟨_, _, _, h, _⟩ := R
      exact ⟨_, h, dict_nt _ _, dict_te _ _⟩
    | x zs =>
      obtain ⟨_, _, h, _⟩ := R
      exact ⟨_, h, dict_nt _ _, dict_te _ _⟩
    | o a u =>
      obtain ⟨_, h, n1, n2⟩ := R
      exact ⟨_, h, n1, n2⟩
theorem RowOk.there {m : Option MG} {r : Addr} (R : RowOk K m F H r) : ∃ o, H r = some o := by
  obtain ⟨o, h, _⟩ := R.thereX
  exact ⟨_, h⟩
theorem RowOk.thereN {m : Option MG} {r : Addr} (R : RowOk K m F H r) : ∃ o, H r = some o ∧ ∀ xs, o ≠ HO.tup xs := by
  obtain ⟨o, h, n, _⟩ := R.thereX
  exact ⟨_, h, n⟩
theorem RowOk.mono {m : Option MG} {r : Addr} (R : RowOk K m F H r) (eF : Same F F') (eH : ∀ o, H r = some o → H' r = some o) : RowOk K m F' H' r := by
  cases m with
  | none =>
    obtain ⟨sa, ns, b, c, d, h, s, q⟩ := R
    exact ⟨sa, ns, b, c, d, eH _ h, sqL_same eF s, q⟩
  | some G =>
    cases G with
    | t G =>
      obtain ⟨es, kvs, h, d, g⟩ := R
      exact ⟨es, kvs, eH _ h, d.same eF, g⟩
    | n G =>
      obtain ⟨L, kvs, sm, h, d, g⟩ := R
      exact ⟨L, kvs, sm, eH _ h, d.same eF, g⟩
    | x zs =>
      obtain ⟨L, sm, h, d, g⟩ := R
      exact ⟨L, sm, eH _ h, d.same eF, g⟩
    | o a u =>
      obtain ⟨e, h, g⟩ := R
      exact ⟨e, eH _ h, g⟩
theorem SlOk.mono {x : Option (Option V)} {s : Sl} (h : SlOk K B F H x s) (eF : Same F F') (fr : ∀ a, F a = none → (∃ o, H a = some o ∧ ∀ xs, o ≠ HO.tup xs) → F' a = none) (eH : ∀ a o, F a = none → H a = some o → H' a = some o) : SlOk K B F' H' x s := by
  cases h with
  | no => exact .no
  | v r => exact .v (r.same eF)
  | ol f h0 h1 r => exact .ol (fr _ f ⟨_, h1, fun _ z => by cases z⟩) h0 (eH _ _ f h1) (r.same eF)
  | row f h0 h1 => exact .row (fr _ f h1.thereN) h0 (h1.mono eF fun o => eH _ o f)
  | od f h0 h1 => exact .od (fr _ f h1.there) h0 (h1.mono eF fun o => eH _ o f)
theorem DAt.nob {t : Bool} {a : Addr} {kvs : List (D × D)} (h : DAt K F' H t a kvs) (tb : TbOk K F H) : ∀ p ∈ tbT K, p.1 ≠ a := by
  cases t with
  | false => obtain ⟨es, e, d⟩ := h; exact tb.ne e (not_te rfl)
  | true => obtain ⟨es, e, d⟩ := h; exact tb.ne e (not_te rfl)
theorem RowOk.nob {m : Option MG} {r : Addr} (h : RowOk K m F' H r) (tb : TbOk K F H) : ∀ p ∈ tbT K, p.1 ≠ r := by
  obtain ⟨_, h9, _, nt⟩ := h.thereX
  exact tb.ne h9 nt
theorem SlOk.monoT {x : Option (Option V)} {s : Sl} (h : SlOk K B F H x s) (eF : Same F F') (fr : ∀ a, F a = none → (∃ o, H a = some o ∧ ∀ xs, o ≠ HO.tup xs) → F' a = none) (eH : ∀ a o, F a = none → ¬ isTE o → H a = some o → H' a = some o) : SlOk K B F' H' x s := by
  cases h with
  | no => exact .no
  | v r => exact .v (r.same eF)
  | ol f h0 h1 r => exact .ol (fr _ f ⟨_, h1, fun _ z => by cases z⟩) h0 (eH _ _ f (not_te rfl) h1) (r.same eF)
  | row f h0 h1 =>
    obtain ⟨u, h, _, nt⟩ := h1.thereX
    exact .row (fr _ f h1.thereN) h0 (h1.mono eF fun o e => by
      rw [h] at e
      cases e
      exact eH _ _ f nt h)
  | @od t a kvs f h0 h1 =>
    refine .od (fr _ f h1.there) h0 ?_
    cases t with
    | false => obtain ⟨es, e, d⟩ := h1; exact ⟨es, eH _ _ f (not_te rfl) e, d.same eF⟩
    | true => obtain ⟨es, e, d⟩ := h1; exact ⟨es, eH _ _ f (not_te rfl) e, d.same eF⟩
theorem Rs.fresh (R : Rs K B F H σ ρ) {p : Addr} (h : H p = none) : B.Ha p = none ∧ F p = none ∧ B.r ≠ some p := by
  have hr : B.r ≠ some p := fun e => by
    obtain ⟨_, o, q⟩ := And.intro (R.hrow p e).1 (R.hrow p e).2.there
    rw [q] at h; cases h
  refine ⟨?_, R.sub.free h, hr⟩
  cases q : B.Ha p with
  | none => rfl
  | some u =>
    rw [R.old _ _ ⟨fun e => hr e.symm, R.tb.ne0 h⟩ q] at h; cases h
theorem Rs.fz (R : Rs K B F H σ ρ) {b : Addr} (h : Fz (H b)) : Fz (B.Ha b) := by
  cases q : B.Ha b with
  | none => exact .inl rfl
  | some o =>
    have ne : some b ≠ B.r := fun e => by
      obtain ⟨u, hu, nt⟩ := (R.hrow b e.symm).2.thereN
      rcases h with h | ⟨xs, h⟩
      · rw [hu] at h; cases h
      · rw [hu] at h; exact nt xs (Option.some.inj h)
    have nb : ∀ p ∈ tbT K, p.1 ≠ b := by
      rcases h with h | ⟨xs, h⟩
      · exact R.tb.ne0 h
      · exact R.tb.ne h (not_te rfl)
    have e := R.old b o ⟨ne, nb⟩ q
    rcases h with h | ⟨xs, h⟩
    · rw [e] at h; cases h
    · rw [e] at h; exact .inr ⟨xs, h⟩
/-- the heap grows by a frozen object -/
theorem Rs.grow {p : Addr} {o : HO} (R : Rs K B F H σ ρ) (h : H p = none) (no : ∀ ps, o ≠ .tbl ps := by intro _ z; cases z) : Rs K B (upd F p o) (upd H p o) σ ρ where
  sub := same_upd3 R.sub
  ext := fun b x e => by rw [upd_ne (ne_of_none (R.sub _ _ (R.ext _ _ e)) h)]; exact R.ext _ _ e
  new := fun b hb hF => by
    by_cases e : b = p
    · subst e; exact .inl (R.fresh h).1
    · rw [upd_ne e] at hF; exact R.new b hb hF
  old := fun b x hb e => by
    have := R.old b x hb e
    rw [upd_ne (ne_of_none this h)]; exact this
  hrow := fun r hr => by
    obtain ⟨h1, h2⟩ := R.hrow r hr
    obtain ⟨u, hu⟩ := h2.there
    have ne : r ≠ p := ne_of_none hu h
    exact ⟨by rw [upd_ne ne]; exact h1, h2.mono (same_upd (R.sub.free h)) fun o e => by rw [upd_ne ne]; exact e⟩
  hr2 := R.hr2
  tb := R.tb.up h no
  tbh := R.tbh
  len := R.len
  at_ := fun i s hs => (R.at_ i s hs).mono (same_upd (R.sub.free h)) (fun a f ⟨o, q, _⟩ => by rw [upd_ne (ne_of_none q h)]; exact f) (fun a o f q => by rw [upd_ne (ne_of_none q h)]; exact q)
  apart := R.apart
/-- the heap grows by an object that isn't frozen (yet) -/
theorem Rs.lay {p : Addr} {o : HO} (R : Rs K B F H σ ρ) (h : H p = none) : Rs K B F (upd H p o) σ ρ where
  sub := same_upd2 R.sub (R.sub.free h)
  ext := R.ext
  new := R.new
  old := fun b x hb e => by
    have := R.old b x hb e
    rw [upd_ne (ne_of_none this h)]; exact this
  hrow := fun r hr => by
    obtain ⟨h1, h2⟩ := R.hrow r hr
    obtain ⟨u, hu⟩ := h2.there
    have ne : r ≠ p := ne_of_none hu h
    exact ⟨h1, h2.mono (Same.refl _) fun o e => by rw [upd_ne ne]; exact e⟩
  hr2 := R.hr2
  tb := R.tb.lay h
  tbh := R.tbh
  len := R.len
  at_ := fun i s hs => (R.at_ i s hs).mono (Same.refl _) (fun a f _ => f) (fun a o f q => by rw [upd_ne (ne_of_none q h)]; exact q)
  apart := R.apart
/-- a slot takes a frozen value (or is forgotten) -/
theorem Rs.put {i : Nat} {x : V} {s : Sl} (R : Rs K B F H σ ρ) (hs : SlOk K B F H (some (some x)) s) (ho : s.owns = false) : Rs K B F H (σ.set i (some x)) (ρ.set i s) where
  sub := R.sub
  ext := R.ext
  new := R.new
  old := R.old
  hrow := R.hrow
  hr2 := R.hr2
  tb := R.tb
  tbh := R.tbh
  len := by rw [List.length_set, List.length_set]; exact R.len
  at_ := fun j t ht => by
    by_cases e : i = j
    · subst e
      by_cases hl : i < ρ.length
      · rw [List.getElem?_set_self hl] at ht
        cases ht
        rw [List.getElem?_set_self (by rw [R.len]; exact hl)]
        exact hs
      · rw [List.getElem?_eq_none (by simpa using hl)] at ht; cases ht
    · rw [List.getElem?_set_ne e] at ht ⊢
      exact R.at_ j t ht
  apart := fun j k a s' t hjk h1 h2 o1 o2 e1 e2 => by
    have n1 : i ≠ j := fun e => by
      subst e
      by_cases hl : i < ρ.length
      · rw [List.getElem?_set_self hl] at h1
        cases h1; rw [ho] at o1; cases o1
      · rw [List.getElem?_eq_none (by simpa using hl)] at h1; cases h1
    have n2 : i ≠ k := fun e => by
      subst e
      by_cases hl : i < ρ.length
      · rw [List.getElem?_set_self hl] at h2
        cases h2; rw [ho] at o2; cases o2
      · rw [List.getElem?_eq_none (by simpa using hl)] at h2; cases h2
    rw [List.getElem?_set_ne n1] at h1 e1
    rw [List.getElem?_set_ne n2] at h2 e2
    exact R.apart j k a s' t hjk h1 h2 o1 o2 e1 e2
end

abbrev PK := D → Prop
abbrev TW := Rho → PK → Prop
/-- a value that is read at once: frozen, or the list that a slot owns -/
def Pk (K : Fg) (F : Hp) (σ : St) (ρ : Rho) (v : V) (p : D) : Prop := Dp K F v p ∨ ∃ (i : Nat) (ps : List D), ρ[i]? = some (Sl.ol ps) ∧ σ[i]? = some (some v) ∧ p = .list ps
theorem Pk.dp {K : Fg} {B : Bs} {F F' H' : Hp} {σ : St} {ρ : Rho} {v : V} {p : D} (h : Pk K F σ ρ v p) (e : Same F F') (R : Rs K B F' H' σ ρ) : Dp K H' v p := by
  rcases h with h | ⟨i, ps, h1, h2, rfl⟩
  · exact (h.same e).same R.sub
  · have q := R.at_ i _ h1
    rw [h2] at q
    cases q with
    | ol f h0 h3 r => exact .lst (.inl (.inl h3)) (r.same R.sub)

def LenOk (K : Fg) (H : Hp) : Prop := ∀ a xs, (SqL K H a xs ∨ SqT K H a xs) → xs.length ≤ sizeLine

def tW (K : Fg) (T : TW) : TE := fun σ H Q => ∃ B F ρ, Rs K B F H σ ρ ∧ T ρ (fun p => ∀ F' H' v, Rs K B F' H' σ ρ → Same F F' → Dp K F' v p → Q v H')
def tX (K : Fg) (T : TW) : TE := fun σ H Q => ∃ B F ρ, Rs K B F H σ ρ ∧ T ρ (fun p => ∀ F' H' v, Rs K B F' H' σ ρ → Same F F' → Pk K F' σ ρ v p → Q v H')
/-- a new list -/
def tN (K : Fg) (T : Rho → (List D → Prop) → Prop) : TE := fun σ H Q => ∃ B F ρ, Rs K B F H σ ρ ∧ T ρ (fun ps => ∀ F' H' a xs, Rs K B F' H' σ ρ → Same F F' → H' a = none → DpAll K F' xs ps → Q (.ref a) (upd H' a (.lst xs)))

structure EW (X : Cx) (e : Expr) (T : TW) : Prop where
  mono : ∀ ρ K K', (∀ p, K p → K' p) → T ρ K → T ρ K'
  pe : PE X e (tW X.K T)
structure XW (X : Cx) (e : Expr) (T : TW) : Prop where
  mono : ∀ ρ K K', (∀ p, K p → K' p) → T ρ K → T ρ K'
  pe : PE X e (tX X.K T)
structure NW (X : Cx) (e : Expr) (T : Rho → (List D → Prop) → Prop) : Prop where
  mono : ∀ ρ K K', (∀ p, K p → K' p) → T ρ K → T ρ K'
  pe : PE X e (tN X.K T)
/-- by a function -/
abbrev fW {α : Type} (f : Rho → Option α) : Rho → (α → Prop) → Prop := fun ρ K => ∃ p, f ρ = some p ∧ K p
theorem fW_mono {α : Type} {f : Rho → Option α} : ∀ ρ K K', (∀ p, K p → K' p) → fW f ρ K → fW f ρ K' := fun _ _ _ h ⟨p, e, q⟩ => ⟨p, e, h p q⟩
abbrev EF (X : Cx) (e : Expr) (f : Rho → Option D) : Prop := EW X e (fW f)
abbrev XF (X : Cx) (e : Expr) (f : Rho → Option D) : Prop := XW X e (fW f)
abbrev NF (X : Cx) (e : Expr) (f : Rho → Option (List D)) : Prop := NW X e (fW f)

theorem _root_.L2.PE.imp {X : Cx} {e : Expr} {t t' : TE} (h : PE X e t) (k : ∀ σ H Q, t' σ H Q → t σ H Q) : PE X e t' := ⟨fun pins s σ H Q I hw => h.run pins s σ H Q I (k _ _ _ hw)⟩
theorem _root_.L2.PT.imp {X : Cx} {e : Expr} {t t' : TT} (h : PT X e t) (k : ∀ σ H Q, t' σ H Q → t σ H Q) : PT X e t' := ⟨fun pins s σ H Q I hw => h.run pins s σ H Q I (k _ _ _ hw)⟩
theorem _root_.L2.PS.imp {X : Cx} {e : Stmt} {t t' : TS} (h : PS X e t) (k : ∀ D σ H, t' D σ H → t D σ H) : PS X e t' := ⟨fun pins s σ H Q I hw => h.run pins s σ H Q I (k _ _ _ hw)⟩
theorem _root_.L2.PSs.imp {X : Cx} {e : List Stmt} {t t' : TS} (h : PSs X e t) (k : ∀ D σ H, t' D σ H → t D σ H) : PSs X e t' := ⟨fun pins s σ H Q I hw => h.run pins s σ H Q I (k _ _ _ hw)⟩
/-- what comes knows that no list is too long -/
theorem _root_.L2.PE.lens {X : Cx} {e : Expr} {t : TE} (h : PE X e t) : PE X e (fun σ H Q => t σ H fun v H' => LenOk X.K H' → Q v H') := ⟨fun pins s σ H Q I hw =>
  thn (h.run pins s σ H _ I hw) fun u s' ⟨v, H', I', r, q⟩ => ⟨v, H', I', r, q fun a xs hx => by
    rcases hx with hx | hx
    · obtain ⟨_, _, _, z⟩ := I'.list hx
      exact z
    · obtain ⟨_, _, _, z⟩ := I'.tuple hx
      exact z⟩⟩
theorem EW.imp {X : Cx} {e : Expr} {T T' : TW} (h : EW X e T) (m : ∀ ρ K K', (∀ p, K p → K' p) → T' ρ K → T' ρ K') (k : ∀ ρ K, T' ρ K → T ρ K) : EW X e T' := ⟨m, h.pe.imp fun _ _ _ ⟨B, F, ρ, R, q⟩ => ⟨B, F, ρ, R, k _ _ q⟩⟩
theorem XW.imp {X : Cx} {e : Expr} {T T' : TW} (h : XW X e T) (m : ∀ ρ K K', (∀ p, K p → K' p) → T' ρ K → T' ρ K') (k : ∀ ρ K, T' ρ K → T ρ K) : XW X e T' := ⟨m, h.pe.imp fun _ _ _ ⟨B, F, ρ, R, q⟩ => ⟨B, F, ρ, R, k _ _ q⟩⟩
theorem NW.imp {X : Cx} {e : Expr} {T T' : Rho → (List D → Prop) → Prop} (h : NW X e T) (m : ∀ ρ K K', (∀ p, K p → K' p) → T' ρ K → T' ρ K') (k : ∀ ρ K, T' ρ K → T ρ K) : NW X e T' := ⟨m, h.pe.imp fun _ _ _ ⟨B, F, ρ, R, q⟩ => ⟨B, F, ρ, R, k _ _ q⟩⟩
theorem EW.x {X : Cx} {e : Expr} {T : TW} (h : EW X e T) : XW X e T := ⟨h.mono, h.pe.imp fun _ _ _ ⟨B, F, ρ, R, q⟩ => ⟨B, F, ρ, R, h.mono _ _ _ (fun p k F' H' v R' e r => k F' H' v R' e (.inl r)) q⟩⟩
/-- a new list is frozen -/
theorem NW.e {X : Cx} {e : Expr} {T : Rho → (List D → Prop) → Prop} (h : NW X e T) : EW X e (fun ρ K => T ρ fun ps => K (.list ps)) :=
  ⟨fun ρ K K' i q => h.mono _ _ _ (fun ps => i _) q, h.pe.imp fun _ _ _ ⟨B, F, ρ, R, q⟩ => ⟨B, F, ρ, R, h.mono _ _ _ (fun ps k F' H' a xs R' e n r => by
    have n' : F' a = none := R'.sub.free n
    exact k (upd F' a (.lst xs)) _ _ (R'.grow n) (e.trans (same_upd n')) (.lst (.inl (.inl upd_same)) (r.same (same_upd n')))) q⟩⟩
theorem NF.e {X : Cx} {e : Expr} {f : Rho → Option (List D)} (h : NF X e f) : EF X e (fun ρ => (f ρ).map PyData.list) := (NW.e h).imp fW_mono fun ρ K ⟨p, e, q⟩ => by
  obtain ⟨ps, e', rfl⟩ := Option.map_eq_some_iff.mp e
  exact ⟨ps, e', q⟩

def gV (i : Nat) : Rho → Option D := fun ρ => match ρ[i]? with
  | some (.v p) => some p
  | _ => none
def gX (i : Nat) : Rho → Option D := fun ρ => match ρ[i]? with
  | some (.v p) => some p
  | some (.ol ps) => some (.list ps)
  | _ => none
section
variable {X : Cx}
theorem ef_var {i : Nat} {x : Str} {pos : Pos} (hN : X.N[i]? = some x) (hv : Vis X.env.scope x) (hd : (x == ("__debug__" : Str)) = false := by decide) (hcd : (x == ("__classdict__" : Str)) = false := by decide) : EF X (.Name x pos) (gV i) :=
  ⟨fW_mono, (pe_var hN hv hd hcd).imp fun σ H Q ⟨B, F, ρ, R, p, e, q⟩ => by
    unfold gV at e
    split at e
    · rename_i s hs
      cases e
      have z := R.at_ i _ hs
      generalize hσ : σ[i]? = o at z
      cases z with
      | v r => exact ⟨_, hσ, q F H _ R (Same.refl _) r⟩
    · cases e⟩
theorem xf_var {i : Nat} {x : Str} {pos : Pos} (hN : X.N[i]? = some x) (hv : Vis X.env.scope x) (hd : (x == ("__debug__" : Str)) = false := by decide) (hcd : (x == ("__classdict__" : Str)) = false := by decide) : XF X (.Name x pos) (gX i) :=
  ⟨fW_mono, (pe_var hN hv hd hcd).imp fun σ H Q ⟨B, F, ρ, R, p, e, q⟩ => by
    unfold gX at e
    split at e
    · rename_i s hs
      cases e
      have z := R.at_ i _ hs
      generalize hσ : σ[i]? = o at z
      cases z with
      | v r => exact ⟨_, hσ, q F H _ R (Same.refl _) (.inl r)⟩
    · rename_i s hs
      cases e
      have z := R.at_ i _ hs
      generalize hσ : σ[i]? = o at z
      cases z with
      | ol f h0 h1 r => exact ⟨_, hσ, q F H _ R (Same.refl _) (.inr ⟨i, _, hs, hσ, rfl⟩)⟩
    · cases e⟩
def gC (p : D) : Rho → Option D := fun _ => some p
theorem ef_con {e : Expr} {v : V} {p : D} (h : PE X e (tC v)) (r : ∀ K F, Dp K F v p) : EF X e (gC p) :=
  ⟨fW_mono, h.imp fun σ H Q ⟨B, F, ρ, R, p', e, q⟩ => by
    cases e
    exact q F H v R (Same.refl _) (r _ _)⟩
theorem ef_int {i j pos} : EF X (.Constant (.int i) j pos) (gC (.int i)) := ef_con pe_int fun _ _ => .int i
theorem ef_bl {b j pos} : EF X (.Constant (.bool b) j pos) (gC (.bool b)) := ef_con pe_bl fun _ _ => .bl b
theorem ef_non {j pos} : EF X (.Constant .none j pos) (gC .none) := ef_con pe_non fun _ _ => .non
end
end L2.P


set_option Elab.async false
set_option linter.all false
set_option maxRecDepth 100000
set_option maxHeartbeats 4000000
namespace L2.P
open PySem PySem.Spec PyProof.Rows L2

theorem Pk.mono {K : Fg} {F F' : Hp} {σ : St} {ρ : Rho} {v : V} {p : D} (h : Pk K F σ ρ v p) (e : Same F F') : Pk K F' σ ρ v p := by
  rcases h with h | h
  · exact .inl (h.same e)
  · exact .inr h

/-- the room that every frame has -/
def Rm (X : Cx) : Prop := X.A.units + 130 < cLine
theorem rm_of {X : Cx} {k : Nat} (r : Room k X.A) : Rm X := by have := r.un; unfold Rm; omega

abbrev G2 := D → D → Option D
/-- an operation on values does what g says of data -/
def OpG (X : Cx) (f : Value → Value → Sem Value) (g : G2) : Prop :=
  ∃ r : R2, OpR X f r ∧ ∀ (B : Bs) (F H : Hp) (σ : St) (ρ : Rho) (x y : V) (p q z : D) (Q : VK), Rs X.K B F H σ ρ → Pk X.K F σ ρ x p → Pk X.K F σ ρ y q → g p q = some z →
    (∀ F' H' v, Rs X.K B F' H' σ ρ → Same F F' → Dp X.K F' v z → Q v H') → r x y H Q
theorem OpG.of {X : Cx} {f : Value → Value → Sem Value} {g : G2} (h : ∃ r : R2, OpR X f r ∧ ∀ (B : Bs) (F H : Hp) (σ : St) (ρ : Rho) (x y : V) (p q z : D) (Q : VK), Rs X.K B F H σ ρ → Dp X.K H x p → Dp X.K H y q → g p q = some z →
    (∀ F' H' v, Rs X.K B F' H' σ ρ → Same F F' → Dp X.K F' v z → Q v H') → r x y H Q) : OpG X f g := by
  obtain ⟨r, h1, h2⟩ := h
  exact ⟨r, h1, fun B F H σ ρ x y p q z Q R hx hy e k => h2 B F H σ ρ x y p q z Q R (hx.dp (Same.refl _) R) (hy.dp (Same.refl _) R) e k⟩
def b2 (g : G2) (f1 f2 : Rho → Option D) : Rho → Option D := fun ρ => (f1 ρ).bind fun x => (f2 ρ).bind fun y => g x y
def w2 (g : G2) (T1 T2 : TW) : TW := fun ρ K => T1 ρ fun x => T2 ρ fun y => ∃ z, g x y = some z ∧ K z
theorem w2_mono {g : G2} {T1 T2 : TW} (m1 : ∀ ρ K K', (∀ p, K p → K' p) → T1 ρ K → T1 ρ K') (m2 : ∀ ρ K K', (∀ p, K p → K' p) → T2 ρ K → T2 ρ K') :
    ∀ ρ K K', (∀ p, K p → K' p) → w2 g T1 T2 ρ K → w2 g T1 T2 ρ K' := fun ρ K K' h q => m1 _ _ _ (fun x => m2 _ _ _ fun y ⟨z, e, k⟩ => ⟨z, e, h z k⟩) q
theorem b2_w {g : G2} {f1 f2 : Rho → Option D} (ρ : Rho) (K : PK) (h : fW (b2 g f1 f2) ρ K) : w2 g (fW f1) (fW f2) ρ K := by
  obtain ⟨z, e, k⟩ := h
  unfold b2 at e
  obtain ⟨x, e1, e⟩ := Option.bind_eq_some_iff.mp e
  obtain ⟨y, e2, e⟩ := Option.bind_eq_some_iff.mp e
  exact ⟨x, e1, y, e2, z, e, k⟩
section
variable {X : Cx} {a b c : Expr} {pos : Pos}
/-- the reading that both operands' readings make -/
theorem two_ok {f : Value → Value → Sem Value} {g : G2} {T1 T2 : TW} {r : R2}
    (hr : ∀ (B : Bs) (F H : Hp) (σ : St) (ρ : Rho) (x y : V) (p q z : D) (Q : VK), Rs X.K B F H σ ρ → Pk X.K F σ ρ x p → Pk X.K F σ ρ y q → g p q = some z → (∀ F' H' v, Rs X.K B F' H' σ ρ → Same F F' → Dp X.K F' v z → Q v H') → r x y H Q)
    (m1 : ∀ ρ K K', (∀ p, K p → K' p) → T1 ρ K → T1 ρ K') (m2 : ∀ ρ K K', (∀ p, K p → K' p) → T2 ρ K → T2 ρ K') {σ : St} {H : Hp} {Q : VK} (h : tW X.K (w2 g T1 T2) σ H Q) :
    tOp r (tX X.K T1) (tX X.K T2) σ H Q := by
  obtain ⟨B, F, ρ, R, q⟩ := h
  refine ⟨B, F, ρ, R, m1 _ _ _ (fun x qx F1 H1 v1 R1 e1 d1 => ?_) q⟩
  refine ⟨B, F1, ρ, R1, m2 _ _ _ (fun y ⟨z, ez, qz⟩ F2 H2 v2 R2 e2 d2 => ?_) qx⟩
  exact hr B F2 H2 σ ρ v1 v2 x y z Q R2 (d1.mono e2) d2 ez fun F3 H3 v R3 e3 d3 => qz F3 H3 v R3 ((e1.trans e2).trans e3) d3
theorem ew_bin {op : Operator} {g : G2} {T1 T2 : TW} (o : OpG X (binaryOp op) g) (ha : XW X a T1) (hb : XW X b T2) : EW X (.BinOp a op b pos) (w2 g T1 T2) := by
  obtain ⟨r, ho, hr⟩ := o
  exact ⟨w2_mono ha.mono hb.mono, (pe_op ho ha.pe hb.pe).imp fun σ H Q h => two_ok (f := binaryOp op) hr ha.mono hb.mono h⟩
theorem ef_bin {op : Operator} {g : G2} {f1 f2 : Rho → Option D} (o : OpG X (binaryOp op) g) (ha : XF X a f1) (hb : XF X b f2) : EF X (.BinOp a op b pos) (b2 g f1 f2) :=
  (ew_bin o ha hb).imp fW_mono b2_w
theorem ew_cmp {op : CmpOp} {g : G2} {T1 T2 : TW} (o : OpG X (compareOp op) g) (ha : XW X a T1) (hb : XW X b T2) (hm : behindInMarks op b = false) : EW X (.Compare a [op] [b] pos) (w2 g T1 T2) := by
  obtain ⟨r, ho, hr⟩ := o
  exact ⟨w2_mono ha.mono hb.mono, (pe_cmpR ho ha.pe hb.pe hm).imp fun σ H Q h => two_ok (f := compareOp op) hr ha.mono hb.mono h⟩
theorem ef_cmp {op : CmpOp} {g : G2} {f1 f2 : Rho → Option D} (o : OpG X (compareOp op) g) (ha : XF X a f1) (hb : XF X b f2) (hm : behindInMarks op b = false) : EF X (.Compare a [op] [b] pos) (b2 g f1 f2) :=
  (ew_cmp o ha hb hm).imp fW_mono b2_w
end

abbrev TB := Rho → (Bool → Prop) → Prop
def tT (K : Fg) (T : TB) : TT := fun σ H Q => ∃ B F ρ, Rs K B F H σ ρ ∧ T ρ (fun b => ∀ F' H', Rs K B F' H' σ ρ → Same F F' → Q b H')
structure TWT (X : Cx) (e : Expr) (T : TB) : Prop where
  mono : ∀ ρ K K', (∀ p, K p → K' p) → T ρ K → T ρ K'
  pt : PT X e (tT X.K T)
abbrev TF (X : Cx) (e : Expr) (f : Rho → Option Bool) : Prop := TWT X e (fW f)
theorem TWT.imp {X : Cx} {e : Expr} {T T' : TB} (h : TWT X e T) (m : ∀ ρ K K', (∀ p, K p → K' p) → T' ρ K → T' ρ K') (k : ∀ ρ K, T' ρ K → T ρ K) : TWT X e T' := ⟨m, h.pt.imp fun _ _ _ ⟨B, F, ρ, R, q⟩ => ⟨B, F, ρ, R, k _ _ q⟩⟩
def isB : D → Option Bool
  | .bool b => some b
  | _ => none
def bB (f : Rho → Option D) : Rho → Option Bool := fun ρ => (f ρ).bind isB
def wB (T : TW) : TB := fun ρ K => T ρ fun p => ∃ b, isB p = some b ∧ K b
theorem isB_some {p : D} {b : Bool} (h : isB p = some b) : p = .bool b := by
  cases p with
  | bool c => cases h; rfl
  | _ => cases h
section
variable {X : Cx} {a b c : Expr} {pos : Pos}
theorem wB_mono {T : TW} (m : ∀ ρ K K', (∀ p, K p → K' p) → T ρ K → T ρ K') : ∀ ρ K K', (∀ p, K p → K' p) → wB T ρ K → wB T ρ K' := fun ρ K K' h q => m _ _ _ (fun p ⟨b, e, k⟩ => ⟨b, e, h b k⟩) q
theorem bB_w {f : Rho → Option D} (ρ : Rho) (K : Bool → Prop) (h : fW (bB f) ρ K) : wB (fW f) ρ K := by
  obtain ⟨z, e, k⟩ := h
  obtain ⟨x, e1, e⟩ := Option.bind_eq_some_iff.mp e
  exact ⟨x, e1, z, e, k⟩
/-- an expression whose value is a truth value, as a test -/
theorem tw_val {T : TW} (h : EW X a T) (he : ∀ whole, isTrue a X.env whole = (do let v ← whole; standAt a.pos; holding [v] (truthy v)) := by intro _; rfl) : TWT X a (wB T) :=
  ⟨wB_mono h.mono, (pt_val h.pe he).imp fun σ H Q ⟨B, F, ρ, R, q⟩ => ⟨B, F, ρ, R, h.mono _ _ _ (fun p ⟨b, e, k⟩ F' H' v R' e' d => by
    rw [isB_some e] at d
    exact ⟨b, Dp.inv_bl d, k F' H' R' e'⟩) q⟩⟩
theorem tf_val {f : Rho → Option D} (h : EF X a f) (he : ∀ whole, isTrue a X.env whole = (do let v ← whole; standAt a.pos; holding [v] (truthy v)) := by intro _; rfl) : TF X a (bB f) := (tw_val h he).imp fW_mono bB_w
theorem tw_cmp {op : CmpOp} {g : G2} {T1 T2 : TW} (o : OpG X (compareOp op) g) (ha : XW X a T1) (hb : XW X b T2) (hm : behindInMarks op b = false) : TWT X (.Compare a [op] [b] pos) (wB (w2 g T1 T2)) := by
  obtain ⟨r, ho, hr⟩ := o
  exact ⟨wB_mono (w2_mono ha.mono hb.mono), (pt_cmpR ho ha.pe hb.pe hm).imp fun σ H Q ⟨B, F, ρ, R, q⟩ => by
    refine two_ok (f := compareOp op) (g := g) (T1 := T1) (T2 := T2) hr ha.mono hb.mono ⟨B, F, ρ, R, w2_mono ha.mono hb.mono _ _ _ (fun p ⟨b, e, k⟩ F' H' v R' e' d => ?_) q⟩
    rw [isB_some e] at d
    exact ⟨b, Dp.inv_bl d, k F' H' R' e'⟩⟩
theorem tf_cmp {op : CmpOp} {g : G2} {f1 f2 : Rho → Option D} (o : OpG X (compareOp op) g) (ha : XF X a f1) (hb : XF X b f2) (hm : behindInMarks op b = false) : TF X (.Compare a [op] [b] pos) (bB (b2 g f1 f2)) :=
  (tw_cmp o ha hb hm).imp fW_mono fun ρ K h => wB_mono (fun _ _ _ i z => by obtain ⟨p, e, q⟩ := z; exact ⟨p, e, i p q⟩) _ _ _ (fun _ z => z) (bB_w ρ K h) |> fun ⟨p, e, q⟩ => b2_w ρ _ ⟨p, e, q⟩
def bNot (f : Rho → Option Bool) : Rho → Option Bool := fun ρ => (f ρ).map (!·)
def wNot (T : TB) : TB := fun ρ K => T ρ fun b => K (!b)
theorem tw_not {T : TB} (h : TWT X a T) : TWT X (.UnaryOp .Not a pos) (wNot T) :=
  ⟨fun ρ K K' i q => h.mono _ _ _ (fun b => i _) q, (pt_not h.pt).imp fun σ H Q ⟨B, F, ρ, R, q⟩ => ⟨B, F, ρ, R, q⟩⟩
theorem tf_not {f : Rho → Option Bool} (h : TF X a f) : TF X (.UnaryOp .Not a pos) (bNot f) := (tw_not h).imp fW_mono fun ρ K ⟨b, e, k⟩ => by
  obtain ⟨c, e', rfl⟩ := Option.map_eq_some_iff.mp e
  exact ⟨c, e', k⟩
def bAnd (f g : Rho → Option Bool) : Rho → Option Bool := fun ρ => (f ρ).bind fun b => if b = true then g ρ else some false
def bOr (f g : Rho → Option Bool) : Rho → Option Bool := fun ρ => (f ρ).bind fun b => if b = true then some true else g ρ
def wAnd (T U : TB) : TB := fun ρ K => T ρ fun b => if b = true then U ρ K else K false
def wOr (T U : TB) : TB := fun ρ K => T ρ fun b => if b = true then K true else U ρ K
structure TWW (X : Cx) (e : Expr) (T : TB) : Prop where
  mono : ∀ ρ K K', (∀ p, K p → K' p) → T ρ K → T ρ K'
  pw : PW X e (tT X.K T)
theorem TWW.t {e : Expr} {T : TB} (h : TWW X e T) : TWT X e T := ⟨h.mono, h.pw.pt⟩
theorem PW.imp {e : Expr} {t t' : TT} (h : PW X e t) (k : ∀ σ H Q, t' σ H Q → t σ H Q) : PW X e t' := ⟨fun w pins s σ H Q I hw => h.run w pins s σ H Q I (k _ _ _ hw)⟩
theorem tw_and1 {T : TB} (h : TWT X a T) : TWW X (.BoolOp .And [a] pos) T := ⟨h.mono, pw_and1 h.pt⟩
theorem tw_or1 {T : TB} (h : TWT X a T) : TWW X (.BoolOp .Or [a] pos) T := ⟨h.mono, pw_or1 h.pt⟩
theorem tw_and {T U : TB} {rest : List Expr} (h : TWT X a T) (h2 : TWW X (.BoolOp .And (b :: rest) pos) U) : TWW X (.BoolOp .And (a :: b :: rest) pos) (wAnd T U) :=
  ⟨fun ρ K K' i q => h.mono _ _ _ (fun b k => by
      cases b with
      | true => exact h2.mono _ _ _ i k
      | false => exact i _ k) q, PW.imp (pw_and h.pt h2.pw) fun σ H Q ⟨B, F, ρ, R, q⟩ => ⟨B, F, ρ, R, h.mono _ _ _ (fun b k F' H' R' e' => by
      cases b with
      | true => exact ⟨B, F', ρ, R', h2.mono _ _ _ (fun c kc F2 H2 R2 e2 => kc F2 H2 R2 (e'.trans e2)) k⟩
      | false => exact k F' H' R' e') q⟩⟩
theorem tw_or {T U : TB} {rest : List Expr} (h : TWT X a T) (h2 : TWW X (.BoolOp .Or (b :: rest) pos) U) : TWW X (.BoolOp .Or (a :: b :: rest) pos) (wOr T U) :=
  ⟨fun ρ K K' i q => h.mono _ _ _ (fun b k => by
      cases b with
      | false => exact h2.mono _ _ _ i k
      | true => exact i _ k) q, PW.imp (pw_or h.pt h2.pw) fun σ H Q ⟨B, F, ρ, R, q⟩ => ⟨B, F, ρ, R, h.mono _ _ _ (fun b k F' H' R' e' => by
      cases b with
      | false => exact ⟨B, F', ρ, R', h2.mono _ _ _ (fun c kc F2 H2 R2 e2 => kc F2 H2 R2 (e'.trans e2)) k⟩
      | true => exact k F' H' R' e') q⟩⟩
abbrev TFW (X : Cx) (e : Expr) (f : Rho → Option Bool) : Prop := TWW X e (fW f)
theorem TWW.imp {e : Expr} {T T' : TB} (h : TWW X e T) (m : ∀ ρ K K', (∀ p, K p → K' p) → T' ρ K → T' ρ K') (k : ∀ ρ K, T' ρ K → T ρ K) : TWW X e T' := ⟨m, PW.imp h.pw fun _ _ _ ⟨B, F, ρ, R, q⟩ => ⟨B, F, ρ, R, k _ _ q⟩⟩
theorem tf_and1 {f : Rho → Option Bool} (h : TF X a f) : TFW X (.BoolOp .And [a] pos) f := tw_and1 h
theorem tf_or1 {f : Rho → Option Bool} (h : TF X a f) : TFW X (.BoolOp .Or [a] pos) f := tw_or1 h
theorem tf_and {f g : Rho → Option Bool} {rest : List Expr} (h : TF X a f) (h2 : TFW X (.BoolOp .And (b :: rest) pos) g) : TFW X (.BoolOp .And (a :: b :: rest) pos) (bAnd f g) := (tw_and h h2).imp fW_mono fun ρ K ⟨c, e, k⟩ => by
  obtain ⟨d, e1, e2⟩ := Option.bind_eq_some_iff.mp e
  refine ⟨d, e1, ?_⟩
  cases d with
  | true => exact ⟨c, e2, k⟩
  | false => cases e2; exact k
theorem tf_or {f g : Rho → Option Bool} {rest : List Expr} (h : TF X a f) (h2 : TFW X (.BoolOp .Or (b :: rest) pos) g) : TFW X (.BoolOp .Or (a :: b :: rest) pos) (bOr f g) := (tw_or h h2).imp fW_mono fun ρ K ⟨c, e, k⟩ => by
  obtain ⟨d, e1, e2⟩ := Option.bind_eq_some_iff.mp e
  refine ⟨d, e1, ?_⟩
  cases d with
  | false => exact ⟨c, e2, k⟩
  | true => cases e2; exact k
def vAnd (f g : Rho → Option D) : Rho → Option D := fun ρ => (f ρ).bind fun x => (isB x).bind fun b => if b = true then g ρ else some (.bool false)
def vNot (f : Rho → Option D) : Rho → Option D := fun ρ => (f ρ).bind fun x => (isB x).map fun b => .bool (!b)
theorem ef_one {op} {f : Rho → Option D} (h : EF X a f) : EF X (.BoolOp op [a] pos) f := ⟨fW_mono, pe_one h.pe⟩
theorem ef_and {f g : Rho → Option D} {rest : List Expr} (h : EF X a f) (h2 : EF X (.BoolOp .And (b :: rest) pos) g) : EF X (.BoolOp .And (a :: b :: rest) pos) (vAnd f g) :=
  ⟨fW_mono, (pe_and h.pe h2.pe).imp fun σ H Q ⟨B, F, ρ, R, p, e, q⟩ => by
    obtain ⟨x, e1, e⟩ := Option.bind_eq_some_iff.mp e
    obtain ⟨c, e2, e⟩ := Option.bind_eq_some_iff.mp e
    refine ⟨B, F, ρ, R, x, e1, fun F' H' v R' e' d => ?_⟩
    rw [isB_some e2] at d
    refine ⟨c, Dp.inv_bl d, ?_⟩
    cases c with
    | true => exact ⟨B, F', ρ, R', p, e, fun F2 H2 v2 R2 s2 d2 => q F2 H2 v2 R2 (e'.trans s2) d2⟩
    | false => cases e; exact q F' H' _ R' e' (.bl false)⟩
theorem ef_not {f : Rho → Option D} (h : EF X a f) : EF X (.UnaryOp .Not a pos) (vNot f) :=
  ⟨fW_mono, (pe_not h.pe).imp fun σ H Q ⟨B, F, ρ, R, p, e, q⟩ => by
    obtain ⟨x, e1, e⟩ := Option.bind_eq_some_iff.mp e
    obtain ⟨c, e2, rfl⟩ := Option.map_eq_some_iff.mp e
    refine ⟨B, F, ρ, R, x, e1, fun F' H' v R' e' d => ?_⟩
    rw [isB_some e2] at d
    exact ⟨c, Dp.inv_bl d, q F' H' _ R' e' (.bl (!c))⟩⟩
def vIf (t : Rho → Option Bool) (f g : Rho → Option D) : Rho → Option D := fun ρ => (t ρ).bind fun b => if b = true then f ρ else g ρ
def wIf (t : TB) (f g : TW) : TW := fun ρ K => t ρ fun b => if b = true then f ρ K else g ρ K
theorem ew_if {t : TB} {f g : TW} (h : TWT X c t) (h1 : EW X a f) (h2 : EW X b g) : EW X (.IfExp c a b pos) (wIf t f g) :=
  ⟨fun ρ K K' i q => h.mono _ _ _ (fun b k => by
    cases b with
    | true => exact h1.mono _ _ _ i k
    | false => exact h2.mono _ _ _ i k) q, (pe_ifExp h.pt h1.pe h2.pe).imp fun σ H Q ⟨B, F, ρ, R, q⟩ => ⟨B, F, ρ, R, h.mono _ _ _ (fun b k F' H' R' e' => by
      cases b with
      | true => exact ⟨B, F', ρ, R', h1.mono _ _ _ (fun p kp F2 H2 v2 R2 s2 d2 => kp F2 H2 v2 R2 (e'.trans s2) d2) k⟩
      | false => exact ⟨B, F', ρ, R', h2.mono _ _ _ (fun p kp F2 H2 v2 R2 s2 d2 => kp F2 H2 v2 R2 (e'.trans s2) d2) k⟩) q⟩⟩
theorem ef_if {t : Rho → Option Bool} {f g : Rho → Option D} (h : TF X c t) (h1 : EF X a f) (h2 : EF X b g) : EF X (.IfExp c a b pos) (vIf t f g) := (ew_if h h1 h2).imp fW_mono fun ρ K ⟨p, e, k⟩ => by
  obtain ⟨d, e1, e2⟩ := Option.bind_eq_some_iff.mp e
  refine ⟨d, e1, ?_⟩
  cases d with
  | true => exact ⟨p, e2, k⟩
  | false => exact ⟨p, e2, k⟩
def b3 (g g' : G2) (f1 f2 f3 : Rho → Option D) : Rho → Option D := fun ρ => (f1 ρ).bind fun x => (f2 ρ).bind fun y => (g x y).bind fun r => (isB r).bind fun k => if k = true then (f3 ρ).bind fun z => g' y z else some (.bool false)
theorem ef_chain {op op' : CmpOp} {g g' : G2} {f1 f2 f3 : Rho → Option D} (o : OpG X (compareOp op) g) (o' : OpG X (compareOp op') g') (ha : XF X a f1) (hb : XF X b f2) (hc : XF X c f3)
    (hm : lastMarks [op, op'] [b, c] = false := by with_unfolding_all rfl) : EF X (.Compare a [op, op'] [b, c] pos) (b3 g g' f1 f2 f3) := by
  obtain ⟨r, ho, hr⟩ := o
  obtain ⟨r', ho', hr'⟩ := o'
  refine ⟨fW_mono, (pe_chain ho ho' ha.pe hb.pe hc.pe hm).imp fun σ H Q ⟨B, F, ρ, R, p, e, q⟩ => ?_⟩
  obtain ⟨x, e1, e⟩ := Option.bind_eq_some_iff.mp e
  obtain ⟨y, e2, e⟩ := Option.bind_eq_some_iff.mp e
  obtain ⟨z, e3, e⟩ := Option.bind_eq_some_iff.mp e
  obtain ⟨k, e4, e⟩ := Option.bind_eq_some_iff.mp e
  refine ⟨B, F, ρ, R, x, e1, fun F1 H1 v1 R1 s1 d1 => ⟨B, F1, ρ, R1, y, e2, fun F2 H2 v2 R2 s2 d2 => ?_⟩⟩
  refine hr B F2 H2 σ ρ v1 v2 x y z _ R2 (d1.mono s2) d2 e3 fun F3 H3 v3 R3 s3 d3 => ?_
  rw [isB_some e4] at d3
  refine ⟨k, Dp.inv_bl d3, ?_⟩
  cases k with
  | false => cases e; exact q F3 H3 _ R3 ((s1.trans s2).trans s3) (.bl false)
  | true =>
    obtain ⟨w, e5, e6⟩ := Option.bind_eq_some_iff.mp (show ((f3 ρ).bind fun z => g' y z) = some p from e)
    exact ⟨B, F3, ρ, R3, w, e5, fun F4 H4 v4 R4 s4 d4 => hr' B F4 H4 σ ρ v2 v4 y w p _ R4 (d2.mono (s3.trans s4)) d4 e6 fun F5 H5 v5 R5 s5 d5 => q F5 H5 v5 R5 ((((s1.trans s2).trans s3).trans s4).trans s5) d5⟩
end

section
variable {X : Cx}
theorem og_int0 {f : Value → Value → Sem Value} {g : Int → Int → V} {gd : G2} (ho : OpR X f (rI0 g)) (h : ∀ p q z, gd p q = some z → ∃ i j, p = .int i ∧ q = .int j ∧ ∀ K F, Dp K F (g i j) z) : OpG X f gd :=
  OpG.of ⟨_, ho, fun B F H σ ρ x y p q z Q R hx hy e k => by
    obtain ⟨i, j, rfl, rfl, d⟩ := h p q z e
    exact ⟨i, j, Dp.inv_int hx, Dp.inv_int hy, k F H _ R (Same.refl _) (d _ _)⟩⟩
def iB (f : Int → Int → Bool) : G2
  | .int i, .int j => some (.bool (f i j))
  | _, _ => none
def iI (f : Int → Int → Int) : G2
  | .int i, .int j => some (.int (f i j))
  | _, _ => none
theorem iB_some {f : Int → Int → Bool} {p q z : D} (h : iB f p q = some z) : ∃ i j, p = .int i ∧ q = .int j ∧ z = .bool (f i j) := by
  unfold iB at h
  split at h
  · cases h; exact ⟨_, _, rfl, rfl, rfl⟩
  · cases h
theorem iI_some {f : Int → Int → Int} {p q z : D} (h : iI f p q = some z) : ∃ i j, p = .int i ∧ q = .int j ∧ z = .int (f i j) := by
  unfold iI at h
  split at h
  · cases h; exact ⟨_, _, rfl, rfl, rfl⟩
  · cases h
def dLe : G2 := iB fun i j => decide (i ≤ j)
def dGt : G2 := iB fun i j => decide (j < i)
def dGe : G2 := iB fun i j => decide (j ≤ i)
theorem og_le : OpG X (compareOp .LtE) dLe := og_int0 op_le fun p q z h => by obtain ⟨i, j, rfl, rfl, rfl⟩ := iB_some h; exact ⟨i, j, rfl, rfl, fun _ _ => .bl _⟩
theorem og_gt : OpG X (compareOp .Gt) dGt := og_int0 op_gt fun p q z h => by obtain ⟨i, j, rfl, rfl, rfl⟩ := iB_some h; exact ⟨i, j, rfl, rfl, fun _ _ => .bl _⟩
theorem og_ge : OpG X (compareOp .GtE) dGe := og_int0 op_ge fun p q z h => by obtain ⟨i, j, rfl, rfl, rfl⟩ := iB_some h; exact ⟨i, j, rfl, rfl, fun _ _ => .bl _⟩
def dSub : G2 := iI fun i j => i - j
theorem og_sub : OpG X (binaryOp .Sub) dSub := og_int0 op_sub fun p q z h => by obtain ⟨i, j, rfl, rfl, rfl⟩ := iI_some h; exact ⟨i, j, rfl, rfl, fun _ _ => .int _⟩
/-- data that may be compared -/
def okD (p : D) : Bool := p.plain && decide (p.depth ≤ 64)
def okDs (ps : List D) : Bool := PyData.plainAll ps && decide (PyData.depthAll ps ≤ 64)
def dEq : G2 := fun p q => if okD p = true ∧ okD q = true then some (.bool (PyData.eqv p q)) else none
def dNe : G2 := fun p q => if okD p = true ∧ okD q = true then some (.bool (!PyData.eqv p q)) else none
def rEqP (K : Fg) (n : Bool) : R2 := fun x y H Q => ∃ d e, Dp K H x d ∧ Dp K H y e ∧ okD d = true ∧ okD e = true ∧ Q (.bl (if n = true then !PyData.eqv d e else PyData.eqv d e)) H
theorem okD_iff {p : D} : okD p = true ↔ p.plain = true ∧ p.depth ≤ 64 := by unfold okD; simp
theorem okDs_iff {p : List D} : okDs p = true ↔ PyData.plainAll p = true ∧ PyData.depthAll p ≤ 64 := by unfold okDs; simp
theorem or_eqP (hu : Rm X) : OpR X (compareOp .Eq) (rEqP X.K false) := by
  intro pins s σ H x y v u Q I rx ry h
  obtain ⟨d, e, hd, he, sd, se, q⟩ := h
  obtain ⟨p1, z1⟩ := okD_iff.mp sd
  obtain ⟨p2, z2⟩ := okD_iff.mp se
  obtain ⟨as, r1⟩ := Dp.reads I d x v hd p1 rx
  obtain ⟨bs, r2⟩ := Dp.reads I e y u he p2 ry
  exact SeqAt.eq_plain r1 r2 p1 p2 (by unfold Rm at hu; omega) ⟨.bl _, H, I, rfl, q⟩
theorem or_neP (hu : Rm X) : OpR X (compareOp .NotEq) (rEqP X.K true) := by
  intro pins s σ H x y v u Q I rx ry h
  obtain ⟨d, e, hd, he, sd, se, q⟩ := h
  obtain ⟨p1, z1⟩ := okD_iff.mp sd
  obtain ⟨p2, z2⟩ := okD_iff.mp se
  obtain ⟨as, r1⟩ := Dp.reads I d x v hd p1 rx
  obtain ⟨bs, r2⟩ := Dp.reads I e y u he p2 ry
  exact SeqAt.ne_plain r1 r2 p1 p2 (by unfold Rm at hu; omega) ⟨.bl _, H, I, rfl, q⟩
theorem og_eq (hu : Rm X) : OpG X (compareOp .Eq) dEq := OpG.of ⟨_, or_eqP hu, fun B F H σ ρ x y p q z Q R hx hy e k => by
  unfold dEq at e
  split at e
  · rename_i h; cases e
    exact ⟨p, q, hx, hy, h.1, h.2, k F H _ R (Same.refl _) (.bl _)⟩
  · cases e⟩
theorem og_ne (hu : Rm X) : OpG X (compareOp .NotEq) dNe := OpG.of ⟨_, or_neP hu, fun B F H σ ρ x y p q z Q R hx hy e k => by
  unfold dNe at e
  split at e
  · rename_i h; cases e
    exact ⟨p, q, hx, hy, h.1, h.2, k F H _ R (Same.refl _) (.bl _)⟩
  · cases e⟩
/-- in, not in -/
def items : D → Option (List D)
  | .list xs => some xs
  | .tuple xs => some xs
  | _ => none
theorem items_plain {e : D} {xs : List D} (h : items e = some xs) (hp : PyData.plainAll xs = true) : e.plain = true := by
  unfold items at h
  split at h
  · cases h; simpa [PyData.plain] using hp
  · cases h; simpa [PyData.plain] using hp
  · cases h
def dIn : G2 := fun p q => (items q).bind fun xs => if okD p = true ∧ okDs xs = true then some (.bool (xs.any fun y => PyData.eqv y p)) else none
def dNotIn : G2 := fun p q => (items q).bind fun xs => if okD p = true ∧ okDs xs = true then some (.bool (!xs.any fun y => PyData.eqv y p)) else none
def rInP (K : Fg) (n : Bool) : R2 := fun x y H Q => ∃ d e xs, Dp K H x d ∧ Dp K H y e ∧ items e = some xs ∧ okD d = true ∧ okDs xs = true ∧ Q (.bl (if n = true then !xs.any fun y => PyData.eqv y d else xs.any fun y => PyData.eqv y d)) H
theorem or_inP (hu : Rm X) : OpR X (compareOp .In) (rInP X.K false) := by
  intro pins s σ H x y v u Q I rx ry h
  obtain ⟨d, e, xs, hd, he, hi, sd, se, q⟩ := h
  obtain ⟨p1, z1⟩ := okD_iff.mp sd
  obtain ⟨p2, z2⟩ := okDs_iff.mp se
  obtain ⟨as, r1⟩ := Dp.reads I d x v hd p1 rx
  obtain ⟨bs, r2⟩ := Dp.reads I e y u he (items_plain hi p2) ry
  unfold items at hi
  split at hi
  · cases hi; exact SeqAt.in_list_data r2 r1 p2 p1 (by unfold Rm at hu; omega) ⟨.bl _, H, I, rfl, q⟩
  · cases hi; exact SeqAt.in_tuple_data r2 r1 p2 p1 (by unfold Rm at hu; omega) ⟨.bl _, H, I, rfl, q⟩
  · cases hi
theorem or_notInP (hu : Rm X) : OpR X (compareOp .NotIn) (rInP X.K true) := by
  intro pins s σ H x y v u Q I rx ry h
  obtain ⟨d, e, xs, hd, he, hi, sd, se, q⟩ := h
  obtain ⟨p1, z1⟩ := okD_iff.mp sd
  obtain ⟨p2, z2⟩ := okDs_iff.mp se
  obtain ⟨as, r1⟩ := Dp.reads I d x v hd p1 rx
  obtain ⟨bs, r2⟩ := Dp.reads I e y u he (items_plain hi p2) ry
  unfold items at hi
  split at hi
  · cases hi; exact SeqAt.notIn_list_data r2 r1 p2 p1 (by unfold Rm at hu; omega) ⟨.bl _, H, I, rfl, q⟩
  · cases hi; exact SeqAt.notIn_tuple_data r2 r1 p2 p1 (by unfold Rm at hu; omega) ⟨.bl _, H, I, rfl, q⟩
  · cases hi
theorem og_in (hu : Rm X) : OpG X (compareOp .In) dIn := OpG.of ⟨_, or_inP hu, fun B F H σ ρ x y p q z Q R hx hy e k => by
  obtain ⟨xs, e1, e⟩ := Option.bind_eq_some_iff.mp e
  split at e
  · rename_i h; cases e
    exact ⟨p, q, xs, hx, hy, e1, h.1, h.2, k F H _ R (Same.refl _) (.bl _)⟩
  · cases e⟩
theorem og_notIn (hu : Rm X) : OpG X (compareOp .NotIn) dNotIn := OpG.of ⟨_, or_notInP hu, fun B F H σ ρ x y p q z Q R hx hy e k => by
  obtain ⟨xs, e1, e⟩ := Option.bind_eq_some_iff.mp e
  split at e
  · rename_i h; cases e
    exact ⟨p, q, xs, hx, hy, e1, h.1, h.2, k F H _ R (Same.refl _) (.bl _)⟩
  · cases e⟩
/-- is None, is not None -/
def dIsN : G2
  | .none, .none => some (.bool true)
  | _, .none => some (.bool false)
  | _, _ => none
def dNotN : G2
  | .none, .none => some (.bool false)
  | _, .none => some (.bool true)
  | _, _ => none
theorem dp_non_iff {K : Fg} {F : Hp} {v : V} {p : D} (h : Dp K F v p) : decide (v = .non) = (match p with | .none => true | _ => false) := by
  cases h <;> simp [rqD, fnD]
theorem og_isN : OpG X (compareOp .Is) dIsN := OpG.of ⟨_, op_isN, fun B F H σ ρ x y p q z Q R hx hy e k => by
  have hd := dp_non_iff hx
  cases q with
  | none =>
    refine ⟨Dp.inv_non hy, k F H _ R (Same.refl _) ?_⟩
    rw [hd]
    cases p <;> (cases e; exact .bl _)
  | _ => cases p <;> cases e⟩
theorem og_notN : OpG X (compareOp .IsNot) dNotN := OpG.of ⟨_, op_notN, fun B F H σ ρ x y p q z Q R hx hy e k => by
  have hd := dp_non_iff hx
  cases q with
  | none =>
    refine ⟨Dp.inv_non hy, k F H _ R (Same.refl _) ?_⟩
    rw [hd]
    cases p <;> (cases e; exact .bl _)
  | _ => cases p <;> cases e⟩
end
end L2.P


set_option Elab.async false
set_option linter.all false
set_option maxRecDepth 100000
set_option maxHeartbeats 4000000
namespace L2.P
open PySem PySem.Spec PyProof.Rows L2

inductive PkAll (K : Fg) (F : Hp) (σ : St) (ρ : Rho) : List V → List D → Prop
  | nil : PkAll K F σ ρ [] []
  | cons {v : V} {vs : List V} {p : D} {ps : List D} : Pk K F σ ρ v p → PkAll K F σ ρ vs ps → PkAll K F σ ρ (v :: vs) (p :: ps)
theorem PkAll.mono {K : Fg} {F F' : Hp} {σ : St} {ρ : Rho} (e : Same F F') : ∀ {vs : List V} {ps : List D}, PkAll K F σ ρ vs ps → PkAll K F' σ ρ vs ps
  | _, _, .nil => .nil
  | _, _, .cons a b => .cons (a.mono e) (PkAll.mono e b)
theorem PkAll.dp {K : Fg} {B : Bs} {F H : Hp} {σ : St} {ρ : Rho} (R : Rs K B F H σ ρ) : ∀ {vs : List V} {ps : List D}, PkAll K F σ ρ vs ps → DpAll K H vs ps
  | _, _, .nil => .nil
  | _, _, .cons a b => .cons (a.dp (Same.refl _) R) (PkAll.dp R b)
theorem PkAll.of {K : Fg} {F : Hp} {σ : St} {ρ : Rho} : ∀ {vs : List V} {ps : List D}, DpAll K F vs ps → PkAll K F σ ρ vs ps
  | _, _, .nil => .nil
  | _, _, .cons a b => .cons (.inl a) (PkAll.of b)
abbrev TL := Rho → (List D → Prop) → Prop
def tXA (K : Fg) (T : TL) : TA := fun σ H Q => ∃ B F ρ, Rs K B F H σ ρ ∧ T ρ (fun ps => ∀ F' H' vs, Rs K B F' H' σ ρ → Same F F' → PkAll K F' σ ρ vs ps → Q vs H')
def tEA (K : Fg) (T : TL) : TA := fun σ H Q => ∃ B F ρ, Rs K B F H σ ρ ∧ T ρ (fun ps => ∀ F' H' vs, Rs K B F' H' σ ρ → Same F F' → DpAll K F' vs ps → Q vs H')
structure XA (X : Cx) (es : List Expr) (T : TL) : Prop where
  mono : ∀ ρ K K', (∀ p, K p → K' p) → T ρ K → T ρ K'
  pa : PA X es (tXA X.K T)
structure EA (X : Cx) (es : List Expr) (T : TL) : Prop where
  mono : ∀ ρ K K', (∀ p, K p → K' p) → T ρ K → T ρ K'
  pa : PA X es (tEA X.K T)
abbrev XAF (X : Cx) (es : List Expr) (f : Rho → Option (List D)) : Prop := XA X es (fW f)
abbrev EAF (X : Cx) (es : List Expr) (f : Rho → Option (List D)) : Prop := EA X es (fW f)
def aNil : Rho → Option (List D) := fun _ => some []
def aCons (f : Rho → Option D) (g : Rho → Option (List D)) : Rho → Option (List D) := fun ρ => (f ρ).bind fun x => (g ρ).map fun xs => x :: xs
def wNil : TL := fun _ K => K []
def wCons (T : TW) (U : TL) : TL := fun ρ K => T ρ fun x => U ρ fun xs => K (x :: xs)
section
variable {X : Cx} {e : Expr} {es : List Expr} {pos : Pos}
theorem PA.imp {es : List Expr} {t t' : TA} (h : PA X es t) (k : ∀ σ H Q, t' σ H Q → t σ H Q) : PA X es t' := ⟨fun p pins s σ H Q I hw => h.run p pins s σ H Q I (k _ _ _ hw)⟩
theorem XA.imp {T T' : TL} (h : XA X es T) (m : ∀ ρ K K', (∀ p, K p → K' p) → T' ρ K → T' ρ K') (k : ∀ ρ K, T' ρ K → T ρ K) : XA X es T' := ⟨m, PA.imp h.pa fun _ _ _ ⟨B, F, ρ, R, q⟩ => ⟨B, F, ρ, R, k _ _ q⟩⟩
theorem EA.imp {T T' : TL} (h : EA X es T) (m : ∀ ρ K K', (∀ p, K p → K' p) → T' ρ K → T' ρ K') (k : ∀ ρ K, T' ρ K → T ρ K) : EA X es T' := ⟨m, PA.imp h.pa fun _ _ _ ⟨B, F, ρ, R, q⟩ => ⟨B, F, ρ, R, k _ _ q⟩⟩
theorem xa_nilw : XA X [] wNil := ⟨fun _ _ _ h q => h _ q, PA.imp pa_nil fun σ H Q ⟨B, F, ρ, R, q⟩ => q F H [] R (Same.refl _) .nil⟩
theorem ea_nilw : EA X [] wNil := ⟨fun _ _ _ h q => h _ q, PA.imp pa_nil fun σ H Q ⟨B, F, ρ, R, q⟩ => q F H [] R (Same.refl _) .nil⟩
theorem xa_consw {T : TW} {U : TL} (ha : XW X e T) (hr : XA X es U) (hs : starEach (e :: es) X.env = (false, eval e X.env) :: starEach es X.env := by rfl) : XA X (e :: es) (wCons T U) :=
  ⟨fun ρ K K' h q => ha.mono _ _ _ (fun x => hr.mono _ _ _ fun xs => h _) q, PA.imp (pa_cons ha.pe hr.pa hs) fun σ H Q ⟨B, F, ρ, R, q⟩ => ⟨B, F, ρ, R, ha.mono _ _ _ (fun x k F1 H1 v R1 e1 d1 =>
    ⟨B, F1, ρ, R1, hr.mono _ _ _ (fun xs k2 F2 H2 vs R2 e2 d2 => k2 F2 H2 (v :: vs) R2 (e1.trans e2) (.cons (d1.mono e2) d2)) k⟩) q⟩⟩
theorem ea_consw {T : TW} {U : TL} (ha : EW X e T) (hr : EA X es U) (hs : starEach (e :: es) X.env = (false, eval e X.env) :: starEach es X.env := by rfl) : EA X (e :: es) (wCons T U) :=
  ⟨fun ρ K K' h q => ha.mono _ _ _ (fun x => hr.mono _ _ _ fun xs => h _) q, PA.imp (pa_cons ha.pe hr.pa hs) fun σ H Q ⟨B, F, ρ, R, q⟩ => ⟨B, F, ρ, R, ha.mono _ _ _ (fun x k F1 H1 v R1 e1 d1 =>
    ⟨B, F1, ρ, R1, hr.mono _ _ _ (fun xs k2 F2 H2 vs R2 e2 d2 => k2 F2 H2 (v :: vs) R2 (e1.trans e2) (.cons (d1.same e2) d2)) k⟩) q⟩⟩
theorem aCons_w {f : Rho → Option D} {g : Rho → Option (List D)} (ρ : Rho) (K : List D → Prop) (h : fW (aCons f g) ρ K) : wCons (fW f) (fW g) ρ K := by
  obtain ⟨z, e, k⟩ := h
  obtain ⟨x, e1, e⟩ := Option.bind_eq_some_iff.mp e
  obtain ⟨xs, e2, rfl⟩ := Option.map_eq_some_iff.mp e
  exact ⟨x, e1, xs, e2, k⟩
theorem xa_nil : XAF X [] aNil := xa_nilw.imp fW_mono fun ρ K ⟨p, e, k⟩ => by cases e; exact k
theorem ea_nil : EAF X [] aNil := ea_nilw.imp fW_mono fun ρ K ⟨p, e, k⟩ => by cases e; exact k
theorem xa_cons {f : Rho → Option D} {g : Rho → Option (List D)} (ha : XF X e f) (hr : XAF X es g) (hs : starEach (e :: es) X.env = (false, eval e X.env) :: starEach es X.env := by rfl) : XAF X (e :: es) (aCons f g) := (xa_consw ha hr hs).imp fW_mono aCons_w
theorem ea_cons {f : Rho → Option D} {g : Rho → Option (List D)} (ha : EF X e f) (hr : EAF X es g) (hs : starEach (e :: es) X.env = (false, eval e X.env) :: starEach es X.env := by rfl) : EAF X (e :: es) (aCons f g) := (ea_consw ha hr hs).imp fW_mono aCons_w
end

abbrev GA := List D → Option D
/-- a call does what g says of data -/
def CallG (X : Cx) (f : Value) (g : GA) : Prop :=
  ∃ r : List V → Hp → VK → Prop, CallR X f r ∧ ∀ (B : Bs) (F H : Hp) (σ : St) (ρ : Rho) (vs : List V) (ps : List D) (z : D) (Q : VK), Rs X.K B F H σ ρ → PkAll X.K F σ ρ vs ps → g ps = some z →
    (∀ F' H' v, Rs X.K B F' H' σ ρ → Same F F' → Dp X.K F' v z → Q v H') → r vs H Q
/-- .. makes a new list -/
def CallN (X : Cx) (f : Value) (g : List D → Option (List D)) : Prop :=
  ∃ r : List V → Hp → VK → Prop, CallR X f r ∧ ∀ (B : Bs) (F H : Hp) (σ : St) (ρ : Rho) (vs : List V) (ps zs : List D) (Q : VK), Rs X.K B F H σ ρ → PkAll X.K F σ ρ vs ps → g ps = some zs →
    (∀ F' H' a xs, Rs X.K B F' H' σ ρ → Same F F' → H' a = none → DpAll X.K F' xs zs → Q (.ref a) (upd H' a (.lst xs))) → r vs H Q
def aOf {α : Type} (g : List D → Option α) (f : Rho → Option (List D)) : Rho → Option α := fun ρ => (f ρ).bind g
def wOf {α : Type} (g : List D → Option α) (T : TL) : Rho → (α → Prop) → Prop := fun ρ K => T ρ fun ps => ∃ z, g ps = some z ∧ K z
theorem wOf_mono {α : Type} {g : List D → Option α} {T : TL} (m : ∀ ρ K K', (∀ p, K p → K' p) → T ρ K → T ρ K') : ∀ ρ K K', (∀ p, K p → K' p) → wOf g T ρ K → wOf g T ρ K' := fun ρ K K' h q => m _ _ _ (fun p ⟨b, e, k⟩ => ⟨b, e, h b k⟩) q
theorem aOf_w {α : Type} {g : List D → Option α} {f : Rho → Option (List D)} (ρ : Rho) (K : α → Prop) (h : fW (aOf g f) ρ K) : wOf g (fW f) ρ K := by
  obtain ⟨z, e, k⟩ := h
  obtain ⟨x, e1, e⟩ := Option.bind_eq_some_iff.mp e
  exact ⟨x, e1, z, e, k⟩
section
variable {X : Cx} {x : Str} {p pos : Pos} {e : Expr} {es : List Expr} {id T : String}
theorem call_ok {g : GA} {U : TL} (m : ∀ ρ K K', (∀ p, K p → K' p) → U ρ K → U ρ K') {r : List V → Hp → VK → Prop}
    (hr : ∀ (B : Bs) (F H : Hp) (σ : St) (ρ : Rho) (vs : List V) (ps : List D) (z : D) (Q : VK), Rs X.K B F H σ ρ → PkAll X.K F σ ρ vs ps → g ps = some z → (∀ F' H' v, Rs X.K B F' H' σ ρ → Same F F' → Dp X.K F' v z → Q v H') → r vs H Q)
    {σ : St} {H : Hp} {Q : VK} (h : tW X.K (wOf g U) σ H Q) : tCB r (tXA X.K U) σ H Q := by
  obtain ⟨B, F, ρ, R, q⟩ := h
  exact ⟨B, F, ρ, R, m _ _ _ (fun ps ⟨z, ez, k⟩ F1 H1 vs R1 e1 d1 => hr B F1 H1 σ ρ vs ps z Q R1 d1 ez fun F2 H2 v R2 e2 d2 => k F2 H2 v R2 (e1.trans e2) d2) q⟩
theorem callN_ok {g : List D → Option (List D)} {U : TL} (m : ∀ ρ K K', (∀ p, K p → K' p) → U ρ K → U ρ K') {r : List V → Hp → VK → Prop}
    (hr : ∀ (B : Bs) (F H : Hp) (σ : St) (ρ : Rho) (vs : List V) (ps zs : List D) (Q : VK), Rs X.K B F H σ ρ → PkAll X.K F σ ρ vs ps → g ps = some zs → (∀ F' H' a xs, Rs X.K B F' H' σ ρ → Same F F' → H' a = none → DpAll X.K F' xs zs → Q (.ref a) (upd H' a (.lst xs))) → r vs H Q)
    {σ : St} {H : Hp} {Q : VK} (h : tN X.K (wOf g U) σ H Q) : tCB r (tXA X.K U) σ H Q := by
  obtain ⟨B, F, ρ, R, q⟩ := h
  exact ⟨B, F, ρ, R, m _ _ _ (fun ps ⟨z, ez, k⟩ F1 H1 vs R1 e1 d1 => hr B F1 H1 σ ρ vs ps z Q R1 d1 ez fun F2 H2 a xs R2 e2 n d2 => k F2 H2 a xs R2 (e1.trans e2) n d2) q⟩
/-- f(e, ..), f a built-in function; a built-in class -/
theorem ew_callB {g : GA} {U : TL} (c : CallG X (.builtin id) g) (ha : XA X (e :: es) U) (hg : Gl X x) (hm : X.mg x = none) (hv : bootBuiltins x = some (.builtin id)) (hn : x ≠ "__name__" := by decide) (hdb : (x == ("__debug__" : Str)) = false := by decide)
    (he : starEach (e :: es) X.env = (false, eval e X.env) :: starEach es X.env := by rfl) (hpl : (backTo pos (starEach es X.env)).any (·.1) = false := by rfl) : EW X (.Call (.Name x p) (e :: es) [] pos) (wOf g U) := by
  obtain ⟨r, hc, hr⟩ := c
  exact ⟨wOf_mono ha.mono, (pe_callB hc hg hm hv ha.pa hn hdb he hpl).imp fun _ _ _ h => call_ok ha.mono hr h⟩
theorem ew_callT {g : GA} {U : TL} (c : CallG X (.type T) g) (ha : XA X (e :: es) U) (hg : Gl X x) (hm : X.mg x = none) (hv : bootBuiltins x = some (.type T)) (hn : x ≠ "__name__" := by decide) (hdb : (x == ("__debug__" : Str)) = false := by decide)
    (he : starEach (e :: es) X.env = (false, eval e X.env) :: starEach es X.env := by rfl) (hpl : (backTo pos (starEach es X.env)).any (·.1) = false := by rfl) : EW X (.Call (.Name x p) (e :: es) [] pos) (wOf g U) := by
  obtain ⟨r, hc, hr⟩ := c
  exact ⟨wOf_mono ha.mono, (pe_callTy hc hg hm hv ha.pa hn hdb he hpl).imp fun _ _ _ h => call_ok ha.mono hr h⟩
theorem nw_callB {g : List D → Option (List D)} {U : TL} (c : CallN X (.builtin id) g) (ha : XA X (e :: es) U) (hg : Gl X x) (hm : X.mg x = none) (hv : bootBuiltins x = some (.builtin id)) (hn : x ≠ "__name__" := by decide) (hdb : (x == ("__debug__" : Str)) = false := by decide)
    (he : starEach (e :: es) X.env = (false, eval e X.env) :: starEach es X.env := by rfl) (hpl : (backTo pos (starEach es X.env)).any (·.1) = false := by rfl) : NW X (.Call (.Name x p) (e :: es) [] pos) (wOf g U) := by
  obtain ⟨r, hc, hr⟩ := c
  exact ⟨wOf_mono ha.mono, (pe_callB hc hg hm hv ha.pa hn hdb he hpl).imp fun _ _ _ h => callN_ok ha.mono hr h⟩
theorem nw_callT {g : List D → Option (List D)} {U : TL} (c : CallN X (.type T) g) (ha : XA X (e :: es) U) (hg : Gl X x) (hm : X.mg x = none) (hv : bootBuiltins x = some (.type T)) (hn : x ≠ "__name__" := by decide) (hdb : (x == ("__debug__" : Str)) = false := by decide)
    (he : starEach (e :: es) X.env = (false, eval e X.env) :: starEach es X.env := by rfl) (hpl : (backTo pos (starEach es X.env)).any (·.1) = false := by rfl) : NW X (.Call (.Name x p) (e :: es) [] pos) (wOf g U) := by
  obtain ⟨r, hc, hr⟩ := c
  exact ⟨wOf_mono ha.mono, (pe_callTy hc hg hm hv ha.pa hn hdb he hpl).imp fun _ _ _ h => callN_ok ha.mono hr h⟩
theorem EW.f {g : GA} {f : Rho → Option (List D)} {e : Expr} (h : EW X e (wOf g (fW f))) : EF X e (aOf g f) := h.imp fW_mono aOf_w
theorem NW.f {g : List D → Option (List D)} {f : Rho → Option (List D)} {e : Expr} (h : NW X e (wOf g (fW f))) : NF X e (aOf g f) := h.imp fW_mono aOf_w
end

def intsD : List D → Option (List Int)
  | [] => some []
  | .int i :: r => (intsD r).map fun ns => i :: ns
  | _ :: _ => none
def boolsD : List D → Option (List Bool)
  | [] => some []
  | .bool i :: r => (boolsD r).map fun ns => i :: ns
  | _ :: _ => none
theorem intsD_some : ∀ {ps : List D} {ns : List Int}, intsD ps = some ns → ps = ns.map PyData.int
  | [], _, h => by cases h; rfl
  | .int i :: r, _, h => by
    obtain ⟨ns, e, rfl⟩ := Option.map_eq_some_iff.mp (show (intsD r).map _ = _ from h)
    rw [intsD_some e]
    rfl
  | .none :: _, _, h => by cases h
  | .bool _ :: _, _, h => by cases h
  | .str _ :: _, _, h => by cases h
  | .list _ :: _, _, h => by cases h
  | .tuple _ :: _, _, h => by cases h
  | .dict _ :: _, _, h => by cases h
theorem boolsD_some : ∀ {ps : List D} {ns : List Bool}, boolsD ps = some ns → ps = ns.map PyData.bool
  | [], _, h => by cases h; rfl
  | .bool i :: r, _, h => by
    obtain ⟨ns, e, rfl⟩ := Option.map_eq_some_iff.mp (show (boolsD r).map _ = _ from h)
    rw [boolsD_some e]
    rfl
  | .none :: _, _, h => by cases h
  | .int _ :: _, _, h => by cases h
  | .str _ :: _, _, h => by cases h
  | .list _ :: _, _, h => by cases h
  | .tuple _ :: _, _, h => by cases h
  | .dict _ :: _, _, h => by cases h
@[simp] theorem intsD_map (ns : List Int) : intsD (ns.map PyData.int) = some ns := by
  induction ns with
  | nil => rfl
  | cons n ns ih => rw [List.map_cons]; show (intsD (ns.map PyData.int)).map _ = _; rw [ih]; rfl
@[simp] theorem boolsD_map (ns : List Bool) : boolsD (ns.map PyData.bool) = some ns := by
  induction ns with
  | nil => rfl
  | cons n ns ih => rw [List.map_cons]; show (boolsD (ns.map PyData.bool)).map _ = _; rw [ih]; rfl

section
variable {X : Cx}
theorem dp1 {K : Fg} {F : Hp} {vs : List V} {p : D} (h : DpAll K F vs [p]) : ∃ v, vs = [v] ∧ Dp K F v p := by
  obtain ⟨v, us, rfl, d, t⟩ := DpAll.uncons h
  rw [DpAll.unnil t]
  exact ⟨v, rfl, d⟩
theorem dp2 {K : Fg} {F : Hp} {vs : List V} {p q : D} (h : DpAll K F vs [p, q]) : ∃ v u, vs = [v, u] ∧ Dp K F v p ∧ Dp K F u q := by
  obtain ⟨v, us, rfl, d, t⟩ := DpAll.uncons h
  obtain ⟨u, rfl, d2⟩ := dp1 t
  exact ⟨v, u, rfl, d, d2⟩
theorem pk1 {K : Fg} {F : Hp} {σ : St} {ρ : Rho} {vs : List V} {p : D} (h : PkAll K F σ ρ vs [p]) : ∃ v, vs = [v] ∧ Pk K F σ ρ v p := by
  cases h with
  | cons a b => cases b; exact ⟨_, rfl, a⟩
/-- the items of what is read at once are frozen -/
theorem pk_items {K : Fg} {B : Bs} {F H : Hp} {σ : St} {ρ : Rho} {v : V} {p : D} {ps : List D} (R : Rs K B F H σ ρ) (h : Pk K F σ ρ v p) (e : items p = some ps) : ∃ a xs, v = .ref a ∧ DpAll K F xs ps ∧ ((p = .list ps ∧ SqL K H a xs) ∨ (p = .tuple ps ∧ SqT K F a xs)) := by
  rcases h with h | ⟨i, qs, h1, h2, rfl⟩
  · unfold items at e
    split at e
    · cases e
      obtain ⟨a, xs, rfl, s, r⟩ := Dp.inv_lst h
      exact ⟨a, xs, rfl, r, .inl ⟨rfl, sqL_same R.sub s⟩⟩
    · cases e
      obtain ⟨a, xs, rfl, s, r⟩ := Dp.inv_tup h
      exact ⟨a, xs, rfl, r, .inr ⟨rfl, s⟩⟩
    · cases e
  · cases e
    have q := R.at_ i _ h1
    rw [h2] at q
    cases q with
    | ol f h0 h3 r => exact ⟨_, _, rfl, r, .inl ⟨rfl, .inl (.inl h3)⟩⟩
theorem pk_tup {K : Fg} {F : Hp} {σ : St} {ρ : Rho} {v : V} {ps : List D} (h : Pk K F σ ρ v (.tuple ps)) : Dp K F v (.tuple ps) := by
  rcases h with h | ⟨_, _, _, _, z⟩
  · exact h
  · cases z
theorem sq_of {K : Fg} {F H : Hp} {a : Addr} {xs : List V} {p : D} {ps : List D} (s : Same F H) (h : (p = .list ps ∧ SqL K H a xs) ∨ (p = .tuple ps ∧ SqT K F a xs)) : SqL K H a xs ∨ SqT K H a xs := by
  rcases h with ⟨_, h⟩ | ⟨_, h⟩
  · exact .inl h
  · exact .inr (sqT_same s h)
def gLen : GA
  | [.list xs] => some (.int xs.length)
  | [.tuple xs] => some (.int xs.length)
  | [.str z] => if z.length ≤ sizeLine then some (.int z.length) else none
  | _ => none
theorem cg_len : CallG X (.builtin "len") gLen := ⟨_, CallR.or call_len_seq call_len_str, fun B F H σ ρ vs ps z Q R d e k => by
  unfold gLen at e
  split at e
  · cases e
    obtain ⟨v, rfl, h⟩ := pk1 d
    obtain ⟨a, xs, rfl, r, q⟩ := pk_items R h rfl
    exact .inl ⟨a, xs, rfl, sq_of R.sub q, by rw [r.length]; exact k F H _ R (Same.refl _) (.int _)⟩
  · cases e
    obtain ⟨v, rfl, h⟩ := pk1 d
    obtain ⟨a, xs, rfl, r, q⟩ := pk_items R h rfl
    exact .inl ⟨a, xs, rfl, sq_of R.sub q, by rw [r.length]; exact k F H _ R (Same.refl _) (.int _)⟩
  · split at e
    · rename_i hz
      cases e
      obtain ⟨v, rfl, h⟩ := dp1 (d.dp R)
      exact .inr ⟨_, by rw [Dp.inv_str h], hz, k F H _ R (Same.refl _) (.int _)⟩
    · cases e
  · cases e⟩
def gTup : GA
  | [.list xs] => some (.tuple xs)
  | [.tuple xs] => some (.tuple xs)
  | _ => none
theorem cg_tuple : CallG X (.type "tuple") gTup := ⟨_, call_tuple_of, fun B F H σ ρ vs ps z Q R d e k => by
  unfold gTup at e
  split at e
  · cases e
    obtain ⟨v, rfl, h⟩ := pk1 d
    obtain ⟨a, xs, rfl, r, q⟩ := pk_items R h rfl
    rcases q with ⟨_, q⟩ | ⟨q, _⟩
    · refine ⟨a, xs, rfl, .inl ⟨q, fun l hl => ?_⟩⟩
      have n := R.sub.free hl
      exact k (upd F l (.tup xs)) _ _ (R.grow hl) (same_upd n) (.tup upd_same (r.same (same_upd n)))
    · cases q
  · cases e
    obtain ⟨v, rfl, h⟩ := pk1 d
    have d := pk_tup h
    obtain ⟨a, xs, rfl, q, r⟩ := Dp.inv_tup d
    exact ⟨a, xs, rfl, .inr ⟨sqT_same R.sub q, k F H _ R (Same.refl _) d⟩⟩
  · cases e⟩
def gLst : List D → Option (List D)
  | [p] => items p
  | _ => none
theorem cn_list : CallN X (.type "list") gLst := ⟨_, call_list_of, fun B F H σ ρ vs ps zs Q R d e k => by
  unfold gLst at e
  split at e
  · obtain ⟨v, rfl, h⟩ := pk1 d
    obtain ⟨a, xs, rfl, r, q⟩ := pk_items R h e
    exact ⟨a, xs, rfl, sq_of R.sub q, fun l hl => k F H l xs R (Same.refl _) hl r⟩
  · cases e⟩
def gAny : GA
  | [.list xs] => (boolsD xs).map fun bs => .bool (bs.any id)
  | _ => none
def gAll : GA
  | [.list xs] => (boolsD xs).map fun bs => .bool (bs.all id)
  | _ => none
theorem cg_any (hc : X.calm = true) : CallG X (.builtin "any") gAny := ⟨_, cr_any hc, fun B F H σ ρ vs ps z Q R d e k => by
  unfold gAny at e
  split at e
  · obtain ⟨bs, e1, rfl⟩ := Option.map_eq_some_iff.mp e
    obtain ⟨v, rfl, h⟩ := dp1 (d.dp R)
    rw [boolsD_some e1] at h
    obtain ⟨a, xs, rfl, s, r⟩ := Dp.inv_lst h
    exact ⟨a, bs, rfl, by rw [dpAll_bls bs r] at s; exact s, k F H _ R (Same.refl _) (.bl _)⟩
  · cases e⟩
theorem cg_all (hc : X.calm = true) : CallG X (.builtin "all") gAll := ⟨_, cr_all hc, fun B F H σ ρ vs ps z Q R d e k => by
  unfold gAll at e
  split at e
  · obtain ⟨bs, e1, rfl⟩ := Option.map_eq_some_iff.mp e
    obtain ⟨v, rfl, h⟩ := dp1 (d.dp R)
    rw [boolsD_some e1] at h
    obtain ⟨a, xs, rfl, s, r⟩ := Dp.inv_lst h
    exact ⟨a, bs, rfl, by rw [dpAll_bls bs r] at s; exact s, k F H _ R (Same.refl _) (.bl _)⟩
  · cases e⟩
theorem tyL {K : Fg} {H : Hp} {a : Addr} {xs : List V} (h : SqL K H a xs) : TyX K H (.ref a) (.type "list") := by
  rcases h with (h | ⟨o, h⟩) | ⟨o, its, n, h, hc, _⟩
  · exact .base (.lst h)
  · exact .base (.frz h)
  · exact .kList h hc
theorem tyT {K : Fg} {H : Hp} {a : Addr} {xs : List V} (h : SqT K H a xs) : TyX K H (.ref a) (.type "tuple") := by
  rcases h with (h | ⟨o, h⟩) | ⟨o, its, n, h, hc, _⟩
  · exact .base (.tup h)
  · exact .fTuple h
  · exact .kTuple h hc
def tyD : List (D × D) → String
  | [(.int _, .dict [(.none, .none)]), _] => "tuple"
  | _ => "dict"
theorem tyD_or (kvs : List (D × D)) : tyD kvs = "tuple" ∨ tyD kvs = "dict" := by
  unfold tyD
  split
  · exact .inl rfl
  · exact .inr rfl
def tyN : D → String
  | .none => "NoneType"
  | .bool _ => "bool"
  | .int _ => "int"
  | .str _ => "str"
  | .list _ => "list"
  | .tuple _ => "tuple"
  | .dict kvs => tyD kvs
/-- what isinstance has no rule for: functions, dicts whose keys are tuples -/
def noIs : D → Bool
  | .dict ((.none, .tuple _) :: _) => true
  | .dict ((.none, .list _) :: _) => true
  | .dict ((.tuple _, _) :: _) => true
  | _ => false
theorem ty_of {K : Fg} {H : Hp} {v : V} {p : D} (h : Dp K H v p) (nf : noIs p = false) : TyX K H v (.type (tyN p)) := by
  cases h with
  | non => exact .base .non
  | bl b => exact .base (.bl b)
  | int b => exact .base (.int b)
  | str b => exact .base (.str b)
  | lst s _ => exact tyL s
  | tup s _ => exact tyT (.inl (.inl s))
  | tupK a b c d f _ _ => exact tyT (.inr ⟨_, _, _, a, b, c, d, f⟩)
  | dk s r =>
    cases r with
    | nil => exact .fDict s
    | cons d r =>
      rename_i k _ p _ kvs
      have : tyN (.dict ((.int k, p) :: kvs)) = "dict" := by
        show tyD _ = _
        unfold tyD
        split
        · rename_i h
          cases h
          cases d with
          | dk _ r => cases r
          | dt _ r => cases r
        · rfl
      rw [this]
      exact .fDict s
  | dt s r =>
    cases r with
    | cons d r => cases nf
  | q a b c d f => exact tyT (.inr ⟨_, _, _, a, b, c, d, f⟩)
  | fn _ _ => cases nf
  | nd _ _ _ => cases nf
/-- isinstance(x, T), T a built-in class's name -/
def isiB (t T : String) : Bool := t == T || (t == "bool" && T == "int")
def gIsi (T : String) : D → D := fun p => .bool (isiB (tyN p) T)
theorem kit_isi (T : String) (h : T = "int" ∨ T = "bool" ∨ T = "str" ∨ T = "list" ∨ T = "tuple") (p : D) : kitB (tyN p) T = some (isiB (tyN p) T) := by
  have key : tyN p ∈ ["NoneType", "bool", "int", "str", "list", "tuple", "dict"] := by
    cases p with
    | dict kvs => rcases tyD_or kvs with e | e <;> (show tyD kvs ∈ _; rw [e]; decide)
    | _ => simp [tyN]
  generalize tyN p = t at key
  have all : (["NoneType", "bool", "int", "str", "list", "tuple", "dict"].all fun t => ["int", "bool", "str", "list", "tuple"].all fun T => kitB t T == some (isiB t T)) = true := by decide +kernel
  have hT : T ∈ ["int", "bool", "str", "list", "tuple"] := by rcases h with rfl | rfl | rfl | rfl | rfl <;> decide
  exact eq_of_beq (List.all_eq_true.mp (List.all_eq_true.mp all t key) T hT)
end

section
variable {X : Cx}
def rCatG (K : Fg) : R2 := fun x y H Q => ∃ l b xs zs, x = .ref l ∧ y = .ref b ∧ SqL K H l xs ∧ SqL K H b zs ∧ xs.length + zs.length ≤ sizeLine ∧ ∀ p, H p = none → Q (.ref p) (upd H p (.lst (xs ++ zs)))
theorem or_catL : OpR X (binaryOp .Add) (rCatG X.K) := by
  intro pins s σ H x y v u Q I rx ry h
  obtain ⟨l, b, xs, zs, rfl, rfl, hH, hB, hz, q⟩ := h
  cases rx
  cases ry
  obtain ⟨its, r, ⟨o1, n1, e1, c1, d1, f1⟩, _⟩ := I.list hH
  obtain ⟨its2, r2, ⟨o2, n2, e2, c2, d2, f2⟩, _⟩ := I.list hB
  obtain ⟨cls, dd, data, sl⟩ := o1
  obtain ⟨cls2, dd2, data2, sl2⟩ := o2
  simp only at c1 d1 f1 c2 d2 f2
  subst c1 d1 f1 c2 d2 f2
  have hl := r.length
  have hl2 := r2.length
  have ea : its.toArray ++ its2.toArray = (its ++ its2).toArray := by simp
  refine concat_meets ⟨_, e1, rfl⟩ ⟨_, e2, rfl⟩ noFill_list_add seq_list_add PySem.F.slot_list_add PySem.F.entry_list_add (PySem.F.args_list_add_2 _ _) (list_addW l b its.toArray its2.toArray n1 n2 _ _ sl sl2 (by simp only [List.size_toArray]; omega)) ⟨e1, e2, ?_⟩
  rw [ea]
  exact ⟨.ref _, _, I.lnew (t' := s.toks) (r.append r2) (by rw [List.length_append]; omega), rfl, q _ I.fresh⟩
end
end L2.P


set_option Elab.async false
set_option linter.all false
set_option maxRecDepth 100000
set_option maxHeartbeats 4000000
namespace L2.P
open PySem PySem.Spec PyProof.Rows L2

def Bs.pin (B : Bs) (a : Addr) (o : HO) : Bs := { B with Ha := upd B.Ha a o }
section
variable {K : Fg} {B : Bs} {F F' H H' : Hp} {σ σ' : St} {ρ ρ' : Rho} {a : Addr} {o : HO}
/-- from a new object on: it is pinned -/
theorem Rs.pin (R : Rs K B F H σ ρ) (h : H a = none) (o : HO) : Rs K (B.pin a o) F (upd H a o) σ ρ where
  sub := (R.lay h).sub
  ext := R.ext
  new := fun b h1 h2 => by
    have ne : b ≠ a := fun e => by subst e; exact h2 (R.sub.free h)
    show Fz ((upd B.Ha a o) b)
    rw [upd_ne ne]
    exact R.new b h1 h2
  old := fun b x hb e => by
    by_cases q : b = a
    · subst q
      have e' : (upd B.Ha b o) b = some x := e
      rw [upd_same] at e'
      rw [upd_same]; exact e'
    · have e' : (upd B.Ha a o) b = some x := e
      rw [upd_ne q] at e'
      rw [upd_ne q]; exact R.old b x hb e'
  hrow := (R.lay h).hrow
  hr2 := fun r h => by
    show (upd B.Ha a o) r ≠ none
    by_cases e : r = a
    · subst e; rw [upd_same]; simp
    · rw [upd_ne e]; exact R.hr2 r h
  len := R.len
  at_ := fun i s hs => by
    have q := (R.lay h (o := o)).at_ i s hs
    have q0 := R.at_ i s hs
    generalize σ[i]? = x at q q0
    cases q with
    | no => exact .no
    | v r => exact .v r
    | @ol c xs ps f h0 h1 r =>
      refine .ol f ?_ h1 r
      cases q0 with
      | ol _ _ g _ =>
        show (upd B.Ha a o) c = none
        rw [upd_ne (ne_of_none g h)]; exact h0
    | @row c _ f h0 h1 =>
      refine .row f ?_ h1
      cases q0 with
      | row _ _ g =>
        obtain ⟨u, hu⟩ := g.there
        rcases h0 with h0 | h0
        · refine .inl ?_
          show (upd B.Ha a o) c = none
          rw [upd_ne (ne_of_none hu h)]; exact h0
        · exact .inr h0
    | @od t c kvs f h0 h1 =>
      refine .od f ?_ h1
      cases q0 with
      | od _ _ g =>
        obtain ⟨u, hu, _⟩ := g.there
        show (upd B.Ha a o) c = none
        rw [upd_ne (ne_of_none hu h)]; exact h0
  apart := R.apart
  tb := (R.lay h).tb
  tbh := fun p hp => by
    obtain ⟨ps, q⟩ := R.tbh p hp
    exact ⟨ps, by show (upd B.Ha a o) p.1 = _; rw [upd_ne (R.tb.ne0 h p hp)]; exact q⟩
theorem Rs.pin_ne (R : Rs K (B.pin a o) F H σ ρ) (nb : ¬ isTE o) : ∀ p ∈ tbT K, p.1 ≠ a := fun p hp z => by
  obtain ⟨ps, q⟩ := R.tbh p hp
  have e : (B.pin a o).Ha a = some o := upd_same
  rw [z, e] at q
  exact nb (.inl ⟨ps, Option.some.inj q⟩)
theorem Rs.pinned (R : Rs K (B.pin a o) F H σ ρ) (hr : B.r ≠ some a) (hF : B.Fa a = none) (nt : ∀ xs, o ≠ HO.tup xs := by intro _ h; cases h) (nb : ¬ isTE o := by exact not_te rfl) : H a = some o ∧ F a = none := by
  have e : (B.pin a o).Ha a = some o := upd_same
  refine ⟨R.old a o ⟨fun z => hr z.symm, R.pin_ne nb⟩ e, ?_⟩
  cases q : F a with
  | none => rfl
  | some u =>
    have := R.new a hF (by rw [q]; simp)
    rw [e] at this
    rcases this with z | ⟨xs, z⟩
    · cases z
    · exact absurd (Option.some.inj z) (nt xs)
/-- the pin is taken off -/
theorem Rs.unpin (R : Rs K (B.pin a o) F H σ ρ) (hr : B.r ≠ some a) (hF : B.Fa a = none) (hH : B.Ha a = none) (nb : ¬ isTE o := by exact not_te rfl) : Rs K B F H σ ρ where
  tb := R.tb
  tbh := fun p hp => by
    obtain ⟨ps, q⟩ := R.tbh p hp
    have e : (upd B.Ha a o) p.1 = some (.tbl ps) := q
    rw [upd_ne (R.pin_ne nb p hp)] at e
    exact ⟨ps, e⟩
  sub := R.sub
  ext := R.ext
  new := fun b h1 h2 => by
    have q : Fz ((upd B.Ha a o) b) := R.new b h1 h2
    by_cases e : b = a
    · subst e; exact .inl hH
    · rw [upd_ne e] at q; exact q
  old := fun b x hb e => R.old b x hb (by
    show (upd B.Ha a o) b = some x
    rw [upd_ne (ne_of_none e hH)]; exact e)
  hrow := R.hrow
  hr2 := fun r h q => by
    have z := R.hr2 r h
    have ne : r ≠ a := fun e => hr (by rw [h, e])
    exact z (by show (upd B.Ha a o) r = none; rw [upd_ne ne]; exact q)
  len := R.len
  at_ := fun i s hs => by
    have q := R.at_ i s hs
    generalize σ[i]? = x at q
    cases q with
    | no => exact .no
    | v r => exact .v r
    | @ol c xs ps f h0 h1 r =>
      refine .ol f ?_ h1 r
      have z : (upd B.Ha a o) c = none := h0
      by_cases e : c = a
      · subst e; exact hH
      · rw [upd_ne e] at z; exact z
    | @row c _ f h0 h1 =>
      refine .row f ?_ h1
      rcases h0 with h0 | h0
      · have z : (upd B.Ha a o) c = none := h0
        refine .inl ?_
        by_cases e : c = a
        · subst e; exact hH
        · rw [upd_ne e] at z; exact z
      · exact .inr h0
    | @od t c kvs f h0 h1 =>
      refine .od f ?_ h1
      have z : (upd B.Ha a o) c = none := h0
      by_cases e : c = a
      · subst e; exact hH
      · rw [upd_ne e] at z; exact z
  apart := R.apart
/-- what is pinned is written -/
theorem Rs.repin (R : Rs K (B.pin a o) F H σ ρ) (hr : B.r ≠ some a) (hF : B.Fa a = none) (u : HO) (nt : ∀ xs, o ≠ HO.tup xs := by intro _ h; cases h) (nb : ¬ isTE o := by exact not_te rfl) : Rs K (B.pin a u) F (upd H a u) σ ρ := by
  obtain ⟨p1, p2⟩ := R.pinned hr hF nt nb
  refine ⟨same_upd2 R.sub p2, R.ext, fun b h1 h2 => ?_, fun b x hb e => ?_, fun r h => ?_, fun r h => ?_, R.len, fun i s hs => ?_, R.apart, R.tb.chg p1 nb, fun p hp => ?_⟩
  rotate_right
  · obtain ⟨ps, q⟩ := R.tbh p hp
    have e : (upd B.Ha a o) p.1 = some (.tbl ps) := q
    rw [upd_ne (R.pin_ne nb p hp)] at e
    exact ⟨ps, by show (upd B.Ha a u) p.1 = _; rw [upd_ne (R.pin_ne nb p hp)]; exact e⟩
  · have q : Fz ((upd B.Ha a o) b) := R.new b h1 h2
    have ne : b ≠ a := fun e => by subst e; exact h2 p2
    rw [upd_ne ne] at q
    show Fz ((upd B.Ha a u) b)
    rw [upd_ne ne]; exact q
  · have e' : (upd B.Ha a u) b = some x := e
    by_cases q : b = a
    · subst q; rw [upd_same] at e' ⊢; exact e'
    · rw [upd_ne q] at e' ⊢
      exact R.old b x hb (by show (upd B.Ha a o) b = some x; rw [upd_ne q]; exact e')
  · obtain ⟨h1, h2⟩ := R.hrow r h
    have ne : r ≠ a := fun e => by subst e; exact hr h
    exact ⟨h1, h2.mono (Same.refl _) fun x e => by rw [upd_ne ne]; exact e⟩
  · show (upd B.Ha a u) r ≠ none
    have ne : r ≠ a := fun e => by subst e; exact hr h
    have z : (upd B.Ha a o) r ≠ none := R.hr2 r h
    rw [upd_ne ne] at z ⊢; exact z
  · have q := R.at_ i s hs
    generalize σ[i]? = x at q
    have far : ∀ c, (B.pin a o).Ha c = none ∨ B.r = some c → c ≠ a := fun c h e => by
      subst e
      rcases h with h | h
      · have z : (upd B.Ha c o) c = none := h
        rw [upd_same] at z; cases z
      · exact hr h
    cases q with
    | no => exact .no
    | v r => exact .v r
    | @ol c xs ps f h0 h1 r =>
      have ne := far c (.inl h0)
      have z : (upd B.Ha a o) c = none := h0
      rw [upd_ne ne] at z
      exact .ol f (by show (upd B.Ha a u) c = none; rw [upd_ne ne]; exact z) (by rw [upd_ne ne]; exact h1) r
    | @row c _ f h0 h1 =>
      have ne := far c (h0.imp id And.left)
      refine .row f ?_ (h1.mono (Same.refl _) fun x e => by rw [upd_ne ne]; exact e)
      rcases h0 with h0 | h0
      · have z : (upd B.Ha a o) c = none := h0
        rw [upd_ne ne] at z
        exact .inl (by show (upd B.Ha a u) c = none; rw [upd_ne ne]; exact z)
      · exact .inr h0
    | @od t c kvs f h0 h1 =>
      have ne := far c (.inl h0)
      have z : (upd B.Ha a o) c = none := h0
      rw [upd_ne ne] at z
      exact .od f (by show (upd B.Ha a u) c = none; rw [upd_ne ne]; exact z) (h1.mono (Same.refl _) fun x e => by rw [upd_ne ne]; exact e)
end

def wipeR (ρ : Rho) : List Nat → Rho
  | [] => ρ
  | i :: is => (wipeR ρ is).set i .no
theorem wipeR_length (ρ : Rho) : ∀ is : List Nat, (wipeR ρ is).length = ρ.length
  | [] => rfl
  | i :: is => by unfold wipeR; rw [List.length_set, wipeR_length ρ is]
theorem wipeR_out {ρ : Rho} {i : Nat} : ∀ {is : List Nat}, i ∉ is → (wipeR ρ is)[i]? = ρ[i]?
  | [], _ => rfl
  | v :: vs, h => by
    have h1 : v ≠ i := fun e => h (by rw [e]; exact List.mem_cons_self)
    have h2 : i ∉ vs := fun m => h (List.mem_cons_of_mem _ m)
    unfold wipeR
    rw [List.getElem?_set_ne h1]
    exact wipeR_out h2
theorem wipeR_in {ρ : Rho} {i : Nat} {s : Sl} : ∀ {is : List Nat}, i ∈ is → (wipeR ρ is)[i]? = some s → s = .no
  | v :: vs, h, e => by
    unfold wipeR at e
    by_cases q : v = i
    · subst q
      by_cases hl : v < (wipeR ρ vs).length
      · rw [List.getElem?_set_self hl] at e; cases e; rfl
      · rw [List.getElem?_eq_none (by simpa using hl)] at e; cases e
    · rw [List.getElem?_set_ne q] at e
      rcases List.mem_cons.mp h with z | z
      · exact absurd z.symm q
      · exact wipeR_in z e
/-- no slot of is owns anything -/
def noOwn (ρ : Rho) (is : List Nat) : Bool := is.all fun i => match ρ[i]? with
  | some s => !s.owns
  | none => true
section
variable {K : Fg} {B : Bs} {F F' H H' : Hp} {σ σ' σ2 : St} {ρ ρ2 : Rho} {is : List Nat}
theorem Rs.wipe (R : Rs K B F H σ ρ) (is : List Nat) : Rs K B F H (L2.wipe σ is) (wipeR ρ is) where
  sub := R.sub
  ext := R.ext
  new := R.new
  old := R.old
  hrow := R.hrow
  hr2 := R.hr2
  tb := R.tb
  tbh := R.tbh
  len := by rw [wipe_length, wipeR_length]; exact R.len
  at_ := fun i s hs => by
    by_cases h : i ∈ is
    · rw [wipeR_in h hs]; exact .no
    · rw [wipeR_out h] at hs
      rw [wipe_out h]; exact R.at_ i s hs
  apart := fun i j a s t hij h1 h2 o1 o2 e1 e2 => by
    have n1 : i ∉ is := fun h => by rw [wipeR_in h h1] at o1; cases o1
    have n2 : j ∉ is := fun h => by rw [wipeR_in h h2] at o2; cases o2
    rw [wipeR_out n1] at h1
    rw [wipeR_out n2] at h2
    rw [wipe_out n1] at e1
    rw [wipe_out n2] at e2
    exact R.apart i j a s t hij h1 h2 o1 o2 e1 e2
theorem noOwn_at (h : noOwn ρ is = true) {i : Nat} {s : Sl} (hi : i ∈ is) (e : ρ[i]? = some s) : s.owns = false := by
  have q := List.all_eq_true.mp h i hi
  rw [e] at q
  simpa using q
/-- behind a block: what the block's own slots held is what they held ahead of it -/
theorem Rs.back (R : Rs K B F H σ ρ) (R2 : Rs K B F' H' σ2 ρ2) (e : Same F F') (no : noOwn ρ is = true) (hσ : ∀ j, j ∉ is → σ2[j]? = σ[j]?) (hρ : ∀ j, j ∉ is → ρ2[j]? = ρ[j]?) : Rs K B F' H' σ ρ where
  sub := R2.sub
  ext := R2.ext
  new := R2.new
  old := R2.old
  hrow := R2.hrow
  hr2 := R2.hr2
  tb := R2.tb
  tbh := R2.tbh
  len := R.len
  at_ := fun i s hs => by
    by_cases h : i ∈ is
    · have o := noOwn_at no h hs
      have q := R.at_ i s hs
      generalize σ[i]? = x at q
      cases q with
      | no => exact .no
      | v r => exact .v (r.same e)
      | ol f h0 h1 r => cases o
      | row f h0 h1 => cases o
      | od f h0 h1 => cases o
    · rw [← hσ i h]
      exact R2.at_ i s (by rw [hρ i h]; exact hs)
  apart := fun i j a s t hij h1 h2 o1 o2 e1 e2 => by
    have n1 : i ∉ is := fun h => by rw [noOwn_at no h h1] at o1; cases o1
    have n2 : j ∉ is := fun h => by rw [noOwn_at no h h2] at o2; cases o2
    exact R2.apart i j a s t hij (by rw [hρ i n1]; exact h1) (by rw [hρ j n2]; exact h2) o1 o2 (by rw [hσ i n1]; exact e1) (by rw [hσ j n2]; exact e2)
theorem wipe_eq (hl : σ2.length = σ.length) (h : ∀ j, j ∉ is → σ2[j]? = σ[j]?) : L2.wipe σ2 is = L2.wipe σ is := by
  apply List.ext_getElem?
  intro j
  by_cases hj : j ∈ is
  · have q : ∀ (τ : St) (vs : List Nat), j ∈ vs → (L2.wipe τ vs)[j]? = if j < τ.length then some none else none := fun τ vs => by
      induction vs with
      | nil => intro h; cases h
      | cons v vs ih =>
        intro hm
        unfold L2.wipe
        by_cases e : v = j
        · subst e
          rw [List.getElem?_set]
          simp [wipe_length]
        · rw [List.getElem?_set_ne e]
          rcases List.mem_cons.mp hm with z | z
          · exact absurd z.symm e
          · exact ih z
    rw [q σ2 is hj, q σ is hj, hl]
  · rw [wipe_out hj, wipe_out hj]; exact h j hj
end

abbrev Tg := D → Rho → Option Rho
/-- a target that stores into the slots is alone -/
def tG (K : Fg) (g : Tg) (is : List Nat) : TG := fun x σ H Q => ∃ B F ρ p ρ', Rs K B F H σ ρ ∧ Dp K F x p ∧ g p ρ = some ρ' ∧
  ∀ σ', Rs K B F H σ' ρ' → σ'.length = σ.length → (∀ j, j ∉ is → σ'[j]? = σ[j]?) → (∀ j, j ∉ is → ρ'[j]? = ρ[j]?) → Q σ' H
def GW (X : Cx) (tg : Expr) (g : Tg) (is : List Nat) : Prop := PG X tg (tG X.K g is)
def tgN (i : Nat) : Tg := fun p ρ => some (ρ.set i (.v p))
def tg2 (i j : Nat) : Tg := fun p ρ => match p with
  | .tuple [a, b] => some ((ρ.set i (.v a)).set j (.v b))
  | _ => none
section
variable {X : Cx} {pos : Pos}
theorem PG.imp {e : Expr} {t t' : TG} (h : PG X e t) (k : ∀ x σ H Q, t' x σ H Q → t x σ H Q) : PG X e t' := ⟨fun pins s σ H v u Q I r hw => h.run pins s σ H v u Q I r (k _ _ _ _ hw)⟩
theorem gw_name {i : Nat} {x : Str} (hN : X.N.Nodup) (hi : X.N[i]? = some x) (hx : Loc X.env.scope x) (hf : X.fn x = true ∨ X.env.scope.names.lookup x = some .local := by first | exact .inl rfl | exact .inr rfl | assumption) : GW X (.Name x pos) (tgN i) [i] :=
  PG.imp (pg_name hN hi hx hf) fun x σ H Q ⟨B, F, ρ, p, ρ', R, d, e, q⟩ => by
    cases e
    exact q _ (R.put (.v d) rfl) (List.length_set ..) (fun j hj => List.getElem?_set_ne (fun z => hj (by simp [z]))) fun j hj => List.getElem?_set_ne (fun z => hj (by simp [z]))
theorem gw_two {i j : Nat} {x y : Str} {p1 p2 : Pos} {k : Nat} (hc : X.calm = true) (hN : X.N.Nodup) (hi : X.N[i]? = some x) (hx : Loc X.env.scope x) (hj : X.N[j]? = some y) (hy : Loc X.env.scope y)
    (hf : X.fn x = true ∨ X.env.scope.names.lookup x = some .local := by first | exact .inl rfl | exact .inr rfl | assumption) (hf2 : X.fn y = true ∨ X.env.scope.names.lookup y = some .local := by first | exact .inl rfl | exact .inr rfl | assumption) : GW X (.Tuple [.Name x p1, .Name y p2] k pos) (tg2 i j) [i, j] :=
  PG.imp (pg_tup (n := 2) hc (pgs_cons (pg_name hN hi hx hf) (pgs_cons (pg_name hN hj hy hf2) pgs_nil))) fun v σ H Q ⟨B, F, ρ, p, ρ', R, d, e, q⟩ => by
    unfold tg2 at e
    split at e
    · cases e
      obtain ⟨a, xs, rfl, s, r⟩ := Dp.inv_tup d
      obtain ⟨u, us, rfl, d1, t⟩ := DpAll.uncons r
      obtain ⟨w, rfl, d2⟩ := dp1 t
      refine ⟨a, _, rfl, sqT_same R.sub s, rfl, u, _, rfl, w, _, rfl, rfl, ?_⟩
      refine q _ ((R.put (.v d1) rfl).put (.v d2) rfl) (by simp) (fun l hl => ?_) fun l hl => ?_
      · rw [List.getElem?_set_ne (fun z => hl (by simp [z])), List.getElem?_set_ne (fun z => hl (by simp [z]))]
      · rw [List.getElem?_set_ne (fun z => hl (by simp [z])), List.getElem?_set_ne (fun z => hl (by simp [z]))]
    · cases e
end

/-- what a turn brings: a frozen item, or a new pair of frozen items -/
def Yl (K : Fg) (F H H' : Hp) (x : V) (p : D) : Prop := (H' = H ∧ Dp K F x p) ∨
  ∃ T a b q1 q2, x = .ref T ∧ H T = none ∧ H' = upd H T (.tup [a, b]) ∧ p = .tuple [q1, q2] ∧ Dp K F a q1 ∧ Dp K F b q2
structure Wlk (K : Fg) (F : Hp) (J : It) (ps : List D) : Prop where
  go : ∀ i H, i < ps.length → Same F H → J.go i H
  stop : ∀ H, Same F H → J.stop ps.length H
  yld : ∀ i H x H', i < ps.length → Same F H → J.yld i H x H' → ∃ p, ps[i]? = some p ∧ Yl K F H H' x p
theorem yl_step {K : Fg} {B : Bs} {F F0 H H' : Hp} {σ : St} {ρ : Rho} {x : V} {p : D} (R : Rs K B F H σ ρ) (e : Same F0 F) (y : Yl K F0 H H' x p) : ∃ F1, Rs K B F1 H' σ ρ ∧ Same F F1 ∧ Dp K F1 x p := by
  rcases y with ⟨rfl, d⟩ | ⟨T, a, b, q1, q2, rfl, n, rfl, rfl, d1, d2⟩
  · exact ⟨F, R, Same.refl _, d.same e⟩
  · have n' := R.sub.free n
    exact ⟨_, R.grow n, same_upd n', .tup upd_same (.cons ((d1.same e).same (same_upd n')) (.cons ((d2.same e).same (same_upd n')) .nil))⟩
def tI (K : Fg) (T : TL) : TI := fun σ H R => ∃ B F ρ, Rs K B F H σ ρ ∧ T ρ (fun ps => ∀ F' H' J, Rs K B F' H' σ ρ → Same F F' → ps.length ≤ sizeLine → Wlk K F' J ps → R J H')
structure IW (X : Cx) (tg iter : Expr) (T : TL) : Prop where
  mono : ∀ ρ K K', (∀ p, K p → K' p) → T ρ K → T ρ K'
  pi : PI X tg iter (tI X.K T)
abbrev IF (X : Cx) (tg iter : Expr) (f : Rho → Option (List D)) : Prop := IW X tg iter (fW f)
theorem PI.imp {X : Cx} {tg e : Expr} {t t' : TI} (h : PI X tg e t) (k : ∀ σ H R, t' σ H R → t σ H R) : PI X tg e t' := ⟨fun pins s σ H Q I hw => h.run pins s σ H Q I (k _ _ _ hw)⟩
theorem IW.imp {X : Cx} {tg e : Expr} {T T' : TL} (h : IW X tg e T) (m : ∀ ρ K K', (∀ p, K p → K' p) → T' ρ K → T' ρ K') (k : ∀ ρ K, T' ρ K → T ρ K) : IW X tg e T' := ⟨m, PI.imp h.pi fun _ _ _ ⟨B, F, ρ, R, q⟩ => ⟨B, F, ρ, R, k _ _ q⟩⟩
section
variable {X : Cx} {tg : Expr}
def iSeq (K : Fg) (tl : TE) : TI := fun σ H R => tl σ H fun x H1 => ∃ a, x = .ref a ∧ (((∃ xs, SqL K H1 a xs) ∧ R (Itl K a) H1) ∨ ((∃ xs, SqT K H1 a xs) ∧ R (Itt K a) H1))
theorem pi_seq {l : Expr} {tl : TE} (hl : PE X l tl) : PI X tg l (iSeq X.K tl) := by
  refine ⟨fun pins s σ H R I h => ?_⟩
  refine thn (hl.run pins s σ H _ I h) fun v s1 ⟨x, H1, I1, r1, q1⟩ => ?_
  obtain ⟨a, e, q⟩ := q1
  subst e
  cases r1
  rcases q with ⟨⟨xs, hq⟩, q⟩ | ⟨⟨xs, hq⟩, q⟩
  · obtain ⟨its, rv, p, hz⟩ := I1.list hq
    refine wpAny_pyIter_list p.isList ?_
    refine ⟨s1.heap.objs.size, [s1.heap.objs.size], _, _, H1, rfl, I1.kept (t' := s1.toks) fun b o e => Heap.get?_push_of_some _ e, turn_list a _, ⟨_, Heap.get?_push_size _ rfl, rfl, rfl⟩, fun b hb => ?_, q⟩
    have e : b = s1.heap.objs.size := by simpa using hb
    subst e
    exact I1.fpOk (Nat.le_refl _) (I1.hok.fresh (Nat.le_refl _))
  · obtain ⟨its, rv, p, hz⟩ := I1.tuple hq
    refine wpAny_pyIter_tuple (show s1.heap.IsTuple a its.toArray from p) ?_
    refine ⟨s1.heap.objs.size, [s1.heap.objs.size], _, _, H1, rfl, I1.kept (t' := s1.toks) fun b o e => Heap.get?_push_of_some _ e, turn_tuple a _, ⟨_, Heap.get?_push_size _ rfl, rfl, rfl⟩, fun b hb => ?_, q⟩
    have e : b = s1.heap.objs.size := by simpa using hb
    subst e
    exact I1.fpOk (Nat.le_refl _) (I1.hok.fresh (Nat.le_refl _))
theorem wlk_list {K : Fg} {F : Hp} {a : Addr} {xs : List V} {ps : List D} (s : SqL K F a xs) (d : DpAll K F xs ps) : Wlk K F (Itl K a) ps where
  go := fun i H hi e => by
    have hl := d.length
    exact ⟨xs, xs[i], sqL_same e s, by simp⟩
  stop := fun H e => ⟨xs, sqL_same e s, by rw [d.length]; exact Nat.le_refl _⟩
  yld := fun i H x H' hi e ⟨y1, y2⟩ => by
    obtain ⟨p, hp, dp⟩ := d.getV (y2 xs (sqL_same e s))
    exact ⟨p, hp, .inl ⟨y1, dp⟩⟩
theorem wlk_tup {K : Fg} {F : Hp} {a : Addr} {xs : List V} {ps : List D} (s : SqT K F a xs) (d : DpAll K F xs ps) : Wlk K F (Itt K a) ps where
  go := fun i H hi e => by
    have hl := d.length
    exact ⟨xs, xs[i], sqT_same e s, by simp⟩
  stop := fun H e => ⟨xs, sqT_same e s, by rw [d.length]; exact Nat.le_refl _⟩
  yld := fun i H x H' hi e ⟨y1, y2⟩ => by
    obtain ⟨p, hp, dp⟩ := d.getV (y2 xs (sqT_same e s))
    exact ⟨p, hp, .inl ⟨y1, dp⟩⟩
def wItems (T : TW) : TL := fun ρ K => T ρ fun p => ∃ ps, items p = some ps ∧ K ps
def fItems (f : Rho → Option D) : Rho → Option (List D) := fun ρ => (f ρ).bind items
theorem iw_seq {e : Expr} {T : TW} (h : EW X e T) : IW X tg e (wItems T) :=
  ⟨fun ρ K K' i q => h.mono _ _ _ (fun p ⟨ps, e, k⟩ => ⟨ps, e, i ps k⟩) q, PI.imp (pi_seq (PE.lens h.pe)) fun σ H R ⟨B, F, ρ, R0, q⟩ => ⟨B, F, ρ, R0, h.mono _ _ _ (fun p ⟨ps, e, k⟩ F' H' v R' s' d hL => by
    unfold items at e
    split at e
    · cases e
      obtain ⟨a, xs, rfl, s, r⟩ := Dp.inv_lst d
      refine ⟨a, rfl, .inl ⟨⟨xs, sqL_same R'.sub s⟩, k F' H' _ R' s' ?_ (wlk_list s r)⟩⟩
      rw [← r.length]
      exact hL a xs (.inl (sqL_same R'.sub s))
    · cases e
      obtain ⟨a, xs, rfl, s, r⟩ := Dp.inv_tup d
      refine ⟨a, rfl, .inr ⟨⟨xs, sqT_same R'.sub s⟩, k F' H' _ R' s' ?_ (wlk_tup s r)⟩⟩
      rw [← r.length]
      exact hL a xs (.inr (sqT_same R'.sub s))
    · cases e) q⟩⟩
theorem if_seq {e : Expr} {f : Rho → Option D} (h : EF X e f) : IF X tg e (fItems f) := (iw_seq h).imp fW_mono fun ρ K ⟨ps, e, k⟩ => by
  obtain ⟨p, e1, e2⟩ := Option.bind_eq_some_iff.mp e
  exact ⟨p, e1, ps, e2, k⟩
/-- lo, lo + 1, .. -/
def rngD (lo : Int) (n : Nat) : List D := (List.range n).map fun i => PyData.int (lo + (i : Nat))
theorem rngD_length (lo : Int) (n : Nat) : (rngD lo n).length = n := by unfold rngD; rw [List.length_map, List.length_range]
def gRng1 : List D → Option (List D)
  | [.int j] => if j ≤ 16777216 ∧ -4611686018427387904 ≤ j then some (rngD 0 j.toNat) else none
  | _ => none
def gRng2 : List D → Option (List D)
  | [.int i, .int j] => if (-4611686018427387904 ≤ i ∧ i < 4611686018427387904 ∧ -4611686018427387904 ≤ j ∧ j < 4611686018427387904) ∧ j - i ≤ 16777216 then some (rngD i (j - i).toNat) else none
  | _ => none
theorem wlk_rng {K : Fg} {F : Hp} {lo : Int} {n : Nat} : Wlk K F (Itr lo n) (rngD lo n) where
  go := fun i H hi e => by rw [rngD_length] at hi; exact hi
  stop := fun H e => by rw [rngD_length]; exact Nat.le_refl _
  yld := fun i H x H' hi e ⟨y1, y2⟩ => by
    rw [rngD_length] at hi
    refine ⟨.int (lo + (i : Nat)), ?_, .inl ⟨y1, by rw [y2]; exact .int _⟩⟩
    unfold rngD
    rw [List.getElem?_map, List.getElem?_range hi]
    rfl
theorem iw_rng1 {a : Expr} {T : TL} {p pos : Pos} (hg : Gl X "range") (hm : X.mg "range" = none) (ha : XA X [a] T) (hs : starEach [a] X.env = [(false, eval a X.env)] := by rfl) : IW X tg (.Call (.Name "range" p) [a] [] pos) (wOf gRng1 T) :=
  ⟨wOf_mono ha.mono, PI.imp (pi_range1 hg hm ha.pa hs) fun σ H R ⟨B, F, ρ, R0, q⟩ => ⟨B, F, ρ, R0, ha.mono _ _ _ (fun ps ⟨zs, e, k⟩ F' H' vs R' s' d => by
    unfold gRng1 at e
    split at e
    · split at e
      · rename_i hj
        cases e
        obtain ⟨v, rfl, h⟩ := dp1 (d.dp R')
        refine ⟨_, by rw [Dp.inv_int h], by have := hj.2; omega, by have := hj.1; omega, k F' H' _ R' s' ?_ wlk_rng⟩
        rw [rngD_length, sizeLine_eq]; omega
      · cases e
    · cases e) q⟩⟩
theorem iw_rng2 {a b : Expr} {T : TL} {p pos : Pos} (hg : Gl X "range") (hm : X.mg "range" = none) (ha : XA X [a, b] T) (hs : starEach [a, b] X.env = [(false, eval a X.env), (false, eval b X.env)] := by rfl) (hs2 : starEach [b] X.env = [(false, eval b X.env)] := by rfl) : IW X tg (.Call (.Name "range" p) [a, b] [] pos) (wOf gRng2 T) :=
  ⟨wOf_mono ha.mono, PI.imp (pi_range2 hg hm ha.pa hs hs2) fun σ H R ⟨B, F, ρ, R0, q⟩ => ⟨B, F, ρ, R0, ha.mono _ _ _ (fun ps ⟨zs, e, k⟩ F' H' vs R' s' d => by
    unfold gRng2 at e
    split at e
    · split at e
      · rename_i hj
        cases e
        obtain ⟨v, u, rfl, h1, h2⟩ := dp2 (d.dp R')
        refine ⟨_, _, by rw [Dp.inv_int h1, Dp.inv_int h2], ?_, k F' H' _ R' s' ?_ wlk_rng⟩
        · obtain ⟨⟨a1, a2, a3, a4⟩, _⟩ := hj
          exact ⟨by omega, by omega, by omega, by omega⟩
        · rw [rngD_length, sizeLine_eq]; omega
      · cases e
    · cases e) q⟩⟩
theorem if_rng1 {a : Expr} {f : Rho → Option (List D)} {p pos : Pos} (hg : Gl X "range") (hm : X.mg "range" = none) (ha : XAF X [a] f) (hs : starEach [a] X.env = [(false, eval a X.env)] := by rfl) : IF X tg (.Call (.Name "range" p) [a] [] pos) (aOf gRng1 f) :=
  (iw_rng1 hg hm ha hs).imp fW_mono aOf_w
theorem if_rng2 {a b : Expr} {f : Rho → Option (List D)} {p pos : Pos} (hg : Gl X "range") (hm : X.mg "range" = none) (ha : XAF X [a, b] f) (hs : starEach [a, b] X.env = [(false, eval a X.env), (false, eval b X.env)] := by rfl) (hs2 : starEach [b] X.env = [(false, eval b X.env)] := by rfl) : IF X tg (.Call (.Name "range" p) [a, b] [] pos) (aOf gRng2 f) :=
  (iw_rng2 hg hm ha hs hs2).imp fW_mono aOf_w
end
end L2.P


set_option Elab.async false
set_option linter.all false
set_option maxRecDepth 100000
set_option maxHeartbeats 4000000
namespace L2.P
open PySem PySem.Spec PyProof.Rows L2
def minusH (H : Hp) (a : Addr) : Hp := fun b => if b = a then none else H b
theorem minusH_same (H : Hp) (a : Addr) : minusH H a a = none := by unfold minusH; rw [if_pos rfl]
theorem minusH_ne {H : Hp} {a b : Addr} (h : b ≠ a) : minusH H a b = H b := by unfold minusH; rw [if_neg h]
theorem upd_minus {H : Hp} {a : Addr} {o : HO} (h : H a = some o) : upd (minusH H a) a o = H := by
  funext b
  by_cases e : b = a
  · subst e; rw [upd_same, h]
  · rw [upd_ne e, minusH_ne e]
section
variable {K : Fg} {B : Bs} {F F' H H' : Hp} {σ σ' : St} {ρ ρ' : Rho} {a : Addr} {o : HO}
/-- what is pinned is taken away -/
theorem Rs.minus (R : Rs K (B.pin a o) F H σ ρ) (hr : B.r ≠ some a) (hF : B.Fa a = none) (hH : B.Ha a = none) (nt : ∀ xs, o ≠ HO.tup xs := by intro _ h; cases h) (nb : ¬ isTE o := by exact not_te rfl) : Rs K B F (minusH H a) σ ρ := by
  obtain ⟨p1, p2⟩ := R.pinned hr hF nt nb
  have U := R.unpin hr hF hH nb
  have far : ∀ c, (B.pin a o).Ha c = none ∨ B.r = some c → c ≠ a := fun c h e => by
    subst e
    rcases h with h | h
    · have z : (upd B.Ha c o) c = none := h
      rw [upd_same] at z; cases z
    · exact hr h
  refine ⟨fun b x e => ?_, U.ext, U.new, fun b x hb e => ?_, fun r h => ?_, U.hr2, U.len, fun i s hs => ?_, U.apart, ⟨U.tb.1, tabs_ext U.tb.2.1 fun b x e t => ?_, U.tb.2.2⟩, U.tbh⟩
  rotate_right
  · have ne : b ≠ a := fun z => by
      rw [z, p1] at e
      exact nb (by rw [Option.some.inj e]; exact t)
    rw [minusH_ne ne]; exact e
  · have ne : b ≠ a := fun q => by subst q; rw [p2] at e; cases e
    rw [minusH_ne ne]; exact U.sub b x e
  · have ne : b ≠ a := fun q => by subst q; rw [hH] at e; cases e
    rw [minusH_ne ne]; exact U.old b x hb e
  · obtain ⟨h1, h2⟩ := U.hrow r h
    have ne : r ≠ a := fun e => by subst e; exact hr h
    exact ⟨h1, h2.mono (Same.refl _) fun x e => by rw [minusH_ne ne]; exact e⟩
  · have q := R.at_ i s hs
    have q2 := U.at_ i s hs
    generalize σ[i]? = x at q q2
    cases q with
    | no => exact .no
    | v r => exact .v r
    | @ol c xs ps f h0 h1 r =>
      have ne := far c (.inl h0)
      cases q2 with
      | ol f' g0 g1 r' => exact .ol f g0 (by rw [minusH_ne ne]; exact h1) r
    | @row c _ f h0 h1 =>
      have ne := far c (h0.imp id And.left)
      cases q2 with
      | row f' g0 g1 => exact .row f g0 (h1.mono (Same.refl _) fun x e => by rw [minusH_ne ne]; exact e)
    | @od t c kvs f h0 h1 =>
      have ne := far c (.inl h0)
      cases q2 with
      | od f' g0 g1 => exact .od f g0 (h1.mono (Same.refl _) fun x e => by rw [minusH_ne ne]; exact e)
end

/-- over the items: the list that has come so far, what is wanted of the whole -/
def lcW (is : List Nat) (g : Tg) (T : TB) (E : TW) (ρ : Rho) : List D → List D → (List D → Prop) → Prop
  | [], acc, K => K acc
  | p :: ps, acc, K => ∃ ρ', g p (wipeR ρ is) = some ρ' ∧ T ρ' (fun b => if b = true then E ρ' (fun y => acc.length < sizeLine ∧ lcW is g T E ρ ps (acc ++ [y]) K) else lcW is g T E ρ ps acc K)
/-- .. where it can't get too long -/
def lcV (is : List Nat) (g : Tg) (T : TB) (E : TW) (ρ : Rho) : List D → List D → (List D → Prop) → Prop
  | [], acc, K => K acc
  | p :: ps, acc, K => ∃ ρ', g p (wipeR ρ is) = some ρ' ∧ T ρ' (fun b => if b = true then E ρ' (fun y => lcV is g T E ρ ps (acc ++ [y]) K) else lcV is g T E ρ ps acc K)
section
variable {is : List Nat} {g : Tg} {T : TB} {E : TW} {ρ : Rho}
theorem lcV_mono (mt : ∀ ρ K K', (∀ p, K p → K' p) → T ρ K → T ρ K') (me : ∀ ρ K K', (∀ p, K p → K' p) → E ρ K → E ρ K') : ∀ (ps acc : List D) (K K' : List D → Prop), (∀ p, K p → K' p) → lcV is g T E ρ ps acc K → lcV is g T E ρ ps acc K'
  | [], _, _, _, h, q => h _ q
  | p :: ps, acc, K, K', h, ⟨ρ', e, q⟩ => ⟨ρ', e, mt _ _ _ (fun b k => by
      cases b with
      | true => exact me _ _ _ (fun y k2 => lcV_mono mt me ps _ K K' h k2) k
      | false => exact lcV_mono mt me ps _ K K' h k) q⟩
theorem lcV_W (mt : ∀ ρ K K', (∀ p, K p → K' p) → T ρ K → T ρ K') (me : ∀ ρ K K', (∀ p, K p → K' p) → E ρ K → E ρ K') : ∀ (ps acc : List D) (K : List D → Prop), acc.length + ps.length ≤ sizeLine → lcV is g T E ρ ps acc K → lcW is g T E ρ ps acc K
  | [], _, _, _, q => q
  | p :: ps, acc, K, h, ⟨ρ', e, q⟩ => ⟨ρ', e, mt _ _ _ (fun b k => by
      rw [List.length_cons] at h
      cases b with
      | true => exact me _ _ _ (fun y k2 => ⟨by omega, lcV_W mt me ps _ K (by rw [List.length_append, List.length_singleton]; omega) k2⟩) k
      | false => exact lcV_W mt me ps _ K (by omega) k) q⟩
end

section
variable {X : Cx}
/-- the tests of a clause -/
structure TsW (X : Cx) (ifs : List Expr) (T : TB) : Prop where
  mono : ∀ ρ K K', (∀ p, K p → K' p) → T ρ K → T ρ K'
  pts : PTs X ifs (tT X.K T)
theorem PTs.imp {ifs : List Expr} {t t' : TT} (h : PTs X ifs t) (k : ∀ σ H Q, t' σ H Q → t σ H Q) : PTs X ifs t' := ⟨fun pins s σ H Q I hw => h.run pins s σ H Q I (k _ _ _ hw)⟩
def fYes : Rho → Option Bool := fun _ => some true
theorem ts_nil : TsW X [] (fW fYes) := ⟨fW_mono, PTs.imp pts_nil fun σ H Q ⟨B, F, ρ, R, p, e, q⟩ => by cases e; exact q F H R (Same.refl _)⟩
theorem ts_one {c : Expr} {T : TB} (h : TWT X c T) : TsW X [c] T := ⟨h.mono, pts_one h.pt⟩

/-- what the turns of one clause keep -/
def LcInv (K : Fg) (B : Bs) (F1 : Hp) (D : Addr) (σ : St) (ρ : Rho) (P : List PyData → Prop) (H : Hp) : Prop :=
  ∃ F acc ad, Rs K (B.pin D (.lst acc)) F H σ ρ ∧ Same F1 F ∧ DpAll K F acc ad ∧ P ad
/-- one clause's walk, from what it keeps to what is wanted -/
theorem lc_walk {K : Fg} {is : List Nat} {g : Tg} {T : TB} {E : TW} {B : Bs} {F1 : Hp} {D : Addr} {σ : St} {ρ : Rho} {ps : List PyData} {Kc : List PyData → Prop} {J : It} {Qd : Hp → Prop} {H1 : Hp} {ad : List PyData}
    (mt : ∀ ρ K K', (∀ p, K p → K' p) → T ρ K → T ρ K') (me : ∀ ρ K K', (∀ p, K p → K' p) → E ρ K → E ρ K') (hr : B.r ≠ some D) (hF : B.Fa D = none) (no : noOwn ρ is = true) (wk : Wlk K F1 J ps)
    (h : LcInv K B F1 D σ ρ (fun ad => lcW is g T E ρ ps ad Kc) H1) (hd : ∀ H, LcInv K B F1 D σ ρ Kc H → Qd H) :
    ∃ W : Nat → Nat → Hp → Prop, (∃ m, W 0 m H1) ∧ ∀ i m H, W i m H →
      (J.stop i H ∧ Qd H) ∨ (J.go i H ∧ ∃ Nx : Hp → Prop, (∀ H', Nx H' → ∃ m', m' < m ∧ W (i + 1) m' H') ∧ ∀ x H', J.yld i H x H' → tG K g is x (L2.wipe σ is) H' fun σ2 H2 => L2.wipe σ2 is = L2.wipe σ is ∧ tT K T σ2 H2 fun b H3 =>
        if b = true then tW K E σ2 H3 fun y H4 => ∃ acc, H4 D = some (.lst acc) ∧ acc.length < sizeLine ∧ Nx (upd H4 D (.lst (acc ++ [y]))) else Nx H3) := by
  refine ⟨fun i m H => m = ps.length - i ∧ i ≤ ps.length ∧ LcInv K B F1 D σ ρ (fun ad => lcW is g T E ρ (ps.drop i) ad Kc) H, ⟨ps.length, by simp, Nat.zero_le _, h⟩, ?_⟩
  rintro i m H ⟨rfl, hi, F, acc, ad, R, s, d, q⟩
  have sH : Same F1 H := s.trans R.sub
  by_cases hlt : i < ps.length
  · refine .inr ⟨wk.go i H hlt sH, fun H' => LcInv K B F1 D σ ρ (fun ad => lcW is g T E ρ (ps.drop (i + 1)) ad Kc) H', fun H' n => ⟨ps.length - (i + 1), by omega, rfl, hlt, n⟩, fun x H' hy => ?_⟩
    obtain ⟨p, hp, y⟩ := wk.yld i H x H' hlt sH hy
    have e0 : ps.drop i = p :: ps.drop (i + 1) := by
      rw [List.drop_eq_getElem_cons hlt]
      obtain ⟨_, e⟩ := List.getElem?_eq_some_iff.mp hp
      rw [e]
    rw [e0] at q
    obtain ⟨ρ', eg, q⟩ := q
    obtain ⟨F2, R2, s2, d2⟩ := yl_step (R.wipe is) s y
    refine ⟨_, F2, _, p, ρ', R2, d2, eg, fun σ' R3 hl hσ hρ => ⟨?_, ?_⟩⟩
    · have := wipe_eq (is := is) hl hσ
      rw [this]
      exact wipe_eq (wipe_length _ _) fun j hj => wipe_out hj
    · have hσ' : ∀ j, j ∉ is → σ'[j]? = σ[j]? := fun j hj => (hσ j hj).trans (wipe_out hj)
      have hρ' : ∀ j, j ∉ is → ρ'[j]? = ρ[j]? := fun j hj => (hρ j hj).trans (wipeR_out hj)
      refine ⟨_, F2, ρ', R3, mt _ _ _ (fun b k F3 H3 R4 s4 => ?_) q⟩
      cases b with
      | false => exact ⟨F3, acc, ad, R.back R4 (s2.trans s4) no hσ' hρ', (s.trans s2).trans s4, (d.same s2).same s4, k⟩
      | true =>
        refine ⟨_, F3, ρ', R4, me _ _ _ (fun z k2 F4 H4 v R5 s5 d5 => ?_) k⟩
        have s25 : Same F F4 := (s2.trans s4).trans s5
        have hacc : acc.length = ad.length := d.length
        refine ⟨acc, (R5.pinned hr hF).1, by rw [hacc]; exact k2.1, F4, acc ++ [v], ad ++ [z], (R.back R5 s25 no hσ' hρ').repin hr hF _, s.trans s25, (d.same s25).append (.cons d5 .nil), k2.2⟩
  · have e : i = ps.length := by omega
    subst e
    refine .inl ⟨wk.stop H sH, hd H ⟨F, acc, ad, R, s, d, ?_⟩⟩
    rw [List.drop_length] at q
    exact q

variable {elt tg iter tg1 iter1 : Expr} {ifs ifs1 : List Expr} {scope : Scope} {own : List (Str × Nat)} {vs1 : List Nat} {pos : Pos} {U U1 : TL} {g g1 : Tg} {T T1 : TB} {E : TW}
def wLc (is : List Nat) (g : Tg) (T : TB) (E : TW) (U : TL) : TL := fun ρ K => noOwn ρ is = true ∧ U ρ fun ps => lcV is g T E ρ ps [] K
theorem wLc_mono {is : List Nat} (mu : ∀ ρ K K', (∀ p, K p → K' p) → U ρ K → U ρ K') (mt : ∀ ρ K K', (∀ p, K p → K' p) → T ρ K → T ρ K') (me : ∀ ρ K K', (∀ p, K p → K' p) → E ρ K → E ρ K') :
    ∀ ρ K K', (∀ p, K p → K' p) → wLc is g T E U ρ K → wLc is g T E U ρ K' := fun ρ K K' h ⟨n, q⟩ => ⟨n, mu _ _ _ (fun ps k => lcV_mono mt me ps _ K K' h k) q⟩
theorem lc_conv {K : Fg} {is : List Nat} (mu : ∀ ρ K K', (∀ p, K p → K' p) → U ρ K → U ρ K') (mt : ∀ ρ K K', (∀ p, K p → K' p) → T ρ K → T ρ K') (me : ∀ ρ K K', (∀ p, K p → K' p) → E ρ K → E ρ K')
    {σ : St} {H : Hp} {Q : VK} (h : tN K (wLc is g T E U) σ H Q) : tLc (tI K U) (tG K g is) (tT K T) (tW K E) is σ H Q := by
  obtain ⟨B, F, ρ, R, no, q⟩ := h
  refine ⟨B, F, ρ, R, mu _ _ _ (fun ps k F1 H1 J R1 s1 hz wk D hD => ?_) q⟩
  obtain ⟨p1, p2, p3⟩ := R1.fresh hD
  have hF : B.Fa D = none := R1.ext.free p2
  refine lc_walk (Kc := fun ps => ∀ F' H' a xs, Rs K B F' H' σ ρ → Same F F' → H' a = none → DpAll K F' xs ps → Q (.ref a) (upd H' a (.lst xs))) (ad := []) mt me p3 hF no wk
    ⟨F1, [], [], R1.pin hD _, Same.refl _, .nil, lcV_W mt me ps [] _ (by simpa using hz) k⟩ fun H2 ⟨F2, acc, ad, R2, s2, d2, k2⟩ => ?_
  have e := upd_minus (R2.pinned p3 hF).1
  rw [← e]
  exact k2 F2 _ D acc (R2.minus p3 hF p1) (s1.trans s2) (minusH_same _ _) d2
theorem nw_lc (hc : X.calm = true) (hN : X.N.Nodup) (hi : IW X tg iter U) (ok : BlkOk X.N X.env.scope scope own)
    (hg : ∀ (s : Shared) (H : Hp) (C : Addr) (cl : List (Str × Addr)) (fp : List Addr), GW (X.blk s H scope (compEnvC scope cl C X.env) fp) tg g (own.map (·.2)))
    (ht : ∀ (s : Shared) (H : Hp) (C : Addr) (cl : List (Str × Addr)) (fp : List Addr), TsW (X.blk s H scope (compEnvC scope cl C X.env) fp) ifs T)
    (he : ∀ (s : Shared) (H : Hp) (C : Addr) (cl : List (Str × Addr)) (fp : List Addr), EW (X.blk s H scope (compEnvC scope cl C X.env) fp) elt E)
    (s0 : Shared) (hs : ∀ x, foldedSetIterable iter X.env x = pure x := by intro _; rfl) : NW X (.ListComp elt [⟨tg, iter, ifs, 0⟩] scope pos) (wLc (own.map (·.2)) g T E U) := by
  have mt := (ht s0 (fun _ => none) 0 [] []).mono
  have me := (he s0 (fun _ => none) 0 [] []).mono
  exact ⟨wLc_mono hi.mono mt me, (pe_lc (g := tG X.K g (List.map (fun (z : Str × Nat) => z.2) own)) (tt := tT X.K T) (te := tW X.K E) hc hN hi.pi ok hg (fun s H C cl fp => (ht s H C cl fp).pts) (fun s H C cl fp => (he s H C cl fp).pe) hs).imp fun σ H Q h => lc_conv hi.mono mt me h⟩
/-- name = a new list -/
structure NS (X : Cx) (st : Stmt) (i : Nat) (T : TL) : Prop where
  mono : ∀ ρ K K', (∀ p, K p → K' p) → T ρ K → T ρ K'
  ps : PS X st (tAsg (tN X.K T) (gName i))
theorem tAsg_imp {t t' : TE} {g : TG} (k : ∀ σ H Q, t' σ H Q → t σ H Q) (D : Ends) (σ : St) (H : Hp) (h : tAsg t' g D σ H) : tAsg t g D σ H := k _ _ _ h
end

def lcF (is : List Nat) (g : Tg) (t : Rho → Option Bool) (f : Rho → Option D) (ρ : Rho) : List D → Option (List D)
  | [] => some []
  | p :: ps => (g p (wipeR ρ is)).bind fun ρ' => (t ρ').bind fun b => if b = true then (f ρ').bind fun y => (lcF is g t f ρ ps).map fun ys => y :: ys else lcF is g t f ρ ps
theorem lcF_V {is : List Nat} {g : Tg} {t : Rho → Option Bool} {f : Rho → Option D} {ρ : Rho} : ∀ (ps acc out : List D) (K : List D → Prop), lcF is g t f ρ ps = some out → K (acc ++ out) → lcV is g (fW t) (fW f) ρ ps acc K
  | [], acc, out, K, e, k => by
    cases e
    rw [List.append_nil] at k
    exact k
  | p :: ps, acc, out, K, e, k => by
    unfold lcF at e
    obtain ⟨ρ', e1, e⟩ := Option.bind_eq_some_iff.mp e
    obtain ⟨b, e2, e⟩ := Option.bind_eq_some_iff.mp e
    refine ⟨ρ', e1, b, e2, ?_⟩
    cases b with
    | true =>
      obtain ⟨y, e3, e⟩ := Option.bind_eq_some_iff.mp e
      obtain ⟨ys, e4, rfl⟩ := Option.map_eq_some_iff.mp e
      exact ⟨y, e3, lcF_V ps _ ys K e4 (by rw [List.append_assoc]; exact k)⟩
    | false => exact lcF_V ps _ out K e k
def cLc (is : List Nat) (g : Tg) (t : Rho → Option Bool) (f : Rho → Option D) (u : Rho → Option (List D)) : Rho → Option (List D) := fun ρ => if noOwn ρ is = true then (u ρ).bind fun ps => lcF is g t f ρ ps else none
theorem cLc_w {is : List Nat} {g : Tg} {t : Rho → Option Bool} {f : Rho → Option D} {u : Rho → Option (List D)} (ρ : Rho) (K : List D → Prop) (h : fW (cLc is g t f u) ρ K) : wLc is g (fW t) (fW f) (fW u) ρ K := by
  obtain ⟨out, e, k⟩ := h
  unfold cLc at e
  split at e
  · rename_i no
    obtain ⟨ps, e1, e2⟩ := Option.bind_eq_some_iff.mp e
    exact ⟨no, ps, e1, lcF_V ps [] out K e2 k⟩
  · cases e
theorem NW.lc {X : Cx} {e : Expr} {is : List Nat} {g : Tg} {t : Rho → Option Bool} {f : Rho → Option D} {u : Rho → Option (List D)} (h : NW X e (wLc is g (fW t) (fW f) (fW u))) : NF X e (cLc is g t f u) := h.imp fW_mono cLc_w

end L2.P


set_option Elab.async false
set_option linter.all false
set_option maxRecDepth 100000
set_option maxHeartbeats 4000000
namespace L2.P
open PySem PySem.Spec PyProof.Rows L2

/-- the argument lists have so many items -/
def LenA (f : Rho → Option (List D)) (n : Nat) : Prop := ∀ ρ xs, f ρ = some xs → xs.length = n
theorem lenA_nil : LenA aNil 0 := fun _ _ e => by cases e; rfl
theorem lenA_cons {f : Rho → Option D} {g : Rho → Option (List D)} {n : Nat} (h : LenA g n) : LenA (aCons f g) (n + 1) := fun ρ xs e => by
  obtain ⟨x, e1, e⟩ := Option.bind_eq_some_iff.mp e
  obtain ⟨ys, e2, rfl⟩ := Option.map_eq_some_iff.mp e
  rw [List.length_cons, h ρ ys e2]
def LenW (T : TL) (n : Nat) : Prop := ∀ ρ K, T ρ K → T ρ fun ps => ps.length = n ∧ K ps
theorem lenW_nil : LenW wNil 0 := fun _ _ k => ⟨rfl, k⟩
theorem lenW_cons {X : Cx} {e : Expr} {T : TW} {U : TL} {n : Nat} (m : EW X e T) (h : LenW U n) (mu : ∀ ρ K K', (∀ p, K p → K' p) → U ρ K → U ρ K') : LenW (wCons T U) (n + 1) := fun ρ K q =>
  m.mono _ _ _ (fun x k => mu _ _ _ (fun xs (z : xs.length = n ∧ K (x :: xs)) => ⟨by rw [List.length_cons, z.1], z.2⟩) (h _ _ k)) q
def vTup (f : Rho → Option (List D)) : Rho → Option D := fun ρ => (f ρ).map PyData.tuple
section
variable {X : Cx} {e a b : Expr} {es : List Expr} {pos : Pos}
theorem ew_tup {T : TL} {x1} {n : Nat} (h : EA X es T) (hl : LenW T n) (hn : n ≤ 1000 := by decide) : EW X (.Tuple es x1 pos) (fun ρ K => T ρ fun ps => K (.tuple ps)) :=
  ⟨fun ρ K K' i q => h.mono _ _ _ (fun ps => i _) q, (pe_tup h.pa).imp fun σ H Q ⟨B, F, ρ, R, q⟩ => ⟨B, F, ρ, R, h.mono _ _ _ (fun ps k F1 H1 vs R1 s1 d1 => by
    refine ⟨?_, fun p hp => ?_⟩
    · rw [d1.length, k.1, sizeLine_eq]; omega
    · have n' := R1.sub.free hp
      exact k.2 _ _ _ (R1.grow hp) (s1.trans (same_upd n')) (.tup upd_same (d1.same (same_upd n')))) (hl _ _ q)⟩⟩
theorem ef_tup {f : Rho → Option (List D)} {x1} {n : Nat} (h : EAF X es f) (hl : LenA f n) (hn : n ≤ 1000 := by decide) : EF X (.Tuple es x1 pos) (vTup f) :=
  (ew_tup h (fun ρ K ⟨p, e, k⟩ => ⟨p, e, hl _ _ e, k⟩) hn).imp fW_mono fun ρ K ⟨p, e, k⟩ => by
    obtain ⟨ps, e1, rfl⟩ := Option.map_eq_some_iff.mp e
    exact ⟨ps, e1, k⟩
theorem nw_lst {T : TL} {n : Nat} (h : EA X es T) (hl : LenW T n) (hn : n ≤ 1000 := by decide) : NW X (.List es pos) T :=
  ⟨h.mono, (pe_lst h.pa).imp fun σ H Q ⟨B, F, ρ, R, q⟩ => ⟨B, F, ρ, R, h.mono _ _ _ (fun ps k F1 H1 vs R1 s1 d1 => by
    refine ⟨?_, fun p hp => k.2 F1 H1 p vs R1 s1 hp d1⟩
    rw [d1.length, k.1, sizeLine_eq]; omega) (hl _ _ q)⟩⟩
theorem nf_lst {f : Rho → Option (List D)} {n : Nat} (h : EAF X es f) (hl : LenA f n) (hn : n ≤ 1000 := by decide) : NF X (.List es pos) f := nw_lst h (fun ρ K ⟨p, e, k⟩ => ⟨p, e, hl _ _ e, k⟩) hn

def dIx : G2
  | .list xs, .int i => atI xs i
  | .tuple xs, .int i => atI xs i
  | .str z, .int i => if z.length ≤ sizeLine then (atI z.cps.toList i).map fun c => .str ⟨#[c]⟩ else none
  | _, _ => none
theorem atI_len {α β : Type} {xs : List α} {ys : List β} (h : xs.length = ys.length) {i : Int} {y : β} (e : atI ys i = some y) : ∃ j : Nat, ys[j]? = some y ∧ ∀ x, xs[j]? = some x → atI xs i = some x := by
  unfold atI at e ⊢
  obtain ⟨j, e1, e2⟩ := Option.bind_eq_some_iff.mp e
  refine ⟨j, e2, fun x hx => ?_⟩
  rw [h, e1]
  exact hx
theorem ix_ok {K : Fg} {B : Bs} {F H : Hp} {σ : St} {ρ : Rho} {x y : V} {p q z : D} {Q : VK} (R : Rs K B F H σ ρ) (hx : Pk K F σ ρ x p) (hy : Dp K H y q) (e : dIx p q = some z) (k : ∀ v, Dp K F v z → Q v H) : rIx K x y H Q := by
  unfold dIx at e
  split at e
  · obtain ⟨a, xs, rfl, r, h⟩ := pk_items R hx rfl
    obtain ⟨j, e1, e2⟩ := atI_len r.length e
    obtain ⟨v, hv, d⟩ := r.get e1
    rcases h with ⟨_, h⟩ | ⟨h, _⟩
    · exact .inl ⟨a, xs, _, v, rfl, Dp.inv_int hy, h, e2 v hv, k v d⟩
    · cases h
  · obtain ⟨a, xs, rfl, r, h⟩ := pk_items R hx rfl
    obtain ⟨j, e1, e2⟩ := atI_len r.length e
    obtain ⟨v, hv, d⟩ := r.get e1
    rcases h with ⟨h, _⟩ | ⟨_, h⟩
    · cases h
    · exact .inr (.inl ⟨a, xs, _, v, rfl, Dp.inv_int hy, sqT_same R.sub h, e2 v hv, k v d⟩)
  · split at e
    · rename_i hz
      obtain ⟨c, e1, rfl⟩ := Option.map_eq_some_iff.mp e
      exact .inr (.inr ⟨_, _, c, Dp.inv_str (hx.dp (Same.refl _) R), Dp.inv_int hy, hz, e1, k _ (.str _)⟩)
    · cases e
  · cases e
theorem ew_ix {T1 T2 : TW} (ha : XW X a T1) (hb : XW X b T2) (hs : PlainIx b := by intro _ _; rfl) : EW X (.Subscript a b pos) (w2 dIx T1 T2) :=
  ⟨w2_mono ha.mono hb.mono, (pe_ix ix_seq ha.pe hb.pe hs).imp fun σ H Q ⟨B, F, ρ, R, q⟩ => by
    refine ⟨B, F, ρ, R, ha.mono _ _ _ (fun x qx F1 H1 v1 R1 e1 d1 => ?_) q⟩
    refine ⟨B, F1, ρ, R1, hb.mono _ _ _ (fun y ⟨z, ez, qz⟩ F2 H2 v2 R2 e2 d2 => ?_) qx⟩
    exact ix_ok R2 (d1.mono e2) (d2.dp (Same.refl _) R2) ez fun v d => qz F2 H2 v R2 (e1.trans e2) d⟩
theorem ef_ix {f1 f2 : Rho → Option D} (ha : XF X a f1) (hb : XF X b f2) (hs : PlainIx b := by intro _ _; rfl) : EF X (.Subscript a b pos) (b2 dIx f1 f2) := (ew_ix ha hb hs).imp fW_mono b2_w
def dNeg : D → Option D
  | .int i => some (.int (-i))
  | _ => none
def vNeg (f : Rho → Option D) : Rho → Option D := fun ρ => (f ρ).bind dNeg
theorem ef_neg {f : Rho → Option D} (h : EF X a f) : EF X (.UnaryOp .USub a pos) (vNeg f) :=
  ⟨fW_mono, (pe_un un_neg h.pe).imp fun σ H Q ⟨B, F, ρ, R, p, e, q⟩ => by
    obtain ⟨x, e1, e2⟩ := Option.bind_eq_some_iff.mp e
    unfold dNeg at e2
    split at e2
    · cases e2
      exact ⟨B, F, ρ, R, _, e1, fun F' H' v R' e' d => ⟨_, Dp.inv_int d, q F' H' _ R' e' (.int _)⟩⟩
    · cases e2⟩
def dAdd : G2
  | .int i, .int j => some (.int (i + j))
  | .list xs, .list ys => if xs.length + ys.length ≤ sizeLine then some (.list (xs ++ ys)) else none
  | .tuple xs, .tuple ys => if xs.length + ys.length ≤ sizeLine then some (.tuple (xs ++ ys)) else none
  | .str x, .str y => if x.length + y.length ≤ sizeLine then some (.str (x ++ y)) else none
  | _, _ => none
theorem OpR.or {f : Value → Value → Sem Value} {r r' : R2} (h : OpR X f r) (h' : OpR X f r') : OpR X f (fun x y H Q => r x y H Q ∨ r' x y H Q) := by
  intro pins s σ H x y v u Q I rx ry q
  rcases q with q | q
  · exact h pins s σ H x y v u Q I rx ry q
  · exact h' pins s σ H x y v u Q I rx ry q
theorem og_add : OpG X (binaryOp .Add) dAdd := ⟨_, OpR.or op_add (OpR.or or_catL (OpR.or op_catA op_add_str)), fun B F H σ ρ x y p q z Q R hx hy e k => by
  unfold dAdd at e
  split at e
  · cases e
    exact .inl ⟨_, _, Dp.inv_int (hx.dp (Same.refl _) R), Dp.inv_int (hy.dp (Same.refl _) R), k F H _ R (Same.refl _) (.int _)⟩
  · split at e
    · rename_i hz
      cases e
      obtain ⟨a, xs, rfl, r1, h1⟩ := pk_items R hx rfl
      obtain ⟨b, ys, rfl, r2, h2⟩ := pk_items R hy rfl
      rcases h1 with ⟨_, h1⟩ | ⟨h1, _⟩
      · rcases h2 with ⟨_, h2⟩ | ⟨h2, _⟩
        · refine .inr (.inl ⟨a, b, xs, ys, rfl, rfl, h1, h2, by rw [r1.length, r2.length]; exact hz, fun p hp => ?_⟩)
          have n := R.sub.free hp
          exact k _ _ _ (R.grow hp) (same_upd n) (.lst (.inl (.inl upd_same)) ((r1.append r2).same (same_upd n)))
        · cases h2
      · cases h1
    · cases e
  · split at e
    · rename_i hz
      cases e
      obtain ⟨a, xs, rfl, r1, h1⟩ := pk_items R hx rfl
      obtain ⟨b, ys, rfl, r2, h2⟩ := pk_items R hy rfl
      rcases h1 with ⟨h1, _⟩ | ⟨_, h1⟩
      · cases h1
      · rcases h2 with ⟨h2, _⟩ | ⟨_, h2⟩
        · cases h2
        · refine .inr (.inr (.inl ⟨a, b, xs, ys, rfl, rfl, sqT_same R.sub h1, sqT_same R.sub h2, by rw [r1.length, r2.length]; exact hz, fun e => ?_, fun n e => ?_, fun _ _ p hp => ?_⟩))
          · subst e
            cases r1
            exact k F H _ R (Same.refl _) (pk_tup hy)
          · subst e
            cases r2
            rw [List.append_nil] at k
            exact k F H _ R (Same.refl _) (pk_tup hx)
          · have n := R.sub.free hp
            exact k _ _ _ (R.grow hp) (same_upd n) (.tup upd_same ((r1.append r2).same (same_upd n)))
    · cases e
  · split at e
    · rename_i hz
      cases e
      exact .inr (.inr (.inr ⟨_, _, Dp.inv_str (hx.dp (Same.refl _) R), Dp.inv_str (hy.dp (Same.refl _) R), hz, k F H _ R (Same.refl _) (.str _)⟩))
    · cases e
  · cases e⟩
def vIsi (T : String) (f : Rho → Option D) : Rho → Option D := fun ρ => (f ρ).bind fun p => if noIs p = true then none else some (gIsi T p)
def vIsi2 (T U : String) (f : Rho → Option D) : Rho → Option D := fun ρ => (f ρ).bind fun p => if noIs p = true then none else some (.bool (isiB (tyN p) T || isiB (tyN p) U))
theorem ef_isi {f : Rho → Option D} {T : String} {n : Str} {p p2 : Pos} (h : XF X a f) (hg : Gl X "isinstance") (hm : X.mg "isinstance" = none) (hgT : Gl X n) (hmT : X.mg n = none) (hvT : bootBuiltins n = some (.type T))
    (hT : T = "int" ∨ T = "bool" ∨ T = "str" ∨ T = "list" ∨ T = "tuple" := by decide) (hv : bootBuiltins "isinstance" = some (.builtin "isinstance") := by decide +kernel) (hn : n ≠ "__name__" := by decide) (hdb : (n == ("__debug__" : Str)) = false := by decide)
    (hs : starEach [a, .Name n p2] X.env = (false, eval a X.env) :: starEach [.Name n p2] X.env := by rfl) :
    EF X (.Call (.Name "isinstance" p) [a, .Name n p2] [] pos) (vIsi T f) :=
  ⟨fW_mono, (pe_callB call_isi hg hm hv (pa_cons h.pe (pa_cons (pe_bltn (v := .ty T) hgT hmT hvT rfl hn hdb) pa_nil) hs) (he := hs)).imp fun σ H Q ⟨B, F, ρ, R, z, e, q⟩ => by
    obtain ⟨x, e1, e2⟩ := Option.bind_eq_some_iff.mp e
    have nf : noIs x = false := by
      cases hx : noIs x with
      | false => rfl
      | true => rw [if_pos hx] at e2; cases e2
    rw [if_neg (by rw [nf]; simp)] at e2
    cases e2
    refine ⟨B, F, ρ, R, x, e1, fun F' H' v R' s' d => ?_⟩
    exact ⟨v, .ty T, _, _, _, rfl, .ty T, ty_of (d.dp (Same.refl _) R') nf, kit_ty (kit_isi T hT x), q F' H' _ R' s' (.bl _)⟩⟩
theorem ef_isi2 {f : Rho → Option D} {T U : String} {n m : Str} {k : Nat} {p p2 p3 p4 : Pos} (h : EF X a f) (hg : Gl X "isinstance") (hm : X.mg "isinstance" = none) (hgT : Gl X n) (hmT : X.mg n = none) (hvT : bootBuiltins n = some (.type T)) (hgU : Gl X m) (hmU : X.mg m = none) (hvU : bootBuiltins m = some (.type U))
    (hT : T = "int" ∨ T = "bool" ∨ T = "str" ∨ T = "list" ∨ T = "tuple" := by decide) (hU : U = "int" ∨ U = "bool" ∨ U = "str" ∨ U = "list" ∨ U = "tuple" := by decide) (hv : bootBuiltins "isinstance" = some (.builtin "isinstance") := by decide +kernel)
    (hn : n ≠ "__name__" := by decide) (hdb : (n == ("__debug__" : Str)) = false := by decide) (hn2 : m ≠ "__name__" := by decide) (hdb2 : (m == ("__debug__" : Str)) = false := by decide)
    (hs : starEach [a, .Tuple [.Name n p2, .Name m p3] k p4] X.env = (false, eval a X.env) :: starEach [.Tuple [.Name n p2, .Name m p3] k p4] X.env := by rfl) :
    EF X (.Call (.Name "isinstance" p) [a, .Tuple [.Name n p2, .Name m p3] k p4] [] pos) (vIsi2 T U f) :=
  ⟨fW_mono, (pe_callB call_isiT hg hm hv (pa_cons h.pe (pa_cons (pe_tup (pa_cons (pe_bltn (v := .ty T) hgT hmT hvT rfl hn hdb) (pa_cons (pe_bltn (v := .ty U) hgU hmU hvU rfl hn2 hdb2) pa_nil))) pa_nil) hs) (he := hs)).imp fun σ H Q ⟨B, F, ρ, R, z, e, q⟩ => by
    obtain ⟨x, e1, e2⟩ := Option.bind_eq_some_iff.mp e
    have nf : noIs x = false := by
      cases hx : noIs x with
      | false => rfl
      | true => rw [if_pos hx] at e2; cases e2
    rw [if_neg (by rw [nf]; simp)] at e2
    cases e2
    refine ⟨B, F, ρ, R, x, e1, fun F' H' v R' s' d => ⟨by show 2 ≤ sizeLine; decide, fun t ht => ?_⟩⟩
    have n' := R'.sub.free ht
    have R2 := R'.grow ht (o := .tup [.ty T, .ty U])
    refine ⟨v, t, _, _, [.type T, .type U], (isiB (tyN x) T || isiB (tyN x) U), rfl, upd_same, .cons (.ty T) (.cons (.ty U) .nil), ty_of ((d.same (same_upd n')).same R2.sub) nf, ?_, q _ _ _ R2 (s'.trans (same_upd n')) (.bl _)⟩
    refine kitAny_cons (kit_ty (kit_isi T hT x)) (fun b1 => ?_) fun b1 => by rw [b1]; rfl
    rw [b1, Bool.false_or]
    exact kitAny_cons (kit_ty (kit_isi U hU x)) (fun b2 => by rw [b2]; exact kitAny_nil) fun b2 => b2⟩
end
end L2.P


set_option Elab.async false
set_option linter.all false
set_option maxRecDepth 100000
set_option maxHeartbeats 4000000
namespace L2.P
open PySem PySem.Spec PyProof.Rows L2

/-- how a statement ends -/
inductive Fl where
  | nx (ρ : Rho) | rt (p : D) | bk (ρ : Rho) | ct (ρ : Rho)
abbrev TSt := Rho → (Fl → Prop) → Prop
def endOk (K : Fg) (B : Bs) (F : Hp) (En : Ends) : Fl → Prop
  | .nx ρ' => ∀ F' H' σ', Rs K B F' H' σ' ρ' → Same F F' → En.nx σ' H'
  | .rt p => ∀ F' H' v, (∃ σ' ρ', Rs K B F' H' σ' ρ') → Same F F' → Dp K F' v p → En.rt v H'
  | .bk ρ' => ∀ F' H' σ', Rs K B F' H' σ' ρ' → Same F F' → En.bk σ' H'
  | .ct ρ' => ∀ F' H' σ', Rs K B F' H' σ' ρ' → Same F F' → En.ct σ' H'
theorem endOk.mono {K : Fg} {B : Bs} {F F' : Hp} {En : Ends} (s : Same F F') : ∀ {fl : Fl}, endOk K B F En fl → endOk K B F' En fl
  | .nx _, h => fun F2 H2 σ2 R2 s2 => h F2 H2 σ2 R2 (s.trans s2)
  | .rt _, h => fun F2 H2 v R2 s2 d => h F2 H2 v R2 (s.trans s2) d
  | .bk _, h => fun F2 H2 σ2 R2 s2 => h F2 H2 σ2 R2 (s.trans s2)
  | .ct _, h => fun F2 H2 σ2 R2 s2 => h F2 H2 σ2 R2 (s.trans s2)
def tS (K : Fg) (T : TSt) : TS := fun En σ H => ∃ B F ρ, Rs K B F H σ ρ ∧ T ρ (endOk K B F En)
structure SW (X : Cx) (st : Stmt) (T : TSt) : Prop where
  mono : ∀ ρ K K', (∀ p, K p → K' p) → T ρ K → T ρ K'
  ps : PS X st (tS X.K T)
structure SWs (X : Cx) (sts : List Stmt) (T : TSt) : Prop where
  mono : ∀ ρ K K', (∀ p, K p → K' p) → T ρ K → T ρ K'
  pss : PSs X sts (tS X.K T)
abbrev SF (X : Cx) (st : Stmt) (f : Rho → Option Fl) : Prop := SW X st (fW f)
abbrev SFs (X : Cx) (sts : List Stmt) (f : Rho → Option Fl) : Prop := SWs X sts (fW f)
theorem SW.imp {X : Cx} {st : Stmt} {T T' : TSt} (h : SW X st T) (m : ∀ ρ K K', (∀ p, K p → K' p) → T' ρ K → T' ρ K') (k : ∀ ρ K, T' ρ K → T ρ K) : SW X st T' := ⟨m, h.ps.imp fun _ _ _ ⟨B, F, ρ, R, q⟩ => ⟨B, F, ρ, R, k _ _ q⟩⟩
theorem SWs.imp {X : Cx} {st : List Stmt} {T T' : TSt} (h : SWs X st T) (m : ∀ ρ K K', (∀ p, K p → K' p) → T' ρ K → T' ρ K') (k : ∀ ρ K, T' ρ K → T ρ K) : SWs X st T' := ⟨m, h.pss.imp fun _ _ _ ⟨B, F, ρ, R, q⟩ => ⟨B, F, ρ, R, k _ _ q⟩⟩

section
variable {K : Fg} {B : Bs} {F F' H H' : Hp} {σ σ' : St} {ρ ρ' : Rho}
theorem set_some {α : Type} {l : List α} {i j : Nat} {x y : α} (h : (l.set i x)[j]? = some y) : (i = j ∧ i < l.length ∧ y = x) ∨ (i ≠ j ∧ l[j]? = some y) := by
  by_cases e : i = j
  · subst e
    by_cases hl : i < l.length
    · rw [List.getElem?_set_self hl] at h
      cases h; exact .inl ⟨rfl, hl, rfl⟩
    · rw [List.getElem?_eq_none (by simpa using hl)] at h; cases h
  · rw [List.getElem?_set_ne e] at h
    exact .inr ⟨e, h⟩
/-- the object o is what the slot s tells, s a slot that owns a list or a dict -/
def Holds (K : Fg) (F : Hp) (o : HO) : Sl → Prop
  | .ol ps => ∃ xs, o = .lst xs ∧ DpAll K F xs ps
  | .od false kvs => ∃ es, o = .dK es ∧ DkAll K F es kvs
  | .od true kvs => ∃ es, o = .dT es ∧ DtAll K F es kvs
  | _ => False
theorem Holds.ok {o : HO} {s : Sl} {a : Addr} (h : Holds K F o s) (f : F a = none) (h0 : B.Ha a = none) (e : H a = some o) : SlOk K B F H (some (some (.ref a))) s := by
  cases s with
  | no => exact h.elim
  | v _ => exact h.elim
  | rw _ => exact h.elim
  | ol ps => obtain ⟨xs, rfl, d⟩ := h; exact .ol f h0 e d
  | od t kvs =>
    cases t with
    | false => obtain ⟨es, rfl, d⟩ := h; exact .od f h0 ⟨es, e, d⟩
    | true => obtain ⟨es, rfl, d⟩ := h; exact .od f h0 ⟨es, e, d⟩
theorem Holds.owns {o : HO} {s : Sl} (h : Holds K F o s) : s.owns = true := by
  cases s with
  | no => exact h.elim
  | v _ => exact h.elim
  | rw _ => exact h.elim
  | ol ps => rfl
  | od t kvs => rfl
theorem Holds.nt {o : HO} {s : Sl} (h : Holds K F o s) : ∀ xs, o ≠ .tup xs := by
  cases s with
  | no => exact h.elim
  | v _ => exact h.elim
  | rw _ => exact h.elim
  | ol ps => obtain ⟨xs, rfl, d⟩ := h; intro _ z; cases z
  | od t kvs =>
    cases t with
    | false => obtain ⟨es, rfl, d⟩ := h; intro _ z; cases z
    | true => obtain ⟨es, rfl, d⟩ := h; intro _ z; cases z
theorem Holds.same {o : HO} {s : Sl} (h : Holds K F o s) (e : Same F F') : Holds K F' o s := by
  cases s with
  | no => exact h.elim
  | v _ => exact h.elim
  | rw _ => exact h.elim
  | ol ps => obtain ⟨xs, rfl, d⟩ := h; exact ⟨xs, rfl, d.same e⟩
  | od t kvs =>
    cases t with
    | false => obtain ⟨es, rfl, d⟩ := h; exact ⟨es, rfl, d.same e⟩
    | true => obtain ⟨es, rfl, d⟩ := h; exact ⟨es, rfl, d.same e⟩
theorem Holds.nte {o : HO} {s : Sl} (h : Holds K F o s) : ¬ isTE o := by
  cases s with
  | no => exact h.elim
  | v _ => exact h.elim
  | rw _ => exact h.elim
  | ol ps => obtain ⟨xs, rfl, d⟩ := h; exact not_te rfl
  | od t kvs =>
    cases t with
    | false => obtain ⟨es, rfl, d⟩ := h; exact not_te rfl
    | true => obtain ⟨es, rfl, d⟩ := h; exact not_te rfl
/-- a slot takes a new list that it alone holds -/
theorem Rs.putG {i : Nat} {a : Addr} {o : HO} {s0 : Sl} (R : Rs K B F H σ ρ) (n : H a = none) (hh : Holds K F o s0) : Rs K B F (upd H a o) (σ.set i (some (.ref a))) (ρ.set i s0) := by
  have L := R.lay n (o := o)
  obtain ⟨f1, f2, f3⟩ := R.fresh n
  refine ⟨L.sub, L.ext, L.new, L.old, L.hrow, L.hr2, by rw [List.length_set, List.length_set]; exact R.len, fun j s hs => ?_, fun j k c s t hjk h1 h2 o1 o2 e1 e2 => ?_, L.tb, L.tbh⟩
  · rcases set_some hs with ⟨rfl, hl, rfl⟩ | ⟨ne, hs⟩
    · rw [List.getElem?_set_self (by rw [R.len]; exact hl)]
      exact hh.ok f2 f1 upd_same
    · rw [List.getElem?_set_ne ne]; exact L.at_ j s hs
  · have far : ∀ (l : Nat) (s : Sl), ρ[l]? = some s → s.owns = true → σ[l]? = some (some (V.ref a)) → False := fun l s hs o e => by
      have q := R.at_ l s hs
      rw [e] at q
      cases q with
      | no => cases o
      | v _ => cases o
      | ol _ _ h _ => rw [n] at h; cases h
      | row _ _ h =>
        obtain ⟨u, hu⟩ := h.there
        rw [n] at hu; cases hu
      | od _ _ h =>
        obtain ⟨u, hu, _⟩ := h.there
        rw [n] at hu; cases hu
    rcases set_some h1 with ⟨rfl, hl, _⟩ | ⟨ne, h1n⟩
    · rw [List.getElem?_set_self (by rw [R.len]; exact hl)] at e1
      cases e1
      rcases set_some h2 with ⟨rfl, _⟩ | ⟨ne, h2n⟩
      · exact hjk rfl
      · rw [List.getElem?_set_ne ne] at e2
        exact far k t h2n o2 e2
    · rw [List.getElem?_set_ne ne] at e1
      rcases set_some h2 with ⟨rfl, hl, _⟩ | ⟨ne2, h2n⟩
      · rw [List.getElem?_set_self (by rw [R.len]; exact hl)] at e2
        cases e2
        exact far j s h1n o1 e1
      · rw [List.getElem?_set_ne ne2] at e2
        exact R.apart j k c s t hjk h1n h2n o1 o2 e1 e2
theorem Rs.putO {i : Nat} {a : Addr} {xs : List V} {ps : List D} (R : Rs K B F H σ ρ) (n : H a = none) (d : DpAll K F xs ps) : Rs K B F (upd H a (.lst xs)) (σ.set i (some (.ref a))) (ρ.set i (.ol ps)) := R.putG n ⟨xs, rfl, d⟩
/-- what a slot owns -/
theorem Rs.own {i : Nat} {ps : List D} (R : Rs K B F H σ ρ) (h : ρ[i]? = some (.ol ps)) : ∃ a xs, σ[i]? = some (some (.ref a)) ∧ F a = none ∧ B.Ha a = none ∧ H a = some (.lst xs) ∧ DpAll K F xs ps := by
  have q := R.at_ i _ h
  generalize hσ : σ[i]? = x at q
  cases q with
  | ol f h0 h1 r => exact ⟨_, _, rfl, f, h0, h1, r⟩
/-- .. in one word -/
theorem Rs.ownG {i : Nat} {s : Sl} (R : Rs K B F H σ ρ) (h : ρ[i]? = some s) (hs : s.owns = true) (nr : ¬ s.IsRw) : ∃ a o, σ[i]? = some (some (.ref a)) ∧ F a = none ∧ B.Ha a = none ∧ H a = some o ∧ Holds K F o s := by
  have q := R.at_ i _ h
  generalize hσ : σ[i]? = x at q
  cases q with
  | no => cases hs
  | v _ => cases hs
  | row _ _ _ => exact absurd (.mk _) nr
  | ol f h0 h1 r => exact ⟨_, _, rfl, f, h0, h1, _, rfl, r⟩
  | @od t a kvs f h0 h1 =>
    cases t with
    | false => obtain ⟨es, e, d⟩ := h1; exact ⟨a, _, rfl, f, h0, e, es, rfl, d⟩
    | true => obtain ⟨es, e, d⟩ := h1; exact ⟨a, _, rfl, f, h0, e, es, rfl, d⟩
/-- .. is changed -/
theorem Rs.setG {i : Nat} {a : Addr} {o : HO} {s0 s1 : Sl} (R : Rs K B F H σ ρ) (h : ρ[i]? = some s0) (hs0 : s0.owns = true) (nr0 : ¬ s0.IsRw) (hσ : σ[i]? = some (some (.ref a))) (hh : Holds K F o s1) :
    Rs K B F (upd H a o) σ (ρ.set i s1) := by
  obtain ⟨a', o', e, f, h0, h1, r⟩ := R.ownG h hs0 nr0
  rw [hσ] at e; cases e
  have hil : i < ρ.length := (List.getElem?_eq_some_iff.mp h).1
  have nr : B.r ≠ some a := fun e => by
    exact R.hr2 a e h0
  refine ⟨same_upd2 R.sub f, R.ext, R.new, fun b x hb e => ?_, fun r hr => ?_, R.hr2, by rw [List.length_set]; exact R.len, fun j s hs => ?_, fun j k c s t hjk h1' h2' o1 o2 e1 e2 => ?_, R.tb.chg h1 r.nte, R.tbh⟩
  · rw [upd_ne (ne_of_none e h0)]; exact R.old b x hb e
  · obtain ⟨g1, g2⟩ := R.hrow r hr
    have ne : r ≠ a := fun e => nr (by rw [hr, e])
    exact ⟨g1, g2.mono (Same.refl _) fun o e => by rw [upd_ne ne]; exact e⟩
  · rcases set_some hs with ⟨rfl, hl, rfl⟩ | ⟨ne, hs⟩
    · rw [hσ]; exact hh.ok f h0 upd_same
    · have q := R.at_ j s hs
      have far : s.owns = true → σ[j]? = some (some (.ref a)) → False := fun o e => R.apart i j a _ s ne h hs hs0 o hσ e
      generalize hx : σ[j]? = x at q far
      cases q with
      | no => exact .no
      | v r => exact .v r
      | @ol c zs rs g1 g2 g3 g4 => exact .ol g1 g2 (by rw [upd_ne (fun e => far rfl (by rw [e]))]; exact g3) g4
      | @od t c kvs g1 g2 g3 => exact .od g1 g2 (g3.mono (Same.refl _) fun o e => by rw [upd_ne (fun e => far rfl (by rw [e]))]; exact e)
      | @row c _ g1 g2 g3 => exact .row g1 g2 (g3.mono (Same.refl _) fun o e => by rw [upd_ne (fun e => far rfl (by rw [e]))]; exact e)
  · rcases set_some h1' with ⟨rfl, hl, _⟩ | ⟨ne, h1n⟩
    · rcases set_some h2' with ⟨rfl, _⟩ | ⟨ne, h2n⟩
      · exact hjk rfl
      · exact R.apart i k c _ t hjk h h2n hs0 o2 e1 e2
    · rcases set_some h2' with ⟨rfl, hl, _⟩ | ⟨ne2, h2n⟩
      · exact R.apart j i c s _ hjk h1n h o1 hs0 e1 e2
      · exact R.apart j k c s t hjk h1n h2n o1 o2 e1 e2
theorem Rs.setO {i : Nat} {a : Addr} {xs ys : List V} {ps qs : List D} (R : Rs K B F H σ ρ) (h : ρ[i]? = some (.ol ps)) (hσ : σ[i]? = some (some (.ref a))) (hH : H a = some (.lst xs)) (d : DpAll K F ys qs) :
    Rs K B F (upd H a (.lst ys)) σ (ρ.set i (.ol qs)) := R.setG h rfl (fun z => by cases z) hσ ⟨ys, rfl, d⟩
end
end L2.P


set_option Elab.async false
set_option linter.all false
set_option maxRecDepth 100000
set_option maxHeartbeats 4000000
namespace L2.P
open PySem PySem.Spec PyProof.Rows L2
section
variable {X : Cx} {st : Stmt} {rest : List Stmt} {e : Expr} {pos spos : Pos}
def wSeq (T U : TSt) : TSt := fun ρ K => T ρ fun fl => match fl with
  | .nx ρ' => U ρ' K
  | fl => K fl
def sSeq (f g : Rho → Option Fl) : Rho → Option Fl := fun ρ => match f ρ with
  | some (.nx ρ') => g ρ'
  | r => r
theorem sws_one {T : TSt} (h : SW X st T) : SWs X [st] T := ⟨h.mono, pss_one h.ps⟩
theorem sws_cons {T U : TSt} (h : SW X st T) (h2 : SWs X rest U) : SWs X (st :: rest) (wSeq T U) :=
  ⟨fun ρ K K' i q => h.mono _ _ _ (fun fl k => by
    cases fl with
    | nx ρ' => exact h2.mono _ _ _ i k
    | rt p => exact i _ k
    | bk p => exact i _ k
    | ct p => exact i _ k) q, (pss_cons h.ps h2.pss).imp fun En σ H ⟨B, F, ρ, R, q⟩ => ⟨B, F, ρ, R, h.mono _ _ _ (fun fl k => by
    cases fl with
    | nx ρ' => exact fun F' H' σ' R' s' => ⟨B, F', ρ', R', h2.mono _ _ _ (fun fl2 k2 => k2.mono s') k⟩
    | rt p => exact k
    | bk p => exact k
    | ct p => exact k) q⟩⟩
theorem sfs_cons {f g : Rho → Option Fl} (h : SF X st f) (h2 : SFs X rest g) : SFs X (st :: rest) (sSeq f g) := (sws_cons h h2).imp fW_mono fun ρ K ⟨p, e, k⟩ => by
  unfold sSeq at e
  cases q : f ρ with
  | none => rw [q] at e; cases e
  | some fl =>
    rw [q] at e
    refine ⟨fl, q, ?_⟩
    cases fl with
    | nx ρ' => exact ⟨p, e, k⟩
    | rt p => cases e; exact k
    | bk p => cases e; exact k
    | ct p => cases e; exact k
def sNil : Rho → Option Fl := fun ρ => some (.nx ρ)
theorem sfs_nil : SFs X [] sNil := ⟨fW_mono, pss_nil.imp fun En σ H ⟨B, F, ρ, R, p, e, q⟩ => by cases e; exact q F H σ R (Same.refl _)⟩
def sNever : Rho → Option Fl := fun _ => none
theorem sf_never : SF X st sNever := ⟨fW_mono, ps_never.imp fun En σ H ⟨B, F, ρ, R, p, e, q⟩ => by cases e⟩
def wRet (T : TW) : TSt := fun ρ K => T ρ fun p => K (.rt p)
def sRet (f : Rho → Option D) : Rho → Option Fl := fun ρ => (f ρ).map Fl.rt
theorem sw_ret {T : TW} (h : EW X e T) : SW X (.Return (some e) pos) (wRet T) :=
  ⟨fun ρ K K' i q => h.mono _ _ _ (fun p k => i _ k) q, (ps_ret h.pe).imp fun En σ H ⟨B, F, ρ, R, q⟩ => ⟨B, F, ρ, R, h.mono _ _ _ (fun p k F' H' v R' s d => k F' H' v ⟨σ, ρ, R'⟩ s d) q⟩⟩
theorem sf_ret {f : Rho → Option D} (h : EF X e f) : SF X (.Return (some e) pos) (sRet f) := (sw_ret h).imp fW_mono fun ρ K ⟨p, e, k⟩ => by
  obtain ⟨q, e1, rfl⟩ := Option.map_eq_some_iff.mp e
  exact ⟨q, e1, k⟩
/-- a slot's list is frozen -/
theorem Rs.freezeG {K : Fg} {B : Bs} {F H : Hp} {σ : St} {ρ : Rho} {i : Nat} {s0 : Sl} {p : D} (R : Rs K B F H σ ρ) (h : ρ[i]? = some s0) (hs0 : s0.owns = true) (nr0 : ¬ s0.IsRw) (hp : ∀ (a : Addr) (o : HO) (F' : Hp), F' a = some o → Holds K F' o s0 → Dp K F' (.ref a) p) : ∃ F' v, Rs K B F' H σ (ρ.set i (.v p)) ∧ Same F F' ∧ σ[i]? = some (some v) ∧ Dp K F' v p := by
  obtain ⟨a, o, hσ, f, h0, h1, r⟩ := R.ownG h hs0 nr0
  have hil : i < ρ.length := (List.getElem?_eq_some_iff.mp h).1
  have s : Same F (upd F a o) := same_upd f
  have dd : Dp K (upd F a o) (.ref a) p := hp a o _ upd_same (r.same s)
  refine ⟨upd F a o, .ref a, ⟨fun b x e => ?_, fun b x e => s b x (R.ext b x e), fun b h2 h3 => ?_, R.old, fun r hr => ?_, R.hr2, by rw [List.length_set]; exact R.len, fun j t ht => ?_, fun j k c t u hjk h1' h2' o1 o2 e1 e2 => ?_, R.tb.frz h1 r.nte, R.tbh⟩, s, hσ, dd⟩
  · by_cases q : b = a
    · subst q; rw [upd_same] at e; rw [h1]; exact e
    · rw [upd_ne q] at e; exact R.sub b x e
  · by_cases q : b = a
    · subst q; exact .inl h0
    · rw [upd_ne q] at h3; exact R.new b h2 h3
  · obtain ⟨g1, g2⟩ := R.hrow r hr
    have ne : r ≠ a := fun e => R.hr2 r hr (by rw [e]; exact h0)
    exact ⟨by rw [upd_ne ne]; exact g1, g2.mono s fun o e => e⟩
  · rcases set_some ht with ⟨rfl, hl, rfl⟩ | ⟨ne, ht⟩
    · rw [hσ]; exact .v dd
    · have q := R.at_ j t ht
      have far : t.owns = true → σ[j]? = some (some (V.ref a)) → False := fun o e => R.apart i j a _ t ne h ht hs0 o hσ e
      generalize hx : σ[j]? = x at q far
      cases q with
      | no => exact .no
      | v r => exact .v (r.same s)
      | @ol c zs rs g1 g2 g3 g4 => exact .ol (by rw [upd_ne (fun e => far rfl (by rw [e]))]; exact g1) g2 g3 (g4.same s)
      | @od t c kvs g1 g2 g3 => exact .od (by rw [upd_ne (fun e => far rfl (by rw [e]))]; exact g1) g2 (g3.mono s fun o e => e)
      | @row c _ g1 g2 g3 => exact .row (by rw [upd_ne (fun e => far rfl (by rw [e]))]; exact g1) g2 (g3.mono s fun o e => e)
  · rcases set_some h1' with ⟨rfl, hl, rfl⟩ | ⟨ne, h1'⟩
    · cases o1
    · rcases set_some h2' with ⟨rfl, hl, rfl⟩ | ⟨ne2, h2'⟩
      · cases o2
      · exact R.apart j k c t u hjk h1' h2' o1 o2 e1 e2
theorem Rs.freeze {K : Fg} {B : Bs} {F H : Hp} {σ : St} {ρ : Rho} {i : Nat} {ps : List D} (R : Rs K B F H σ ρ) (h : ρ[i]? = some (.ol ps)) : ∃ F' v, Rs K B F' H σ (ρ.set i (.v (.list ps))) ∧ Same F F' ∧ σ[i]? = some (some v) ∧ Dp K F' v (.list ps) :=
  R.freezeG h rfl (fun z => by cases z) fun a o F' e hh => by obtain ⟨xs, rfl, d⟩ := hh; exact .lst (.inl (.inl e)) d
/-- return x, x a list of this def's own -/
theorem sw_retx {T : TW} (h : XW X e T) : SW X (.Return (some e) pos) (wRet T) :=
  ⟨fun ρ K K' i q => h.mono _ _ _ (fun p k => i _ k) q, (ps_ret h.pe).imp fun En σ H ⟨B, F, ρ, R, q⟩ => ⟨B, F, ρ, R, h.mono _ _ _ (fun p k F' H' v R' s d => by
    rcases d with d | ⟨i, ps, h1, h2, rfl⟩
    · exact k F' H' v ⟨σ, ρ, R'⟩ s d
    · obtain ⟨F2, v2, R2, s2, e2, d2⟩ := R'.freeze h1
      rw [h2] at e2
      cases e2
      exact k F2 H' v ⟨σ, _, R2⟩ (s.trans s2) d2) q⟩⟩
theorem sf_retx {f : Rho → Option D} (h : XF X e f) : SF X (.Return (some e) pos) (sRet f) := (sw_retx h).imp fW_mono fun ρ K ⟨p, e, k⟩ => by
  obtain ⟨q, e1, rfl⟩ := Option.map_eq_some_iff.mp e
  exact ⟨q, e1, k⟩
/-- ahead of a block: lists of this def's own are frozen from here on -/
def frz (ρ : Rho) : List Nat → Rho
  | [] => ρ
  | i :: is => match (frz ρ is)[i]? with
    | some (.ol ps) => (frz ρ is).set i (.v (.list ps))
    | _ => frz ρ is
theorem Rs.frz {K : Fg} {B : Bs} {F H : Hp} {σ : St} {ρ : Rho} (R : Rs K B F H σ ρ) : ∀ is : List Nat, ∃ F', Rs K B F' H σ (frz ρ is) ∧ Same F F'
  | [] => ⟨F, R, Same.refl _⟩
  | i :: is => by
    obtain ⟨F', R', s⟩ := Rs.frz R is
    unfold P.frz
    split
    · rename_i ps h
      obtain ⟨F2, v, R2, s2, _⟩ := R'.freeze h
      exact ⟨F2, R2, s.trans s2⟩
    · exact ⟨F', R', s⟩
def wSet (i : Nat) (T : TW) : TSt := fun ρ K => T ρ fun p => K (.nx (ρ.set i (.v p)))
def sSet (i : Nat) (f : Rho → Option D) : Rho → Option Fl := fun ρ => (f ρ).map fun p => .nx (ρ.set i (.v p))
theorem sw_set {i : Nat} {x : Str} {T : TW} {p' : Pos} (hN : X.N.Nodup) (hi : X.N[i]? = some x) (hx : Loc X.env.scope x) (h : EW X e T) (hs : swapsWith e (some (.Name x p')) pos.line X.env = pure false := by rfl)
    (hf : X.fn x = true ∨ X.env.scope.names.lookup x = some .local := by first | exact .inl rfl | exact .inr rfl | assumption) : SW X (.Assign [.Name x p'] e pos) (wSet i T) :=
  ⟨fun ρ K K' k q => h.mono _ _ _ (fun p => k _) q, (ps_set hN hi hx h.pe hs hf).imp fun En σ H ⟨B, F, ρ, R, q⟩ => ⟨B, F, ρ, R, h.mono _ _ _ (fun p k F' H' v R' s d => k F' H' _ (R'.put (.v d) rfl) s) q⟩⟩
theorem sf_set {i : Nat} {x : Str} {f : Rho → Option D} {p' : Pos} (hN : X.N.Nodup) (hi : X.N[i]? = some x) (hx : Loc X.env.scope x) (h : EF X e f) (hs : swapsWith e (some (.Name x p')) pos.line X.env = pure false := by rfl)
    (hf : X.fn x = true ∨ X.env.scope.names.lookup x = some .local := by first | exact .inl rfl | exact .inr rfl | assumption) : SF X (.Assign [.Name x p'] e pos) (sSet i f) := (sw_set hN hi hx h hs hf).imp fW_mono fun ρ K ⟨p, e, k⟩ => by
  obtain ⟨q, e1, rfl⟩ := Option.map_eq_some_iff.mp e
  exact ⟨q, e1, k⟩
theorem ns_set {i : Nat} {x : Str} {T : TL} {p' : Pos} (hN : X.N.Nodup) (hi : X.N[i]? = some x) (hx : Loc X.env.scope x) (h : NW X e T) (hs : swapsWith e (some (.Name x p')) pos.line X.env = pure false := by rfl)
    (hf : X.fn x = true ∨ X.env.scope.names.lookup x = some .local := by first | exact .inl rfl | exact .inr rfl | assumption) : NS X (.Assign [.Name x p'] e pos) i T := ⟨h.mono, ps_set hN hi hx h.pe hs hf⟩
def wSetO (i : Nat) (T : TL) : TSt := fun ρ K => T ρ fun p => K (.nx (ρ.set i (.ol p)))
def sSetO (i : Nat) (f : Rho → Option (List D)) : Rho → Option Fl := fun ρ => (f ρ).map fun p => .nx (ρ.set i (.ol p))
def wSetL (i : Nat) (T : TL) : TSt := fun ρ K => T ρ fun p => K (.nx (ρ.set i (.v (.list p))))
def sSetL (i : Nat) (f : Rho → Option (List D)) : Rho → Option Fl := fun ρ => (f ρ).map fun p => .nx (ρ.set i (.v (.list p)))
theorem NS.o {i : Nat} {T : TL} (h : NS X st i T) : SW X st (wSetO i T) :=
  ⟨fun ρ K K' k q => h.mono _ _ _ (fun p => k _) q, h.ps.imp fun En σ H ⟨B, F, ρ, R, q⟩ => ⟨B, F, ρ, R, h.mono _ _ _ (fun p k F' H' a xs R' s n d => k F' _ _ (R'.putO n d) s) q⟩⟩
theorem NS.l {i : Nat} {T : TL} (h : NS X st i T) : SW X st (wSetL i T) :=
  ⟨fun ρ K K' k q => h.mono _ _ _ (fun p => k _) q, h.ps.imp fun En σ H ⟨B, F, ρ, R, q⟩ => ⟨B, F, ρ, R, h.mono _ _ _ (fun p k F' H' a xs R' s n d => by
    have n' := R'.sub.free n
    exact k _ _ _ ((R'.grow n).put (.v (.lst (.inl (.inl upd_same)) (d.same (same_upd n')))) rfl) (s.trans (same_upd n'))) q⟩⟩
theorem NS.imp {i : Nat} {T T' : TL} (h : NS X st i T) (m : ∀ ρ K K', (∀ p, K p → K' p) → T' ρ K → T' ρ K') (k : ∀ ρ K, T' ρ K → T ρ K) : NS X st i T' := ⟨m, h.ps.imp fun D σ H q => tAsg_imp (t := tN X.K T) (t' := tN X.K T') (fun _ _ _ ⟨B, F, ρ, R, q⟩ => ⟨B, F, ρ, R, k _ _ q⟩) D σ H q⟩
abbrev NSF (X : Cx) (st : Stmt) (i : Nat) (f : Rho → Option (List D)) : Prop := NS X st i (fW f)
theorem NS.lc {i : Nat} {is : List Nat} {g : Tg} {t : Rho → Option Bool} {f : Rho → Option D} {u : Rho → Option (List D)} (h : NS X st i (wLc is g (fW t) (fW f) (fW u))) : NSF X st i (cLc is g t f u) := h.imp fW_mono cLc_w
theorem NSF.so {i : Nat} {f : Rho → Option (List D)} (h : NSF X st i f) : SF X st (sSetO i f) := (NS.o h).imp fW_mono fun ρ K ⟨p, e, k⟩ => by
  obtain ⟨q, e1, rfl⟩ := Option.map_eq_some_iff.mp e
  exact ⟨q, e1, k⟩
theorem NSF.sl {i : Nat} {f : Rho → Option (List D)} (h : NSF X st i f) : SF X st (sSetL i f) := (NS.l h).imp fW_mono fun ρ K ⟨p, e, k⟩ => by
  obtain ⟨q, e1, rfl⟩ := Option.map_eq_some_iff.mp e
  exact ⟨q, e1, k⟩
def wPar (i j : Nat) (T : TL) : TSt := fun ρ K => T ρ fun ps => ∃ a b, ps = [a, b] ∧ K (.nx ((ρ.set i (.v a)).set j (.v b)))
theorem sw_par {i j : Nat} {x y : Str} {a b : Expr} {T : TL} {px py pt : Pos} {kt k2 pt2} (hc : X.calm = true) (hN : X.N.Nodup) (hi : X.N[i]? = some x) (hj : X.N[j]? = some y) (hij : i ≠ j)
    (hx : X.env.scope.names.lookup x = some .local) (hy : X.env.scope.names.lookup y = some .local) (h : EA X [a, b] T)
    (hw : swappedStores [.Tuple [.Name x px, .Name y py] kt pt] (.Tuple [a, b] k2 pt2) X.env = pure (some [x, y]))
    (hs : swapsWithSole [.Tuple [.Name x px, .Name y py] kt pt] (.Tuple [a, b] k2 pt2) pos.line X.env = pure false := by rfl) :
    SW X (.Assign [.Tuple [.Name x px, .Name y py] kt pt] (.Tuple [a, b] k2 pt2) pos) (wPar i j T) :=
  ⟨fun ρ K K' k q => h.mono _ _ _ (fun p ⟨a, b, e, z⟩ => ⟨a, b, e, k _ z⟩) q, (ps_par hc hN hi hj hij hx hy h.pa hw hs).imp fun En σ H ⟨B, F, ρ, R, q⟩ => ⟨B, F, ρ, R, h.mono _ _ _ (fun p ⟨a, b, e, k⟩ F' H' vs R' s d => by
    subst e
    obtain ⟨v, u, rfl, d1, d2⟩ := dp2 d
    exact ⟨v, u, rfl, k F' H' _ ((R'.put (.v d1) rfl).put (.v d2) rfl) s⟩) q⟩⟩
def sDrop (f : Rho → Option D) : Rho → Option Fl := fun ρ => (f ρ).map fun _ => .nx ρ
theorem sf_expr {f : Rho → Option D} (h : EF X e f) (hs : swapsWith e none pos.line X.env = pure false := by rfl) : SF X (.Expr e pos) (sDrop f) :=
  ⟨fW_mono, (ps_expr h.pe hs).imp fun En σ H ⟨B, F, ρ, R, p, e, q⟩ => by
    obtain ⟨z, e1, rfl⟩ := Option.map_eq_some_iff.mp e
    exact ⟨B, F, ρ, R, z, e1, fun F' H' v R' s d => q F' H' σ R' s⟩⟩
def wApp (i : Nat) (T : TW) : TSt := fun ρ K => ∃ ps, ρ[i]? = some (.ol ps) ∧ T ρ fun p => ps.length < sizeLine ∧ K (.nx (ρ.set i (.ol (ps ++ [p]))))
def sApp (i : Nat) (f : Rho → Option D) : Rho → Option Fl := fun ρ => match ρ[i]? with
  | some (.ol ps) => (f ρ).bind fun p => if ps.length < sizeLine then some (.nx (ρ.set i (.ol (ps ++ [p])))) else none
  | _ => none
theorem sw_app {i : Nat} {x : Str} {T : TW} {p1 p2 p3 : Pos} (hN : X.N[i]? = some x) (hv : Vis X.env.scope x) (h : EW X e T) (hd : (x == ("__debug__" : Str)) = false := by decide) (hcd : (x == ("__classdict__" : Str)) = false := by decide)
    (hbase : attributeBase (.Name x p1) "append" X.env (eval (.Name x p1) X.env) = eval (.Name x p1) X.env := by rfl)
    (hfew : ((backTo p3 (starEach [e] X.env)).all (fun x => !x.1) && (backToKw p3 (keywordEach [] X.env)).all (fun x => x.1.isSome) && decide (([e] : List Expr).length + ([] : List Keyword).length + (if ([] : List Keyword).isEmpty then 0 else 1) < 30)) = true := by rfl)
    (hline : (p2.endLine == p3.line) = true := by rfl) (hs : starEach [e] X.env = (false, eval e X.env) :: starEach [] X.env := by rfl) (hs2 : swapsWith (.Call (.Attribute (.Name x p1) "append" p2) [e] [] p3) none pos.line X.env = pure false := by rfl) :
    SW X (.Expr (.Call (.Attribute (.Name x p1) "append" p2) [e] [] p3) pos) (wApp i T) :=
  ⟨fun ρ K K' k ⟨ps, e1, q⟩ => ⟨ps, e1, h.mono _ _ _ (fun p z => ⟨z.1, k _ z.2⟩) q⟩,
    (ps_expr (pe_bm PySem.F.plainAttrs_list PySem.F.slot_list_append PySem.F.type_list_append mt_append (pe_var hN hv hd hcd) (pa_cons h.pe pa_nil hs) hbase hfew hline hs rfl) hs2).imp fun En σ H ⟨B, F, ρ, R, ps, ei, q⟩ => by
      obtain ⟨a, xs, hσ, f, h0, h1, r⟩ := R.own ei
      refine ⟨.ref a, hσ, .inl ⟨rfl, xs, .inl (.inl h1)⟩, B, F, ρ, R, h.mono _ _ _ (fun p k F' H' v R' s d => ?_) q⟩
      obtain ⟨a', xs', hσ', f', h0', h1', r'⟩ := R'.own ei
      rw [hσ] at hσ'; cases hσ'
      have hl := r'.length
      exact ⟨a, xs', v, rfl, rfl, h1', by rw [hl]; exact k.1, k.2 F' _ σ (R'.setO ei hσ h1' (r'.append (.cons d .nil))) s⟩⟩
theorem sf_app {i : Nat} {x : Str} {fe : Rho → Option D} {p1 p2 p3 : Pos} (hN : X.N[i]? = some x) (hv : Vis X.env.scope x) (h : EF X e fe) (hd : (x == ("__debug__" : Str)) = false := by decide) (hcd : (x == ("__classdict__" : Str)) = false := by decide)
    (hbase : attributeBase (.Name x p1) "append" X.env (eval (.Name x p1) X.env) = eval (.Name x p1) X.env := by rfl)
    (hfew : ((backTo p3 (starEach [e] X.env)).all (fun x => !x.1) && (backToKw p3 (keywordEach [] X.env)).all (fun x => x.1.isSome) && decide (([e] : List Expr).length + ([] : List Keyword).length + (if ([] : List Keyword).isEmpty then 0 else 1) < 30)) = true := by rfl)
    (hline : (p2.endLine == p3.line) = true := by rfl) (hs : starEach [e] X.env = (false, eval e X.env) :: starEach [] X.env := by rfl) (hs2 : swapsWith (.Call (.Attribute (.Name x p1) "append" p2) [e] [] p3) none pos.line X.env = pure false := by rfl) :
    SF X (.Expr (.Call (.Attribute (.Name x p1) "append" p2) [e] [] p3) pos) (sApp i fe) := (sw_app hN hv h hd hcd hbase hfew hline hs hs2).imp fW_mono fun ρ K ⟨p, e, k⟩ => by
  unfold sApp at e
  split at e
  · rename_i ps hp
    obtain ⟨z, e1, e2⟩ := Option.bind_eq_some_iff.mp e
    split at e2
    · rename_i hz
      cases e2
      exact ⟨ps, hp, z, e1, hz, k⟩
    · cases e2
  · cases e
def wIfS (t : TB) (T U : TSt) : TSt := fun ρ K => t ρ fun b => if b = true then T ρ K else U ρ K
def sIf (t : Rho → Option Bool) (f g : Rho → Option Fl) : Rho → Option Fl := fun ρ => (t ρ).bind fun b => if b = true then f ρ else g ρ
theorem sw_if {c : Expr} {a b : List Stmt} {t : TB} {T U : TSt} (h : TWT X c t) (h1 : SWs X a T) (h2 : SWs X b U) : SW X (.If c a b pos) (wIfS t T U) :=
  ⟨fun ρ K K' i q => h.mono _ _ _ (fun b k => by
    cases b with
    | true => exact h1.mono _ _ _ i k
    | false => exact h2.mono _ _ _ i k) q, (ps_if h.pt h1.pss h2.pss).imp fun En σ H ⟨B, F, ρ, R, q⟩ => ⟨B, F, ρ, R, h.mono _ _ _ (fun b k F' H' R' s => by
      cases b with
      | true => exact ⟨B, F', ρ, R', h1.mono _ _ _ (fun fl z => z.mono s) k⟩
      | false => exact ⟨B, F', ρ, R', h2.mono _ _ _ (fun fl z => z.mono s) k⟩) q⟩⟩
theorem sf_if {c : Expr} {a b : List Stmt} {t : Rho → Option Bool} {f g : Rho → Option Fl} (h : TF X c t) (h1 : SFs X a f) (h2 : SFs X b g) : SF X (.If c a b pos) (sIf t f g) := (sw_if h h1 h2).imp fW_mono fun ρ K ⟨p, e, k⟩ => by
  obtain ⟨d, e1, e2⟩ := Option.bind_eq_some_iff.mp e
  refine ⟨d, e1, ?_⟩
  cases d with
  | true => exact ⟨p, e2, k⟩
  | false => exact ⟨p, e2, k⟩
def forW (g : Tg) (T : TSt) : List D → Rho → (Fl → Prop) → Prop
  | [], ρ, K => K (.nx ρ)
  | p :: ps, ρ, K => ∃ ρ', g p ρ = some ρ' ∧ T ρ' fun fl => match fl with
    | .nx ρ2 => forW g T ps ρ2 K
    | .ct ρ2 => forW g T ps ρ2 K
    | .bk ρ2 => K (.nx ρ2)
    | .rt v => K (.rt v)
theorem forW_mono {g : Tg} {T : TSt} (m : ∀ ρ K K', (∀ p, K p → K' p) → T ρ K → T ρ K') : ∀ (ps : List D) (ρ : Rho) (K K' : Fl → Prop), (∀ p, K p → K' p) → forW g T ps ρ K → forW g T ps ρ K'
  | [], _, _, _, h, q => h _ q
  | p :: ps, ρ, K, K', h, ⟨ρ', e, q⟩ => ⟨ρ', e, m _ _ _ (fun fl k => by
      cases fl with
      | nx ρ2 => exact forW_mono m ps ρ2 K K' h k
      | ct ρ2 => exact forW_mono m ps ρ2 K K' h k
      | bk ρ2 => exact h _ k
      | rt v => exact h _ k) q⟩
def forF (g : Tg) (f : Rho → Option Fl) : List D → Rho → Option Fl
  | [], ρ => some (.nx ρ)
  | p :: ps, ρ => (g p ρ).bind fun ρ' => match f ρ' with
    | some (.nx ρ2) => forF g f ps ρ2
    | some (.ct ρ2) => forF g f ps ρ2
    | some (.bk ρ2) => some (.nx ρ2)
    | some (.rt v) => some (.rt v)
    | none => none
theorem forF_W {g : Tg} {f : Rho → Option Fl} : ∀ (ps : List D) (ρ : Rho) (out : Fl) (K : Fl → Prop), forF g f ps ρ = some out → K out → forW g (fW f) ps ρ K
  | [], ρ, out, K, e, k => by cases e; exact k
  | p :: ps, ρ, out, K, e, k => by
    unfold forF at e
    obtain ⟨ρ', e1, e⟩ := Option.bind_eq_some_iff.mp e
    refine ⟨ρ', e1, ?_⟩
    split at e
    · rename_i ρ2 h; exact ⟨_, h, forF_W ps ρ2 out K e k⟩
    · rename_i ρ2 h; exact ⟨_, h, forF_W ps ρ2 out K e k⟩
    · rename_i ρ2 h; cases e; exact ⟨_, h, k⟩
    · rename_i v h; cases e; exact ⟨_, h, k⟩
    · cases e
def wFor (g : Tg) (U : TL) (T : TSt) : TSt := fun ρ K => U ρ fun ps => forW g T ps ρ K
def sFor (g : Tg) (u : Rho → Option (List D)) (f : Rho → Option Fl) : Rho → Option Fl := fun ρ => (u ρ).bind fun ps => forF g f ps ρ
theorem sw_for {tg iter : Expr} {body : List Stmt} {g : Tg} {is : List Nat} {U : TL} {T : TSt} (hp : PassesOwn (model X.prog X.w) X.A X.env X.xe) (hc : X.calm = true) (hi : IW X tg iter U) (hg : GW X tg g is) (hb : SWs X body T)
    (hs : ∀ x, foldedSetIterable iter X.env x = pure x := by intro _; rfl) : SW X (.For tg iter body [] pos) (wFor g U T) := by
  refine ⟨fun ρ K K' h q => hi.mono _ _ _ (fun ps k => forW_mono hb.mono ps ρ K K' h k) q, (ps_for hp hc hi.pi hg hb.pss hs).imp fun En σ H ⟨B, F, ρ, R, q⟩ => ⟨B, F, ρ, R, hi.mono _ _ _ (fun ps k F1 H1 J R1 s1 hz wk => ?_) q⟩⟩
  refine ⟨fun i m σ H => m = ps.length - i ∧ i ≤ ps.length ∧ ∃ F2 ρ2, Rs X.K B F2 H σ ρ2 ∧ Same F1 F2 ∧ forW g T (ps.drop i) ρ2 (endOk X.K B F En), ⟨ps.length, by simp, Nat.zero_le _, F1, ρ, R1, Same.refl _, k⟩, ?_⟩
  rintro i m σ2 H2 ⟨rfl, hi2, F2, ρ2, R2, s2, q2⟩
  have sH : Same F1 H2 := s2.trans R2.sub
  by_cases hlt : i < ps.length
  · refine .inr ⟨wk.go i H2 hlt sH, fun σ' H' => ∃ F3 ρ3, Rs X.K B F3 H' σ' ρ3 ∧ Same F1 F3 ∧ forW g T (ps.drop (i + 1)) ρ3 (endOk X.K B F En), fun σ' H' n => ⟨ps.length - (i + 1), by omega, rfl, hlt, n⟩, fun x H' hy => ?_⟩
    obtain ⟨p, hp', y⟩ := wk.yld i H2 x H' hlt sH hy
    have e0 : ps.drop i = p :: ps.drop (i + 1) := by
      rw [List.drop_eq_getElem_cons hlt]
      obtain ⟨_, e⟩ := List.getElem?_eq_some_iff.mp hp'
      rw [e]
    rw [e0] at q2
    obtain ⟨ρ', eg, q2⟩ := q2
    obtain ⟨F3, R3, s3, d3⟩ := yl_step R2 s2 y
    refine ⟨B, F3, ρ2, p, ρ', R3, d3, eg, fun σ' R4 _ _ _ => ⟨B, F3, ρ', R4, hb.mono _ _ _ (fun fl k => ?_) q2⟩⟩
    have sF : Same F F3 := (s1.trans s2).trans s3
    cases fl with
    | nx ρ3 => exact fun F4 H4 σ4 R5 s5 => ⟨F4, ρ3, R5, (s2.trans s3).trans s5, k⟩
    | ct ρ3 => exact fun F4 H4 σ4 R5 s5 => ⟨F4, ρ3, R5, (s2.trans s3).trans s5, k⟩
    | bk ρ3 => exact fun F4 H4 σ4 R5 s5 => k F4 H4 σ4 R5 (sF.trans s5)
    | rt v => exact fun F4 H4 u R5 s5 d5 => k F4 H4 u R5 (sF.trans s5) d5
  · have e : i = ps.length := by omega
    subst e
    rw [List.drop_length] at q2
    exact .inl ⟨wk.stop H2 sH, q2 F2 H2 σ2 R2 (s1.trans s2)⟩
theorem sf_for {tg iter : Expr} {body : List Stmt} {g : Tg} {is : List Nat} {u : Rho → Option (List D)} {f : Rho → Option Fl} (hp : PassesOwn (model X.prog X.w) X.A X.env X.xe) (hc : X.calm = true) (hi : IF X tg iter u) (hg : GW X tg g is) (hb : SFs X body f)
    (hs : ∀ x, foldedSetIterable iter X.env x = pure x := by intro _; rfl) : SF X (.For tg iter body [] pos) (sFor g u f) := (sw_for hp hc hi hg hb hs).imp fW_mono fun ρ K ⟨p, e, k⟩ => by
  obtain ⟨ps, e1, e2⟩ := Option.bind_eq_some_iff.mp e
  exact ⟨ps, e1, forF_W ps ρ p K e2 k⟩
end
end L2.P


set_option Elab.async false
set_option linter.all false
set_option maxRecDepth 100000
set_option maxHeartbeats 4000000
namespace L2.P
open PySem PySem.Spec PyProof.Rows L2

/-- a def of n parameters: its result is a function of its arguments' data -/
def spF (K : Fg) (n : Nat) (T : List D → (D → Prop) → Prop) : Sp := fun vs H Q _ => vs.length = n ∧ ∃ F ps, Same F H ∧ TbOk K F H ∧ DpAll K F vs ps ∧
  T ps fun p => ∀ F' H' v, Same F F' → SameX K none H H' → Same F' H' → TbOk K F' H' → (∀ b, F b = none → F' b ≠ none → Fz (H b)) → Dp K F' v p → Q v H'
/-- a def whose first argument is the row of draws -/
def spR (K : Fg) (n : Nat) (T : List D → (D → Prop) → Prop) : Sp := fun vs H Q _ => vs.length = n + 1 ∧ ∃ r us F ps, vs = .ref r :: us ∧ Same F H ∧ TbOk K F H ∧ F r = none ∧ RowOk K none F H r ∧ DpAll K F us ps ∧
  T ps fun p => ∀ F' H' v, Same F F' → SameX K (some r) H H' → Same F' H' → TbOk K F' H' → (∀ b, F b = none → F' b ≠ none → Fz (H b)) → RowOk K none F' H' r → Dp K F' v p → Q v H'
/-- a def that may be called: its level k -/
def Cal (P : Program) (w : World) (K : Fg) (mg : Str → Option Value) (base : Heap) (A : Around) (x : Str) (sp : Sp) : Prop :=
  ∃ (k : Nat) (f : Addr) (fd : FuncData) (ps : List Str), FnOk P w K mg base CX0 k f fd ps sp ∧ Room k A ∧ mg x = some (.ref f) ∧ PySem.W.keepIn K (.ref f) = true ∧ Binds K fd ps []
abbrev CalX (X : Cx) (x : Str) (sp : Sp) : Prop := Cal X.prog X.w X.K X.mg X.base X.A x sp
section
variable {K : Fg} {B : Bs} {F F' H H' : Hp} {σ : St} {ρ : Rho}
/-- behind a call of a def -/
theorem Rs.call (R : Rs K B F H σ ρ) (s : Same F F') (sH : SameX K none H H') (sF : Same F' H') (tb : TbOk K F' H') (fr : ∀ b, F b = none → F' b ≠ none → Fz (H b)) : Rs K B F' H' σ ρ where
  tb := tb
  tbh := R.tbh
  sub := sF
  ext := R.ext.trans s
  new := fun b h1 h2 => by
    cases q : F b with
    | none => exact R.fz (fr b q h2)
    | some u => exact R.new b h1 (by rw [q]; simp)
  old := fun b x hb e => sH.any b x hb (R.old b x hb e)
  hrow := fun r hr => by
    obtain ⟨h1, h2⟩ := R.hrow r hr
    obtain ⟨u, hu, nt⟩ := h2.thereN
    have nr : ∀ p ∈ tbT K, p.1 ≠ r := h2.nob R.tb
    refine ⟨?_, h2.mono s fun o e => sH _ _ ⟨by simp, nr⟩ e⟩
    cases q : F' r with
    | none => rfl
    | some z =>
      rcases fr r h1 (by rw [q]; simp) with this | ⟨xs, this⟩
      · rw [hu] at this; cases this
      · rw [hu] at this; exact absurd (Option.some.inj this) (nt xs)
  hr2 := R.hr2
  len := R.len
  at_ := fun i t ht => (R.at_ i t ht).monoT s (fun a f ⟨o, q, nt⟩ => by
    cases z : F' a with
    | none => rfl
    | some u =>
      rcases fr a f (by rw [z]; simp) with this | ⟨xs, this⟩
      · rw [q] at this; cases this
      · rw [q] at this; exact absurd (Option.some.inj this) (nt xs)) fun a o f nt q => sH _ _ ⟨by simp, R.tb.ne q nt⟩ q
  apart := R.apart
/-- behind a call of a def that draws: the row is r -/
theorem Rs.callR {m : Option MG} {r : Addr} {i : Nat} (R : Rs K B F H σ ρ) (hi : ρ[i]? = some (.rw m)) (hσ : σ[i]? = some (some (.ref r))) (s : Same F F') (sH : SameX K (some r) H H') (sF : Same F' H') (tb : TbOk K F' H') (fr : ∀ b, F b = none → F' b ≠ none → Fz (H b)) (ok : RowOk K m F' H' r) : Rs K B F' H' σ ρ := by
  have q := R.at_ i _ hi
  rw [hσ] at q
  obtain ⟨f0, h0, ok0⟩ : F r = none ∧ (B.Ha r = none ∨ (B.r = some r ∧ B.m = m ∧ noX m)) ∧ RowOk K m F H r := by
    cases q with
    | row a b c => exact ⟨a, b, c⟩
  have fre : ∀ a, F a = none → (∃ o, H a = some o ∧ ∀ xs, o ≠ HO.tup xs) → F' a = none := fun a f ⟨o, q, nt⟩ => by
    cases z : F' a with
    | none => rfl
    | some u =>
      rcases fr a f (by rw [z]; simp) with this | ⟨xs, this⟩
      · rw [q] at this; cases this
      · rw [q] at this; exact absurd (Option.some.inj this) (nt xs)
  refine ⟨sF, R.ext.trans s, fun b h1 h2 => ?_, fun b x hb e => ?_, fun r' hr => ?_, R.hr2, R.len, fun j t ht => ?_, R.apart, tb, R.tbh⟩
  · cases q : F b with
    | none => exact R.fz (fr b q h2)
    | some u => exact R.new b h1 (by rw [q]; simp)
  · refine sH b x ⟨fun z => ?_, hb.2⟩ (R.old b x hb e)
    cases z
    rcases h0 with h0 | h0
    · rw [h0] at e; cases e
    · exact hb.1 h0.1.symm
  · obtain ⟨h1, h2⟩ := R.hrow r' hr
    refine ⟨fre r' h1 h2.thereN, ?_⟩
    by_cases e : r' = r
    · subst e
      rcases h0 with h0 | h0
      · exact absurd h0 (R.hr2 _ hr)
      · rw [h0.2.1]; exact ok
    · exact h2.mono s fun o z => sH _ _ ⟨fun y => e (by cases y; rfl), h2.nob R.tb⟩ z
  · by_cases e : i = j
    · subst e
      rw [hi] at ht; cases ht
      rw [hσ]
      exact .row (fre r f0 ok0.thereN) h0 ok
    · have q2 := R.at_ j t ht
      have far : t.owns = true → σ[j]? = some (some (V.ref r)) → False := fun o e2 => R.apart i j r _ t e hi ht rfl o hσ e2
      generalize hx : σ[j]? = x at q2 far
      cases q2 with
      | no => exact .no
      | v d => exact .v (d.same s)
      | @ol c zs rs g1 g2 g3 g4 => exact .ol (fre _ g1 ⟨_, g3, fun _ z => by cases z⟩) g2 (sH _ _ ⟨fun y => far rfl (by cases y; rfl), R.tb.ne g3 (not_te rfl)⟩ g3) (g4.same s)
      | @od t c kvs g1 g2 g3 => exact .od (fre _ g1 g3.there) g2 (g3.mono s fun o z => sH _ _ ⟨fun y => far rfl (by cases y; rfl), g3.nob R.tb⟩ z)
      | @row c _ g1 g2 g3 => exact .row (fre _ g1 g3.thereN) g2 (g3.mono s fun o z => sH _ _ ⟨fun y => far rfl (by cases y; rfl), g3.nob R.tb⟩ z)
end

section
variable {X : Cx} {x : Str} {p pos : Pos} {e : Expr} {es : List Expr} {n : Nat}
def wCal (T : List D → (D → Prop) → Prop) (U : TL) : TW := fun ρ K => U ρ fun ps => T ps K
theorem sp_ok {K : Fg} {U : TL} {T : List D → (D → Prop) → Prop} (mt : ∀ ps K K', (∀ p, K p → K' p) → T ps K → T ps K') (mu : ∀ ρ K K', (∀ p, K p → K' p) → U ρ K → U ρ K') (hl : LenW U n) {σ : St} {H : Hp} {Q : VK} (h : tW K (wCal T U) σ H Q) : tCall (spF K n T) [] E0 (tEA K U) σ H Q := by
  obtain ⟨B, F, ρ, R, q⟩ := h
  refine ⟨B, F, ρ, R, mu _ _ _ (fun ps k F1 H1 vs R1 s1 d1 => ?_) (hl _ _ q)⟩
  refine ⟨by rw [List.append_nil, d1.length]; exact k.1, F1, ps, R1.sub, R1.tb, by rw [List.append_nil]; exact d1, mt _ _ _ (fun z kz F2 H2 v s2 sH sF tb fr d2 => kz F2 H2 v (R1.call s2 sH sF tb fr) (s1.trans s2) d2) k.2⟩
theorem ew_call {T : List D → (D → Prop) → Prop} {U : TL} (c : CalX X x (spF X.K n T)) (mt : ∀ ps K K', (∀ p, K p → K' p) → T ps K → T ps K') (ha : EA X (e :: es) U) (hl : LenW U n) (hg : Gl X x) (hdb : (x == ("__debug__" : Str)) = false := by decide)
    (he : starEach (e :: es) X.env = (false, eval e X.env) :: starEach es X.env := by rfl) (hpl : (backTo pos (starEach es X.env)).any (·.1) = false := by rfl) : EW X (.Call (.Name x p) (e :: es) [] pos) (wCal T U) := by
  obtain ⟨k, f, fd, ps, F, hr, hm, hk, hb⟩ := c
  exact ⟨fun ρ K K' h q => ha.mono _ _ _ (fun ps => mt ps _ _ h) q, (pe_call F hr hg hm hk hb .nil pass0 ha.pa hdb he hpl).imp fun σ H Q h => sp_ok mt ha.mono hl h⟩
theorem ef_call {g : GA} {f : Rho → Option (List D)} (c : CalX X x (spF X.K n (fun ps K => ∃ z, g ps = some z ∧ K z))) (ha : EAF X (e :: es) f) (hl : LenA f n) (hg : Gl X x) (hdb : (x == ("__debug__" : Str)) = false := by decide)
    (he : starEach (e :: es) X.env = (false, eval e X.env) :: starEach es X.env := by rfl) (hpl : (backTo pos (starEach es X.env)).any (·.1) = false := by rfl) : EF X (.Call (.Name x p) (e :: es) [] pos) (aOf g f) :=
  EW.f ((ew_call c (fun ps K K' h ⟨z, e, k⟩ => ⟨z, e, h z k⟩) ha (fun ρ K ⟨p, e, k⟩ => ⟨p, e, hl _ _ e, k⟩) hg hdb he hpl).imp (wOf_mono fW_mono) fun ρ K q => q)
/-- f(row, e, ..): the row stands at slot i -/
theorem ew_callR {T : List D → (D → Prop) → Prop} {U : TL} {i : Nat} {y : Str} {py : Pos} (c : CalX X x (spR X.K n T)) (mt : ∀ ps K K', (∀ p, K p → K' p) → T ps K → T ps K') (hN : X.N[i]? = some y) (hv : Vis X.env.scope y) (ha : EA X es U) (hl : LenW U n) (hg : Gl X x) (hdb : (x == ("__debug__" : Str)) = false := by decide)
    (hd : (y == ("__debug__" : Str)) = false := by decide) (hcd : (y == ("__classdict__" : Str)) = false := by decide)
    (he : starEach (.Name y py :: es) X.env = (false, eval (.Name y py) X.env) :: starEach es X.env := by rfl) (hpl : (backTo pos (starEach es X.env)).any (·.1) = false := by rfl) : EW X (.Call (.Name x p) (.Name y py :: es) [] pos) (fun ρ K => ρ[i]? = some .row ∧ wCal T U ρ K) := by
  obtain ⟨k, f, fd, ps, F, hr, hm, hk, hb⟩ := c
  refine ⟨fun ρ K K' h ⟨z, q⟩ => ⟨z, ha.mono _ _ _ (fun ps => mt ps _ _ h) q⟩, (pe_call F hr hg hm hk hb .nil pass0 (pa_cons (pe_var hN hv hd hcd) ha.pa he) hdb he hpl).imp fun σ H Q ⟨B, F, ρ, R, hi, q⟩ => ?_⟩
  have z := R.at_ i _ hi
  generalize hσ : σ[i]? = o at z
  cases z with
  | @row r _ f0 h0 ok =>
    refine ⟨_, hσ, B, F, ρ, R, ha.mono _ _ _ (fun ps k F1 H1 vs R1 s1 d1 => ?_) (hl _ _ q)⟩
    have z1 := R1.at_ i _ hi
    rw [hσ] at z1
    cases z1 with
    | row f1 h1 ok1 =>
      refine ⟨by rw [List.append_nil, List.length_cons, d1.length]; rw [k.1], r, vs, F1, ps, by rw [List.append_nil], R1.sub, R1.tb, f1, ok1, d1, mt _ _ _ (fun z kz F2 H2 v s2 sH sF tb fr ok2 d2 => kz F2 H2 v (R1.callR hi hσ s2 sH sF tb fr ok2) (s1.trans s2) d2) k.2⟩
end

/-- the slots at the entry -/
def rho0 (n : Nat) (ps : List D) : Rho := ps.map Sl.v ++ List.replicate (n - ps.length) .no
/-- what the body makes of the arguments -/
def runW (n : Nat) (T : TSt) : List D → (D → Prop) → Prop := fun ps K => T (rho0 n ps) fun fl => match fl with
  | .rt p => K p
  | .nx _ => K .none
  | _ => False
def runF (n : Nat) (f : Rho → Option Fl) : GA := fun ps => match f (rho0 n ps) with
  | some (.rt p) => some p
  | some (.nx _) => some .none
  | _ => none
theorem start_at {N : List Str} {vs : List V} {i : Nat} {v : V} (h : vs[i]? = some v) : (start N vs)[i]? = some (some v) := by
  unfold start
  have hl : i < vs.length := (List.getElem?_eq_some_iff.mp h).1
  rw [List.getElem?_append_left (by simpa using hl), List.getElem?_map, h]
  rfl
theorem rho0_at {n : Nat} {ps : List D} {i : Nat} {s : Sl} (h : (rho0 n ps)[i]? = some s) : s = .no ∨ ∃ p, ps[i]? = some p ∧ s = .v p := by
  unfold rho0 at h
  by_cases hl : i < ps.length
  · rw [List.getElem?_append_left (by simpa using hl), List.getElem?_map, List.getElem?_eq_getElem hl] at h
    cases h
    exact .inr ⟨_, List.getElem?_eq_getElem hl, rfl⟩
  · rw [List.getElem?_append_right (by simpa using hl), List.getElem?_replicate] at h
    split at h
    · cases h; exact .inl rfl
    · cases h
section
variable {P : Program} {w : World} {K : Fg} {mg : Str → Option Value} {base : Heap} {x qual : Str} {params : Arguments} {body : List Stmt} {scope : Scope} {f : Addr} {fd : FuncData} {N ps : List Str} {k : Nat}
theorem rs_start {F H : Hp} {vs : List V} {ds : List D} (s : Same F H) (tb : TbOk K F H) (d : DpAll K F vs ds) (hl : vs.length ≤ N.length) : Rs K ⟨F, H, none, none⟩ F H (start N vs) (rho0 N.length ds) where
  sub := s
  ext := Same.refl _
  new := fun b h1 h2 => absurd h1 h2
  old := SameX.refl _
  hrow := fun r h => by cases h
  hr2 := fun r h => by cases h
  tb := tb
  tbh := fun p hp => by obtain ⟨ps, h1, _⟩ := tb.2.1 p hp; exact ⟨ps, h1⟩
  len := by unfold start rho0; have := d.length; simp only [List.length_append, List.length_map, List.length_replicate]; omega
  at_ := fun i t ht => by
    rcases rho0_at ht with rfl | ⟨p, hp, rfl⟩
    · exact .no
    · obtain ⟨v, hv, dv⟩ := d.get hp
      rw [start_at hv]
      exact .v dv
  apart := fun i j a s t hij h1 h2 o1 o2 e1 e2 => by
    rcases rho0_at h1 with rfl | ⟨p, hp, rfl⟩ <;> cases o1
/-- THE RULE: a def without draws -/
theorem fn_pure {T : TSt} {n : Nat} (Fd : FunD K x qual params body scope [] [] f fd) (S : FnScope N ps scope) (hn : ps.length = n) (hnN : n ≤ N.length)
    (hb : ∀ (cdv : Value) (A : Around) (outer : List Env) (s : Shared) (H : Hp) (E : XK), Room k (A.deeper (envOfC qual scope s.heap.objs.size f cdv)) → SWs (cxOf CX0 P w K mg base N qual scope f cdv A outer s H E).nox body T) :
    FnOk P w K mg base CX0 (k + 1) f fd ps (spF K n (runW N.length T)) := by
  refine Fd.ok S (fun vs H Q E h => by rw [h.1, hn]) fun cdv A outer s H vs Q E hr h => ?_
  have W := hb cdv A outer s H E hr
  refine ⟨_, PSs.nox W.pss, ?_⟩
  obtain ⟨hl, F, ds, sF, tb, d, q⟩ := h
  refine ⟨⟨F, H, none, none⟩, F, rho0 N.length ds, rs_start sF tb d (by omega), W.mono _ _ _ (fun fl k => ?_) q⟩
  cases fl with
  | nx ρ' => exact fun F' H' σ' R' s' => k F' H' .non s' R'.old R'.sub R'.tb R'.new .non
  | rt p => exact fun F' H' v ⟨σ', ρ', R'⟩ s' d' => k F' H' v s' R'.old R'.sub R'.tb R'.new d'
  | bk ρ' => exact k.elim
  | ct ρ' => exact k.elim
theorem fn_pureF {g : Rho → Option Fl} {n : Nat} (Fd : FunD K x qual params body scope [] [] f fd) (S : FnScope N ps scope) (hn : ps.length = n) (hnN : n ≤ N.length)
    (hb : ∀ (cdv : Value) (A : Around) (outer : List Env) (s : Shared) (H : Hp) (E : XK), Room k (A.deeper (envOfC qual scope s.heap.objs.size f cdv)) → SFs (cxOf CX0 P w K mg base N qual scope f cdv A outer s H E).nox body g) :
    FnOk P w K mg base CX0 (k + 1) f fd ps (spF K n (fun ds Kc => ∃ z, runF N.length g ds = some z ∧ Kc z)) := by
  refine FnOk.imp (fn_pure Fd S hn hnN hb) fun vs H Q E ⟨h0, F, ds, s, tb, d, z, e, q⟩ => ⟨h0, F, ds, s, tb, d, ?_⟩
  unfold runF at e
  split at e
  · rename_i p h; cases e; exact ⟨_, h, q⟩
  · rename_i p h; cases e; exact ⟨_, h, q⟩
  · cases e
/-- a weaker promise: by another function -/
theorem FnOk.fn {n : Nat} {g g' : GA} (h : FnOk P w K mg base CX0 k f fd ps (spF K n (fun ds Kc => ∃ z, g ds = some z ∧ Kc z))) (e : ∀ ds z, g' ds = some z → g ds = some z) : FnOk P w K mg base CX0 k f fd ps (spF K n (fun ds Kc => ∃ z, g' ds = some z ∧ Kc z)) :=
  FnOk.imp h fun vs H Q E ⟨h0, F, ds, s, tb, d, z, e1, q⟩ => ⟨h0, F, ds, s, tb, d, z, e ds z e1, q⟩
end
end L2.P


set_option Elab.async false
set_option linter.all false
set_option maxRecDepth 100000
set_option maxHeartbeats 4000000
namespace L2.P
open PySem PySem.Spec PyProof.Rows L2
/-- built-in names that the module does not bind -/
structure Bi (mg : Str → Option Value) : Prop where
  len : mg "len" = none
  range : mg "range" = none
  tuple : mg "tuple" = none
  list : mg "list" = none
  sorted : mg "sorted" = none
  set : mg "set" = none
  any : mg "any" = none
  all : mg "all" = none
  min : mg "min" = none
  max : mg "max" = none
  sum : mg "sum" = none
  abs : mg "abs" = none
  int : mg "int" = none
  str : mg "str" = none
  bool : mg "bool" = none
  isinstance : mg "isinstance" = none
  enumerate : mg "enumerate" = none
  zip : mg "zip" = none
/-- a def that stands behind the top -/
def DefOk (P : Program) (w : World) (K : Fg) (mg : Str → Option Value) (base : Heap) (x : Str) (k : Nat) (sp : Sp) : Prop :=
  ∃ (f : Addr) (fd : FuncData) (ps : List Str), FnOk P w K mg base CX0 k f fd ps sp ∧ mg x = some (.ref f) ∧ PySem.W.keepIn K (.ref f) = true ∧ Binds K fd ps []
theorem DefOk.cal {P : Program} {w : World} {K : Fg} {mg : Str → Option Value} {base : Heap} {x : Str} {k j : Nat} {sp : Sp} {A : Around} (h : DefOk P w K mg base x k sp) (hr : Room j A) (hk : k ≤ j := by decide) : Cal P w K mg base A x sp := by
  obtain ⟨f, fd, ps, F, m, kp, b⟩ := h
  exact ⟨k, f, fd, ps, F, hr.mono hk, m, kp, b⟩
abbrev spG (K : Fg) (n : Nat) (g : GA) : Sp := spF K n (fun ps Kc => ∃ z, g ps = some z ∧ Kc z)
abbrev DG (P : Program) (w : World) (K : Fg) (mg : Str → Option Value) (base : Heap) (x : Str) (k n : Nat) (g : GA) : Prop := DefOk P w K mg base x k (spG K n g)
section
variable {X : Cx} {a b e : Expr} {es : List Expr} {p pos : Pos}
theorem ev (i : Nat) {x : Str} {pos : Pos} (hN : X.N[i]? = some x := by rfl) (hv : Vis X.env.scope x := by first | exact Or.inl rfl | exact Or.inr (Or.inl rfl) | exact Or.inr (Or.inr rfl)) (hd : (x == ("__debug__" : Str)) = false := by decide)
    (hcd : (x == ("__classdict__" : Str)) = false := by decide) : EF X (.Name x pos) (gV i) := ef_var hN hv hd hcd
theorem xv (i : Nat) {x : Str} {pos : Pos} (hN : X.N[i]? = some x := by rfl) (hv : Vis X.env.scope x := by first | exact Or.inl rfl | exact Or.inr (Or.inl rfl) | exact Or.inr (Or.inr rfl)) (hd : (x == ("__debug__" : Str)) = false := by decide)
    (hcd : (x == ("__classdict__" : Str)) = false := by decide) : XF X (.Name x pos) (gX i) := xf_var hN hv hd hcd
theorem ef_gint {i : Int} {x : Str} {pos : Pos} (h : ∃ t, X.mg x = some (.int i t)) (hg : Gl X x := by rfl) (hd : (x == ("__debug__" : Str)) = false := by decide) : EF X (.Name x pos) (gC (.int i)) := by
  obtain ⟨t, h⟩ := h
  exact ef_con (pe_glob (v := .int i) hg h ⟨_, rfl⟩ hd) fun _ _ => .int i
theorem c_len {f : Rho → Option (List D)} (B : Bi X.mg) (h : XAF X [a] f) (hg : Gl X "len" := by rfl) (he : starEach [a] X.env = (false, eval a X.env) :: starEach [] X.env := by rfl) : EF X (.Call (.Name "len" p) [a] [] pos) (aOf gLen f) := EW.f (ew_callB cg_len h hg B.len boot_len (he := he) (hpl := rfl))
theorem c_tuple {f : Rho → Option (List D)} (B : Bi X.mg) (h : XAF X [a] f) (hg : Gl X "tuple" := by rfl) (he : starEach [a] X.env = (false, eval a X.env) :: starEach [] X.env := by rfl) : EF X (.Call (.Name "tuple" p) [a] [] pos) (aOf gTup f) := EW.f (ew_callT cg_tuple h hg B.tuple (by decide +kernel) (he := he) (hpl := rfl))
theorem n_list {f : Rho → Option (List D)} (B : Bi X.mg) (h : XAF X [a] f) (hg : Gl X "list" := by rfl) (he : starEach [a] X.env = (false, eval a X.env) :: starEach [] X.env := by rfl) : NF X (.Call (.Name "list" p) [a] [] pos) (aOf gLst f) := NW.f (nw_callT cn_list h hg B.list (by decide +kernel) (he := he) (hpl := rfl))
theorem c_any {f : Rho → Option (List D)} (B : Bi X.mg) (h : XAF X [a] f) (hc : X.calm = true := by rfl) (hg : Gl X "any" := by rfl) (he : starEach [a] X.env = (false, eval a X.env) :: starEach [] X.env := by rfl) : EF X (.Call (.Name "any" p) [a] [] pos) (aOf gAny f) := EW.f (ew_callB (cg_any hc) h hg B.any (by decide +kernel) (he := he) (hpl := rfl))
theorem c_all {f : Rho → Option (List D)} (B : Bi X.mg) (h : XAF X [a] f) (hc : X.calm = true := by rfl) (hg : Gl X "all" := by rfl) (he : starEach [a] X.env = (false, eval a X.env) :: starEach [] X.env := by rfl) : EF X (.Call (.Name "all" p) [a] [] pos) (aOf gAll f) := EW.f (ew_callB (cg_all hc) h hg B.all (by decide +kernel) (he := he) (hpl := rfl))
end
end L2.P
namespace L2.P
open PySem PySem.Spec PyProof.Rows L2
theorem gw_sub {X : Cx} {tg : Expr} {g : Tg} {is is' : List Nat} (h : GW X tg g is) (hs : ∀ i ∈ is, i ∈ is' := by decide) : GW X tg g is' :=
  PG.imp h fun x σ H Q ⟨B, F, ρ, p, ρ', R, d, e, q⟩ => ⟨B, F, ρ, p, ρ', R, d, e, fun σ' R' hl h1 h2 => q σ' R' hl (fun j hj => h1 j fun z => hj (hs j z)) fun j hj => h2 j fun z => hj (hs j z)⟩
end L2.P
namespace L2.P
open PySem PySem.Spec PyProof.Rows L2
theorem bt_int : bootBuiltins "int" = some (.type "int") := by decide +kernel
theorem bt_bool : bootBuiltins "bool" = some (.type "bool") := by decide +kernel
theorem bt_str : bootBuiltins "str" = some (.type "str") := by decide +kernel
theorem bt_list : bootBuiltins "list" = some (.type "list") := by decide +kernel
theorem bt_tuple : bootBuiltins "tuple" = some (.type "tuple") := by decide +kernel
theorem bt_isi : bootBuiltins "isinstance" = some (.builtin "isinstance") := by decide +kernel
end L2.P


set_option Elab.async false
set_option linter.all false
set_option maxRecDepth 100000
set_option maxHeartbeats 4000000
namespace PySem
open Sem (wp)
open AutoSeq1 (wpAny_loadPart')
theorem meets_enumerate_newT_P (l : Addr) (items : Array Value) (n : Nat) (dct : Option Addr) (sl : Array (Option Value)) :
    Meets (Builtin.«enumerate.__new__» ⟨[.type "enumerate", .ref l], []⟩) (fun _ R s => s.heap.get? l = some { cls := .type "tuple", dict := dct, data := .seq items n, slots := sl } ∧
      R (.ok (.ret (.ref (s.heap.push { cls := .type "tuple_iterator", data := .fields #[.ref l, .int 0 0] }).objs.size)))
        { s with heap := (s.heap.push { cls := .type "tuple_iterator", data := .fields #[.ref l, .int 0 0] }).push { cls := .type "enumerate", data := .fields #[.none, .bool false, .ref s.heap.objs.size, rawInt 0, .none, .none] } }) :=
  .of_wp fun prog w A R s h => by
    obtain ⟨hp, g, d, tk, os⟩ := s; obtain ⟨hl, h⟩ := h
    have hsub := sub_enumerate
    have hL : Heap.IsTuple (Shared.heap ⟨hp, g, d, tk, os⟩) l items := ⟨_, hl, rfl, n, rfl⟩
    wp_walk using wpAny_loadPart' hl
    refine wpAny_stack_any fun st => wpAny_pure ?_
    split
    · rename_i c _ _ _ _ _
      cases (c == Value.type "enumerate")
      · wp_walk using wpAny_loadPart' hl, wpAny_pyIter_tuple hL
        exact ⟨_, rfl, h⟩
      · wp_walk using wpAny_loadPart' hl, wpAny_pyIter_tuple hL
        exact ⟨_, rfl, h⟩
    · wp_walk using wpAny_loadPart' hl, wpAny_pyIter_tuple hL
      exact ⟨_, rfl, h⟩
section
variable {prog : Program} {w : World} {A : Around} {E : Value → Shared → Prop} {s : Shared}
theorem call_enumerate_tuple_P {l : Addr} {items : Array Value} {Q : Value → Shared → Prop} (hL : s.heap.IsTuple l items)
    (h : ∀ h', IsEnum h' (s.heap.objs.size + 1) s.heap.objs.size 0 .none → h'.IsTupleIter s.heap.objs.size l 0 → h'.objs.size = s.heap.objs.size + 2 →
      (∀ b o, s.heap.get? b = some o → h'.get? b = some o) → Q (.ref (s.heap.objs.size + 1)) { s with heap := h' }) :
    wpAny (model prog w) A (call (.type "enumerate") [.ref l]) Q E s := by
  obtain ⟨⟨c, dct, dt, sl⟩, hl, hc, n, hd⟩ := hL
  replace hc : c = .type "tuple" := hc
  replace hd : dt = .seq items n := hd
  subst hc hd
  refine callType_new F.called_enumerate (by decide) (F.typeCall_enumerate_1 _) (F.newCall_enumerate_1 _) (fun obj => F.args_object_init_2 obj _) F.entry_enumerate_new
    (meets_enumerate_newT_P l items n dct sl) ⟨hl, ?_⟩
  have hz : (s.heap.push { cls := .type "tuple_iterator", data := .fields #[.ref l, .int 0 0] }).objs.size = s.heap.objs.size + 1 := Heap.size_push ..
  show _ ∧ _
  rw [hz]
  have he : IsEnum ((s.heap.push { cls := .type "tuple_iterator", data := .fields #[.ref l, .int 0 0] }).push
      { cls := .type "enumerate", data := .fields #[.none, .bool false, .ref s.heap.objs.size, rawInt 0, .none, .none] }) (s.heap.objs.size + 1) s.heap.objs.size 0 .none := by
    have := Heap.get?_push_size (s.heap.push { cls := .type "tuple_iterator", data := .fields #[.ref l, .int 0 0] })
      (o := { cls := .type "enumerate", data := .fields #[.none, .bool false, .ref s.heap.objs.size, rawInt 0, .none, .none] }) rfl
    rw [hz] at this; exact this
  refine ⟨⟨_, he, rfl⟩, h _ he ⟨_, Heap.get?_push_of_some _ (Heap.get?_push_size _ rfl), rfl, rfl⟩ (by rw [Heap.size_push, hz]) fun b o x => Heap.get?_push_of_some _ (Heap.get?_push_of_some _ x)⟩
end
end PySem
namespace L2.P
open PySem PySem.Spec PyProof.Rows L2
/-- the tuple at a, each item in a new pair -/
def ItetP (K : Fg) (a : Addr) : It :=
  ⟨fun i H => ∃ (xs : List V) (x : V), SqT K H a xs ∧ xs[i]? = some x, fun i H v H' => ∃ T x, v = .ref T ∧ H T = none ∧ H' = upd H T (.tup [.int (i : Nat), x]) ∧ ∀ xs, SqT K H a xs → xs[i]? = some x, fun i H => ∃ xs : List V, SqT K H a xs ∧ xs.length = i⟩
theorem turn_enumT {P : Program} {w : World} {K : Fg} {elts : List Expr} {kk : Nat} {tpos : Pos} (a e it : Addr) (hae : a ≠ e) (hai : a ≠ it) :
    Turn P w K (.Tuple elts kk tpos) (ItetP K a) [e, it] e (fun i h => (∃ old, IsEnum h e it ((i : Nat) : Int) old) ∧ h.IsTupleIter it a i ∧ e ≠ it) where
  mem := by simp
  obj := fun i h st b hb => by
    obtain ⟨⟨old, he⟩, ⟨o, ho, hc, hd⟩, _⟩ := st
    have e' : b = e ∨ b = it := by simpa using hb
    rcases e' with z | z
    · rw [z]; exact ⟨_, he, fun v q => nomatch q⟩
    · rw [z]; exact ⟨o, ho, fun v q => by rw [hd] at q; cases q⟩
  keep := fun i h h' st k => let ⟨⟨old, he⟩, hi, hne⟩ := st; ⟨⟨old, k e (by simp) _ he⟩, hi.at fun o q => k it (by simp) o q, hne⟩
  item := by
    intro X hP hw hK hc i pins s σ H E I hf st hg
    subst hP hw hK
    obtain ⟨⟨old, he⟩, hit, hne⟩ := st
    obtain ⟨xs, x, hq, hx⟩ := hg
    obtain ⟨its, rv, p, hz⟩ := I.tuple hq
    obtain ⟨u, hu, ru⟩ := rv.get hx
    have hel : e < s.heap.objs.size := Heap.lt_size he
    have hil : it < s.heap.objs.size := by obtain ⟨_, q, _⟩ := hit; exact Heap.lt_size q
    have hii : i < its.toArray.size := by
      have := (List.getElem?_eq_some_iff.mp hu).1
      simpa using this
    refine wpAny_pyNext_enum_itemD (Draws.tuple (A := X.A.in1) (I.ok.hd hc) it a hai its.toArray) he ⟨hit, p⟩ hii hne (by simp [hne, hae.symm]) fun y h' tk hy ho hst hT hsz hk => ?_
    have ey : y = u := by
      have : its.toArray[i]? = some u := by simpa using hu
      rw [this] at hy; exact (Option.some.inj hy).symm
    subst ey
    refine ⟨_, rfl, wpAny_letOwnedTupleGo_enum (s := { s with heap := h', toks := tk + 1 }) ho fun h'' he' sb => ?_⟩
    have hT2 : h''.get? s.heap.objs.size = some { cls := .type "tuple", data := .seq #[.int i tk, y] } := (sb.2 _ (Nat.ne_of_gt hel)).trans hT
    have new : ObjOk X.prog X.w (upd H s.heap.objs.size (.tup [.int (i : Nat), x])) h'' s.heap.objs.size (.tup [.int (i : Nat), x]) :=
      ⟨by show 2 ≤ sizeLine; decide, [.int i tk, y], .cons ⟨_, rfl⟩ (.cons ru .nil), ⟨_, hT2, rfl, _, rfl⟩⟩
    have I1 : Inv X pins σ (upd H s.heap.objs.size (.tup [.int (i : Nat), x])) { s with heap := h'', toks := tk + 1 } :=
      I.turnedNew (ch := [e, it]) (fun b ob hb q => (sb.2 b (fun z => hb (by simp [z]))).trans (hk b ob (fun z => hb (by simp [z])) (fun z => hb (by simp [z])) q)) hf (Nat.le_refl _) new
    refine ⟨.ref s.heap.objs.size, _, I1, rfl, ⟨_, x, rfl, I.hok.fresh (Nat.le_refl _), rfl, fun ys hy => by rw [I.tuple_inj hy hq]; exact hx⟩, ⟨⟨y, ?_⟩, hst.1.at fun o q => (sb.2 it (Ne.symm hne)).trans q, hne⟩, fun b hb => ?_⟩
    · have e1 : ((i + 1 : Nat) : Int) = (i : Int) + 1 := by omega
      rw [e1]; exact he'
    · have hb' : b < s.heap.objs.size := by
        have e' : b = e ∨ b = it := by simpa using hb
        rcases e' with z | z
        · rw [z]; exact hel
        · rw [z]; exact hil
      rw [upd_ne (Nat.ne_of_lt hb')]
      exact (hf b hb).1
  done := by
    intro X hP hw hK hc i pins s σ H E I hf st hg
    subst hP hw hK
    obtain ⟨⟨old, he⟩, hit, hne⟩ := st
    obtain ⟨xs, hq, hx⟩ := hg
    obtain ⟨its, rv, p, hz⟩ := I.tuple hq
    obtain ⟨f0, f1, f2, f3, f4, f5⟩ := hf it (by simp)
    have hl := rv.length
    have hi : its.toArray.size = i := by rw [List.size_toArray]; omega
    subst hi
    exact wpAny_pyNext_enum_endD (Draws.tuple (A := X.A.in1) (I.ok.hd hc) it a hai its.toArray) he ⟨hit, p⟩ fun h' eb => ⟨rfl, I.turned (t' := s.toks) (fun b o hb q => eb b o hb q) f0 f1 f3 f4 f5⟩
  self := fun A i s Q E st h => let ⟨⟨_, he⟩, _⟩ := st; wpAny_pyIter_enum he h
def iEnumG (K : Fg) (ta : TA) : TI := fun σ H R => ta σ H fun vs H1 => ∃ a xs, vs = [.ref a] ∧ ((SqL K H1 a xs ∧ R (Ite K a) H1) ∨ (SqT K H1 a xs ∧ R (ItetP K a) H1))
theorem pi_enumG {X : Cx} {e : Expr} {ta : TA} {p pos tpos : Pos} {elts : List Expr} {kk : Nat} (hg : Gl X "enumerate") (hm : X.mg "enumerate" = none) (ha : PA X [e] ta) (hs : starEach [e] X.env = [(false, eval e X.env)] := by rfl) :
    PI X (.Tuple elts kk tpos) (.Call (.Name "enumerate" p) [e] [] pos) (iEnumG X.K ta) := by
  refine ⟨fun pins s σ H R I h => ?_⟩
  refine Call_ (ld_blt I hg hm boot_enumerate (PyProof.Rows.callWith_type1 (thn (ha.run pos pins s σ H _ I h) fun us s1 ⟨vs, H1, I1, r1, q1⟩ => ?_) hs rfl))
  obtain ⟨a, xs, ex, q⟩ := q1
  subst ex
  have fpk : ∀ b ∈ [s1.heap.objs.size + 1, s1.heap.objs.size], FpOk X pins H1 b := fun b hb => by
    have e' : b = s1.heap.objs.size + 1 ∨ b = s1.heap.objs.size := by simpa using hb
    have hle : s1.heap.objs.size ≤ b := by
      rcases e' with z | z
      · rw [z]; exact Nat.le_add_right _ _
      · rw [z]; exact Nat.le_refl _
    exact I1.fpOk hle (I1.hok.fresh hle)
  cases r1 with
  | cons r rr =>
    cases rr
    cases r
    rcases q with ⟨hq, q⟩ | ⟨hq, q⟩
    · obtain ⟨its, rv, p', hz⟩ := I1.list hq
      refine call_enumerate_list p'.isList fun h' he hit hsz hk => wpAny_pyIter_enum he ?_
      have I2 : Inv X pins σ H1 { s1 with heap := h' } := I1.kept (t' := s1.toks) hk
      exact ⟨s1.heap.objs.size + 1, [s1.heap.objs.size + 1, s1.heap.objs.size], _, _, H1, rfl, I2, turn_enum a (s1.heap.objs.size + 1) s1.heap.objs.size, ⟨⟨.none, he⟩, hit, Nat.succ_ne_self _⟩, fpk, q⟩
    · obtain ⟨its, rv, p', hz⟩ := I1.tuple hq
      have hla : a < s1.heap.objs.size := p'.lt
      refine call_enumerate_tuple_P (show s1.heap.IsTuple a its.toArray from p') fun h' he hit hsz hk => wpAny_pyIter_enum he ?_
      have I2 : Inv X pins σ H1 { s1 with heap := h' } := I1.kept (t' := s1.toks) hk
      exact ⟨s1.heap.objs.size + 1, [s1.heap.objs.size + 1, s1.heap.objs.size], _, _, H1, rfl, I2, turn_enumT a (s1.heap.objs.size + 1) s1.heap.objs.size (Nat.ne_of_lt (Nat.lt_succ_of_lt hla)) (Nat.ne_of_lt hla), ⟨⟨.none, he⟩, hit, Nat.succ_ne_self _⟩, fpk, q⟩
/-- the items with their places -/
def enumD (ps : List D) : List D := (List.range ps.length).map fun i => .tuple [.int (i : Nat), ps.getD i .none]
theorem enumD_length (ps : List D) : (enumD ps).length = ps.length := by unfold enumD; rw [List.length_map, List.length_range]
theorem enumD_at {ps : List D} {i : Nat} {p : D} (h : ps[i]? = some p) : (enumD ps)[i]? = some (.tuple [.int (i : Nat), p]) := by
  unfold enumD
  have hl : i < ps.length := (List.getElem?_eq_some_iff.mp h).1
  rw [List.getElem?_map, List.getElem?_range hl, Option.map_some, List.getD_eq_getElem?_getD, h]
  rfl
section
variable {X : Cx}
theorem wlk_enumL {K : Fg} {F : Hp} {a : Addr} {xs : List V} {ps : List D} (s : SqL K F a xs) (d : DpAll K F xs ps) : Wlk K F (Ite K a) (enumD ps) where
  go := fun i H hi e => by
    rw [enumD_length] at hi
    have hl := d.length
    exact ⟨xs, xs[i], sqL_same e s, by simp⟩
  stop := fun H e => ⟨xs, sqL_same e s, by rw [enumD_length, d.length]; exact Nat.le_refl _⟩
  yld := fun i H x H' hi e ⟨T, y, ev, n, eH, y2⟩ => by
    obtain ⟨p, hp, dp⟩ := d.getV (y2 xs (sqL_same e s))
    exact ⟨_, enumD_at hp, .inr ⟨T, _, _, _, _, ev, n, eH, rfl, .int _, dp⟩⟩
theorem wlk_enumT {K : Fg} {F : Hp} {a : Addr} {xs : List V} {ps : List D} (s : SqT K F a xs) (d : DpAll K F xs ps) : Wlk K F (ItetP K a) (enumD ps) where
  go := fun i H hi e => by
    rw [enumD_length] at hi
    have hl := d.length
    exact ⟨xs, xs[i], sqT_same e s, by simp⟩
  stop := fun H e => ⟨xs, sqT_same e s, by rw [enumD_length, d.length]⟩
  yld := fun i H x H' hi e ⟨T, y, ev, n, eH, y2⟩ => by
    obtain ⟨p, hp, dp⟩ := d.getV (y2 xs (sqT_same e s))
    exact ⟨_, enumD_at hp, .inr ⟨T, _, _, _, _, ev, n, eH, rfl, .int _, dp⟩⟩
def fEnum (f : Rho → Option D) : Rho → Option (List D) := fun ρ => (f ρ).bind fun p => (items p).map enumD
theorem if_enum {e : Expr} {f : Rho → Option D} {p pos tpos : Pos} {elts : List Expr} {kk : Nat} (bi : Bi X.mg) (h : EF X e f) (hg : Gl X "enumerate" := by rfl) (hs : starEach [e] X.env = [(false, eval e X.env)] := by rfl) :
    IF X (.Tuple elts kk tpos) (.Call (.Name "enumerate" p) [e] [] pos) (fEnum f) :=
  ⟨fW_mono, PI.imp (pi_enumG hg bi.enumerate (pa_cons (PE.lens h.pe) pa_nil hs) hs) fun σ H R ⟨B, F, ρ, R0, qs, e, k⟩ => by
    obtain ⟨x, e1, e2⟩ := Option.bind_eq_some_iff.mp e
    obtain ⟨ps, e3, rfl⟩ := Option.map_eq_some_iff.mp e2
    refine ⟨B, F, ρ, R0, x, e1, fun F' H' v R' s' d hL => ?_⟩
    unfold items at e3
    split at e3
    · cases e3
      obtain ⟨a, xs, rfl, s, r⟩ := Dp.inv_lst d
      refine ⟨a, xs, rfl, .inl ⟨sqL_same R'.sub s, k F' H' _ R' s' ?_ (wlk_enumL s r)⟩⟩
      rw [enumD_length, ← r.length]
      exact hL a xs (.inl (sqL_same R'.sub s))
    · cases e3
      obtain ⟨a, xs, rfl, s, r⟩ := Dp.inv_tup d
      refine ⟨a, xs, rfl, .inr ⟨sqT_same R'.sub s, k F' H' _ R' s' ?_ (wlk_enumT s r)⟩⟩
      rw [enumD_length, ← r.length]
      exact hL a xs (.inr (sqT_same R'.sub s))
    · cases e3⟩

def RgB (z : Int × Int) : Bool := decide (0 ≤ z.1) && decide (z.1 ≤ 16777216) && decide (0 ≤ z.2) && decide (z.2 ≤ 16777216)
theorem RgB.ok {z : Int × Int} (h : RgB z = true) : RgOk z.1 z.2 := by
  unfold RgB at h
  simp only [Bool.and_eq_true, decide_eq_true_eq] at h
  exact RgOk.of_le h.1.1.1 h.2 h.1.1.2 h.1.2
def rSetT (w : World) (K : Fg) : List V → Hp → VK → Prop := fun xs H Q => ∃ (a : Addr) (ns : List Int), xs = [.ref a] ∧ SqT K H a (ns.map V.int) ∧ ns.length ≤ 1000 ∧
  ∀ (p : Addr) (c : Nat), H p = none → c ≤ ns.length → Q (.ref p) (upd H p (SetO w p (fun j => decide (j ∈ ns)) c))
theorem cr_setT (hc : X.calm = true) : CallR X (.type "set") (rSetT X.w X.K) := by
  intro pins s σ H xs us Q I r h
  obtain ⟨a, ns, rfl, hs, hl, q⟩ := h
  obtain ⟨its, rv, ht, hz⟩ := I.tuple hs
  rw [Vals.ref1 r]
  have hsb : ns.length + 1 < scanBound := Nat.lt_of_le_of_lt (Nat.add_le_add_right hl 1) (by decide)
  refine call_set_tupI ns (I.ok.hd hc) ht (by simpa using rv.ints) hsb fun h' tk c R hcl hk => ?_
  exact ⟨.ref _, upd H s.heap.objs.size (SetO X.w s.heap.objs.size (fun j => decide (j ∈ ns)) c), I.laid (t' := tk) hk (Nat.le_refl _) (setO_new R), rfl, q _ c (I.hok.fresh (Nat.le_refl _)) hcl⟩
/-- the ints of ns, each once, in order -/
def insI (n : Int) : List Int → List Int
  | [] => [n]
  | m :: ms => if n < m then n :: m :: ms else if n = m then m :: ms else m :: insI n ms
def sortD : List Int → List Int
  | [] => []
  | n :: ns => insI n (sortD ns)
theorem mem_insI {n k : Int} : ∀ {ms : List Int}, k ∈ insI n ms ↔ k = n ∨ k ∈ ms
  | [] => by simp [insI]
  | m :: ms => by
    unfold insI
    split
    · simp
    · split
      · rename_i h1 h2; subst h2; simp
      · simp only [List.mem_cons, mem_insI]
        constructor
        · rintro (h | h | h)
          · exact .inr (.inl h)
          · exact .inl h
          · exact .inr (.inr h)
        · rintro (h | h | h)
          · exact .inr (.inl h)
          · exact .inl h
          · exact .inr (.inr h)
theorem mem_sortD {k : Int} : ∀ {ns : List Int}, k ∈ sortD ns ↔ k ∈ ns
  | [] => by simp [sortD]
  | n :: ns => by unfold sortD; rw [mem_insI, mem_sortD]; simp
theorem pw_insI {n : Int} : ∀ {ms : List Int}, ms.Pairwise (· < ·) → (insI n ms).Pairwise (· < ·)
  | [], _ => List.pairwise_singleton _ _
  | m :: ms, h => by
    obtain ⟨h1, h2⟩ := List.pairwise_cons.mp h
    unfold insI
    split
    · rename_i hn
      refine List.pairwise_cons.mpr ⟨fun k hk => ?_, h⟩
      rcases List.mem_cons.mp hk with rfl | hk
      · exact hn
      · have := h1 k hk; omega
    · split
      · exact h
      · rename_i h3 h4
        refine List.pairwise_cons.mpr ⟨fun k hk => ?_, pw_insI h2⟩
        rcases mem_insI.mp hk with rfl | hk
        · omega
        · exact h1 k hk
theorem pw_sortD : ∀ ns : List Int, (sortD ns).Pairwise (· < ·)
  | [] => List.Pairwise.nil
  | n :: ns => pw_insI (pw_sortD ns)
theorem pw_unique : ∀ {xs ys : List Int}, xs.Pairwise (· < ·) → ys.Pairwise (· < ·) → (∀ k, k ∈ xs ↔ k ∈ ys) → xs = ys
  | [], [], _, _, _ => rfl
  | [], y :: ys, _, _, h => absurd ((h y).mpr List.mem_cons_self) (by simp)
  | x :: xs, [], _, _, h => absurd ((h x).mp List.mem_cons_self) (by simp)
  | x :: xs, y :: ys, hx, hy, h => by
    obtain ⟨a1, a2⟩ := List.pairwise_cons.mp hx
    obtain ⟨b1, b2⟩ := List.pairwise_cons.mp hy
    have e : x = y := by
      rcases List.mem_cons.mp ((h x).mp List.mem_cons_self) with e | e
      · exact e
      · rcases List.mem_cons.mp ((h y).mpr List.mem_cons_self) with e2 | e2
        · exact e2.symm
        · have := b1 x e; have := a1 y e2; omega
    subst e
    rw [pw_unique a2 b2 fun k => ?_]
    constructor
    · intro hk
      rcases List.mem_cons.mp ((h k).mp (List.mem_cons_of_mem _ hk)) with e | e
      · subst e; have := a1 k hk; omega
      · exact e
    · intro hk
      rcases List.mem_cons.mp ((h k).mpr (List.mem_cons_of_mem _ hk)) with e | e
      · subst e; have := b1 k hk; omega
      · exact e
def dSortSet : D → Option (List D)
  | .tuple xs => (intsD xs).bind fun ns => if ns.length < 64 then some ((sortD ns).map PyData.int) else none
  | _ => none
def nSortSet (f : Rho → Option D) : Rho → Option (List D) := fun ρ => (f ρ).bind dSortSet
theorem bt_sorted : bootBuiltins "sorted" = some (.builtin "sorted") := by decide +kernel
theorem bt_set : bootBuiltins "set" = some (.type "set") := by decide +kernel
theorem n_sortSet {e : Expr} {f : Rho → Option D} {p p2 pos pos2 : Pos} (bi : Bi X.mg) (h : XF X e f) (hc : X.calm = true := by rfl) (hg : Gl X "sorted" := by rfl) (hg2 : Gl X "set" := by rfl)
    (he2 : starEach [e] X.env = (false, eval e X.env) :: starEach [] X.env := by rfl) (he : starEach [.Call (.Name "set" p2) [e] [] pos2] X.env = (false, eval (.Call (.Name "set" p2) [e] [] pos2) X.env) :: starEach [] X.env := by rfl) :
    NF X (.Call (.Name "sorted" p) [.Call (.Name "set" p2) [e] [] pos2] [] pos) (nSortSet f) :=
  ⟨fW_mono, (pe_callB (cr_sortedSet hc) hg bi.sorted bt_sorted (pa_cons (pe_callTy (cr_setT hc) hg2 bi.set bt_set (pa_cons h.pe pa_nil he2) (he := he2) (hpl := rfl)) pa_nil he) (he := he) (hpl := rfl)).imp fun σ H Q ⟨B, F, ρ, R, ps, e, k⟩ => by
    obtain ⟨x, e1, e2⟩ := Option.bind_eq_some_iff.mp e
    unfold dSortSet at e2
    split at e2
    · obtain ⟨ns, e3, e4⟩ := Option.bind_eq_some_iff.mp e2
      split at e4
      · rename_i h64
        cases e4
        refine ⟨B, F, ρ, R, _, e1, fun F' H' v R' s' d => ?_⟩
        obtain ⟨a, xs, rfl, s, r⟩ := Dp.inv_tup (d.dp (Same.refl _) R')
        rw [intsD_some e3] at r
        rw [dpAll_ints ns r] at s
        refine ⟨a, ns, rfl, s, by omega, fun q c hq hcl => ?_⟩
        refine ⟨q, _, c, rfl, upd_same, by omega, fun ms l hp hm hl hn => ?_⟩
        have em : ms = sortD ns := pw_unique hp (pw_sortD ns) fun z => by rw [hm z, mem_sortD]; simp
        subst em
        exact k F' _ l _ (R'.lay hq) s' hn (dpAll_of_ints _)
      · cases e4
    · cases e2⟩
end
end L2.P


set_option Elab.async false
set_option linter.all false
set_option maxRecDepth 100000
set_option maxHeartbeats 4000000
namespace L2.P
open PySem PySem.Spec PyProof.Rows L2
/-- a number from 0 on below the argument -/
def wTaken : List D → (D → Prop) → Prop := fun ps K => ∃ m : Int, ps = [.int m] ∧ 0 < m ∧ m < 1073741824 ∧ ∀ k : Int, 0 ≤ k → k < m → K (.int k)
theorem wTaken_mono (ps : List D) (K K' : D → Prop) (h : ∀ p, K p → K' p) (q : wTaken ps K) : wTaken ps K' := by
  obtain ⟨m, e, h1, h2, k⟩ := q
  exact ⟨m, e, h1, h2, fun i a b => h _ (k i a b)⟩
theorem upd_self {H : Hp} {a : Addr} {o : HO} (h : H a = some o) : upd H a o = H := by
  funext b
  by_cases e : b = a
  · subst e; rw [upd_same, h]
  · rw [upd_ne e]
/-- row[j] -/
theorem row_at {K : Fg} {σ : St} {H : Hp} {Q : VK} {r : Addr} {L : List V} {j : Int} {v : V} (hσ : σ[0]? = some (some (.ref r))) (e : atI L j = some v) (q : Q v (upd H r (.lst L))) : tOp (rIxL K) (tVar 0) (tC (.int j)) σ (upd H r (.lst L)) Q :=
  ⟨.ref r, hσ, r, L, j, v, rfl, rfl, .inl (.inl upd_same), e, q⟩
/-- row[j] = v -/
theorem row_set {σ : St} {H : Hp} {Q : St → Hp → Prop} {r : Addr} {L : List V} {j : Int} {n : Nat} {v : V} (hσ : σ[0]? = some (some (.ref r))) (e : ixN L.length j = some n) (q : Q σ (upd H r (.lst (L.set n v)))) : gSub (tVar 0) (tC (.int j)) rSetL v σ (upd H r (.lst L)) Q :=
  ⟨.ref r, hσ, r, L, j, n, rfl, rfl, upd_same, e, by rw [upd_upd]; exact q⟩
def tTaken (K : Fg) : TS :=
  let ix (j : Int) : TE := tOp (rIxL K) (tVar 0) (tC (.int j))
  let intOf (t : TE) : TE := tCB (fun xs H Q => (∃ i, xs = [.int i] ∧ Q (.int i) H) ∨ ∃ k, xs = [.bl k] ∧ Q (.int (if k then 1 else 0)) H) (tCons t tNil)
  let md (a b : TE) : TE := tOp (rI (fun _ j => 0 < j) fun i j => .int (i % j)) a b
  let dv (a b : TE) : TE := tOp (rI CDiv fun i j => .int (i / j)) a b
  let ad (a b : TE) : TE := tOp (rI0 fun i j => .int (i + j)) a b
  let ml (a b : TE) : TE := tOp (rI CMul fun i j => .int (i * j)) a b
  let st (j : Int) : TG := gSub (tVar 0) (tC (.int j)) rSetL
  tSeq (tIfS (tTest (tOp (rI0 fun i j => .bl (decide (j < i))) (ix 3) (tC (.int 0)))) (tSeq (tAsg (md (intOf (ix 3)) (tVar 1)) (gName 2)) (tSeq (tAsg (dv (ix 3) (tVar 1)) (st 3)) (tRet (tVar 2)))) tNext)
  (tSeq (tAsg (ad (ix 1) (tC (.int 1))) (st 1))
  (tSeq (tIfS (tTest (tOp (rI0 fun i j => .bl (decide (j < i))) (ix 1) (tCB (fun xs H Q => ∃ p ys, xs = [.ref p] ∧ (SqL K H p ys ∨ SqT K H p ys) ∧ Q (.int ys.length) H) (tCons (ix 0) tNil))))
      (tSeq (tAsg (md (intOf (ad (ml (ix 2) (tC (.int 48271))) (tC (.int 11)))) (tC (.int 2147483647))) (st 2)) (tRet (md (intOf (dv (ix 2) (tC (.int 7)))) (tVar 1)))) tNext)
  (tSeq (tAsg (tOp (rIxL K) (ix 0) (tOp (rI0 fun i j => .int (i - j)) (ix 1) (tC (.int 1)))) (gName 3))
  (tSeq (tAsg (md (intOf (ad (ad (ml (ix 2) (tC (.int 48271))) (tVar 3)) (tC (.int 11)))) (tC (.int 2147483647))) (st 2))
  (tSeq (tIfS (tTest (tOp (rI0 fun i j => .bl (decide (j ≤ i))) (tVar 3) (tOp (rI CPow fun i j => .int (i ^ j.toNat)) (tC (.int 10)) (tC (.int 18))))) (tAsg (dv (tVar 3) (tVar 1)) (st 3)) tNext)
  (tRet (md (intOf (tVar 3)) (tVar 1))))))))
theorem cmul_r {i j : Int} (h1 : -(2 ^ 64) < j) (h2 : j < 2 ^ 64) : CMul i j := .inr ⟨h1, h2⟩
/-- what the row's turn makes -/
theorem taken_ok {K : Fg} {En : Ends} {H : Hp} {r sa : Addr} {ns : List Int} {b c d m : Int} {Q : Int → Hp → Prop} (hS : ∀ L, SqL K (upd H r (.lst L)) sa (ns.map V.int)) (hb : 0 ≤ b) (hc : 0 ≤ c) (hd : 0 ≤ d) (hm : 0 < m) (hm2 : m < 1073741824)
    (hrt : ∀ k H', Q k H' → En.rt (.int k) H')
    (q : ∀ (k b' c' d' : Int), 0 ≤ k → k < m → 0 ≤ b' → 0 ≤ c' → 0 ≤ d' → Q k (upd H r (.lst [.ref sa, .int b', .int c', .int d']))) :
    tTaken K En [some (.ref r), some (.int m), none, none] (upd H r (.lst [.ref sa, .int b, .int c, .int d])) := by
  have mod0 : ∀ x : Int, 0 ≤ x % m ∧ x % m < m := fun x => ⟨Int.emod_nonneg _ (by omega), Int.emod_lt_of_pos _ hm⟩
  have big : (0 : Int) < 2147483647 := by decide
  have mod1 : ∀ x : Int, 0 ≤ x % 2147483647 := fun x => Int.emod_nonneg _ (by decide)
  refine row_at rfl rfl ⟨_, _, rfl, rfl, _, rfl, ?_⟩
  refine ite2 (fun h => ?_) (fun h => ?_)
  · -- a rest is left
    refine row_at rfl rfl (.inl ⟨_, rfl, ?_⟩)
    refine ⟨_, rfl, _, _, rfl, rfl, hm, ?_⟩
    refine row_at rfl rfl ⟨_, rfl, _, _, rfl, rfl, ⟨hm, hm2⟩, ?_⟩
    refine row_set rfl rfl ⟨_, rfl, hrt _ _ (q _ _ _ _ (mod0 d).1 (mod0 d).2 hb hc (Int.ediv_nonneg hd (by omega)))⟩
  · refine row_at rfl rfl ⟨_, _, rfl, rfl, ?_⟩
    refine row_set rfl rfl ?_
    refine row_at rfl rfl (row_at rfl rfl ⟨sa, _, rfl, .inl (hS _), ?_⟩)
    refine ⟨_, _, rfl, rfl, _, rfl, ?_⟩
    refine ite2 (fun h2 => ?_) (fun h2 => ?_)
    · -- the script is at its end
      refine row_at rfl rfl ⟨_, _, rfl, rfl, cmul_r (by decide) (by decide), ⟨_, _, rfl, rfl, .inl ⟨_, rfl, _, _, rfl, rfl, big, ?_⟩⟩⟩
      refine row_set rfl rfl ?_
      refine row_at rfl rfl ⟨_, _, rfl, rfl, ⟨by decide, by decide⟩, .inl ⟨_, rfl, _, rfl, _, _, rfl, rfl, hm, ?_⟩⟩
      exact hrt _ _ (q _ _ _ _ (mod0 _).1 (mod0 _).2 (by omega) (mod1 _) hd)
    · have hlt : ¬ ((ns.length : Int) < b + 1) := by
        intro z
        apply h2
        rw [List.length_map]
        exact decide_eq_true z
      have hi : b.toNat < ns.length := by omega
      refine row_at rfl rfl (row_at rfl rfl ⟨_, _, rfl, rfl, ?_⟩)
      refine ⟨sa, _, b + 1 - 1, .int ns[b.toNat], rfl, rfl, hS _, ?_, ?_⟩
      · have e : b + 1 - 1 = (b.toNat : Int) := by omega
        rw [e]
        exact atI_nat (by rw [List.getElem?_map, List.getElem?_eq_getElem hi]; rfl)
      · generalize ns[b.toNat] = x
        refine row_at rfl rfl ⟨_, _, rfl, rfl, cmul_r (by decide) (by decide), ⟨_, rfl, _, _, rfl, rfl, ⟨_, _, rfl, rfl, .inl ⟨_, rfl, _, _, rfl, rfl, big, ?_⟩⟩⟩⟩
        refine row_set rfl rfl ?_
        refine ⟨_, rfl, _, _, rfl, rfl, ⟨by decide, by decide, by decide⟩, ⟨_, _, rfl, rfl, ⟨_, rfl, ?_⟩⟩⟩
        refine ite2 (fun h3 => ?_) (fun h3 => ?_)
        · refine ⟨_, rfl, _, rfl, _, _, rfl, rfl, ⟨hm, hm2⟩, ?_⟩
          refine row_set rfl rfl ?_
          have hx : (0 : Int) ≤ x := by
            have := of_decide_eq_true h3
            have e : ((10 : Int) ^ (18 : Int).toNat) = 1000000000000000000 := by decide
            rw [e] at this; omega
          exact ⟨_, rfl, .inl ⟨_, rfl, _, rfl, _, _, rfl, rfl, hm, hrt _ _ (q _ _ _ _ (mod0 _).1 (mod0 _).2 (by omega) (mod1 _) (Int.ediv_nonneg hx (by omega)))⟩⟩
        · exact ⟨_, rfl, .inl ⟨_, rfl, _, rfl, _, _, rfl, rfl, hm, hrt _ _ (q _ _ _ _ (mod0 _).1 (mod0 _).2 (by omega) (mod1 _) hd)⟩⟩
end L2.P
namespace L2.P
open PySem PySem.Spec PyProof.Rows L2
theorem taken_sp {K : Fg} {vs : List V} {H : Hp} {Q : VK} {E : XK} {a b c d : Str} (h : spR K 1 wTaken vs H Q E) : tTaken K { nx := fun _ H' => Q .non H', rt := Q } (start [a, b, c, d] vs) H := by
  obtain ⟨hl, r, us, F, ps, rfl, sF, tb, fr, ⟨sa, ns, b, c, d, hr, hS, hlen, hb, hc, hd⟩, dd, m, rfl, h1, h2, k⟩ := h
  obtain ⟨v, rfl, dv⟩ := dp1 dd
  obtain rfl := Dp.inv_int dv
  have hS' : ∀ L, SqL K (upd H r (.lst L)) sa (ns.map V.int) := fun L => sqL_same (fun x o e => by
    have ne : x ≠ r := fun z => by subst z; rw [fr] at e; cases e
    rw [upd_ne ne]; exact sF x o e) hS
  have key := taken_ok (K := K) (En := { nx := fun _ H' => Q .non H', rt := Q }) (Q := fun k H' => Q (.int k) H') hS' hb hc hd h1 h2 (fun _ _ z => z) (fun k' b' c' d' g1 g2 g3 g4 g5 => by
    refine k k' g1 g2 F _ _ (Same.refl _) (fun x o ne e => ?_) (fun x o e => ?_) (tb.chg hr (not_te rfl)) (fun x e1 e2 => absurd e1 e2) ⟨sa, ns, b', c', d', upd_same, hS, hlen, g3, g4, g5⟩ (.int _)
    · have ne' : x ≠ r := fun z => ne.1 (by rw [z])
      rw [upd_ne ne']; exact e
    · have ne : x ≠ r := fun z => by subst z; rw [fr] at e; cases e
      rw [upd_ne ne]; exact sF x o e)
  rw [upd_self hr] at key
  exact key
end L2.P


set_option Elab.async false
set_option linter.all false
set_option maxRecDepth 100000
set_option maxHeartbeats 4000000
namespace L2.P
open PySem PySem.Spec PyProof.Rows L2
def insF (j : Int) (r : List Int) : List Int := if j ∈ r then r else r ++ [j]
def modR (rows : List (List Int)) (i : Nat) (j : Int) : List (List Int) := rows.modify i (insF j)
def addE (rows : List (List Int)) (e : Int × Int) : List (List Int) := modR (modR rows e.1.toNat e.2) e.2.toNat e.1
def byRows (n : Nat) (es : List (Int × Int)) : List (List Int) := es.foldl addE (List.replicate n [])
theorem insF_nodup {j : Int} {r : List Int} (h : r.Nodup) : (insF j r).Nodup := by
  unfold insF
  split
  · exact h
  · rename_i hj
    exact List.nodup_append.mpr ⟨h, by simp, fun a ha b hb e => hj (by simp at hb; subst hb; subst e; exact ha)⟩
theorem mem_insF {j k : Int} {r : List Int} : k ∈ insF j r ↔ k = j ∨ k ∈ r := by
  unfold insF
  split
  · rename_i h
    exact ⟨.inr, fun z => z.elim (fun e => e ▸ h) id⟩
  · simp [or_comm]
def dkOf (r : List Int) : List (Key × V) := r.map fun j => ((Sum.inl j : Key), V.bl true)
theorem dk_any (r : List Int) (j : Int) : ((dkOf r).any fun kv => decide (kv.1 = (Sum.inl j : Key))) = decide (j ∈ r) := by
  induction r with
  | nil => rfl
  | cons i r ih =>
    unfold dkOf at ih ⊢
    rw [List.map_cons, List.any_cons, ih]
    by_cases e : i = j
    · subst e; simp
    · have e2 : ¬ (Sum.inl i : Key) = Sum.inl j := fun q => e (Sum.inl.inj q)
      have e3 : ¬ j = i := fun q => e q.symm
      simp [e2, e3]
theorem putK_dk (r : List Int) (j : Int) : putK (dkOf r) (Sum.inl j) (V.bl true) = dkOf (insF j r) := by
  unfold putK insF
  rw [dk_any]
  by_cases h : j ∈ r
  · rw [if_pos (decide_eq_true h), if_pos h]
    unfold dkOf
    rw [List.map_map]
    apply List.map_congr_left
    intro i _
    show (if (Sum.inl i : Key) = Sum.inl j then _ else _) = _
    split <;> rfl
  · rw [if_neg (by simp [h]), if_neg h]
    unfold dkOf
    rw [List.map_append]
    rfl
/-- the dicts stand -/
structure Grid (H0 H : Hp) (L : Addr) (ds : List Addr) (rows : List (List Int)) : Prop where
  lst : H L = some (.lst (ds.map V.ref))
  nd : ds.Nodup
  nL : L ∉ ds
  len : rows.length = ds.length
  row : ∀ (i : Nat) (a : Addr) (r : List Int), ds[i]? = some a → rows[i]? = some r → H a = some (.dK (dkOf r))
  old : ∀ b o, H0 b = some o → H b = some o
  fre : ∀ a ∈ ds, H0 a = none
  freL : H0 L = none
theorem Grid.put {H0 H : Hp} {L : Addr} {ds : List Addr} {rows : List (List Int)} (G : Grid H0 H L ds rows) {i : Nat} {a : Addr} {r : List Int} (ha : ds[i]? = some a) (hr : rows[i]? = some r) (j : Int) :
    Grid H0 (upd H a (.dK (dkOf (insF j r)))) L ds (modR rows i j) where
  lst := by
    have ne : L ≠ a := fun e => G.nL (e ▸ List.mem_of_getElem? ha)
    rw [upd_ne ne]; exact G.lst
  nd := G.nd
  nL := G.nL
  len := by unfold modR; rw [List.length_modify]; exact G.len
  row := fun k b r' hb hr' => by
    unfold modR at hr'
    rw [List.getElem?_modify] at hr'
    by_cases e : i = k
    · subst e
      rw [ha] at hb; cases hb
      rw [hr] at hr'
      simp at hr'
      subst hr'
      exact upd_same
    · simp only [if_neg e] at hr'
      have ne : b ≠ a := fun q => by
        subst q
        exact e ((nodup_ix_addr G.nd ha hb))
      rw [upd_ne ne]
      exact G.row k b r' hb (by simpa using hr')
  old := fun b o e => by
    have ne : b ≠ a := fun q => by
      subst q
      rw [G.fre b (List.mem_of_getElem? ha)] at e; cases e
    rw [upd_ne ne]; exact G.old b o e
  fre := G.fre
  freL := G.freL
where
  nodup_ix_addr {l : List Addr} (h : l.Nodup) {i j : Nat} {x : Addr} (a : l[i]? = some x) (b : l[j]? = some x) : i = j := by
    obtain ⟨h1, e1⟩ := List.getElem?_eq_some_iff.mp a
    obtain ⟨h2, e2⟩ := List.getElem?_eq_some_iff.mp b
    exact (List.getElem_inj h).mp (e1.trans e2.symm)
/-- the edges are of people -/
def EdgesOk (n : Nat) (es : List (Int × Int)) : Prop := ∀ e ∈ es, 0 ≤ e.1 ∧ e.1 < n ∧ 0 ≤ e.2 ∧ e.2 < n
def rTupOf (K : Fg) : List V → Hp → VK → Prop := fun xs H Q => ∃ p ys, xs = [.ref p] ∧ ((SqL K H p ys ∧ ∀ l, H l = none → Q (.ref l) (upd H l (.tup ys))) ∨ (SqT K H p ys ∧ Q (.ref p) H))
def tBy1 : TE := tLc (iRng1 (tCons (tVar 0) tNil)) (gName 5) tYes tDNewK [5]
def tBy2 (K : Fg) : TS := tFor (iList K (tVar 1)) (L2.gTup K 2 (gCons (gName 3) (gCons (gName 4) gNil))) (tSeq (sDPut (tOp (rIxL K) (tVar 2) (tVar 3)) (tVar 4) (tC (.bl true))) (sDPut (tOp (rIxL K) (tVar 2) (tVar 4)) (tVar 3) (tC (.bl true))))
def tBy3 (K : Fg) : TE := tCB (rTupOf K) (tCons (tLc (iList K (tVar 2)) (gName 6) tYes (tCB (rTupOf K) (tCons (tCB (rSortedI K) (tCons (tCB rListD (tCons (tVar 6) tNil)) tNil)) tNil)) [6]) tNil)
def tBy (K : Fg) : TS := tSeq (tAsg tBy1 (gName 2)) (tSeq (tBy2 K) (tRet (tBy3 K)))
theorem by1_ok {H : Hp} {n : Nat} {c : V} {Q : VK} (hn : n ≤ 1000) (q : ∀ L ds H', Grid H H' L ds (List.replicate n []) → Q (.ref L) H') : tBy1 [some (.int (n : Int)), some c, none, none, none, none, none] H Q := by
  refine ⟨_, rfl, (n : Int), rfl, by omega, by omega, fun D hD => ?_⟩
  refine lc_range (lo := 0) (n := (n : Int).toNat) (fun i H' => ∃ ds : List Addr, ds.length = i ∧ Grid H H' D ds (List.replicate i [])) ⟨[], rfl, ?_⟩ (fun i H' hi ⟨ds, hl, G⟩ => ⟨rfl, fun p hp => ⟨ds.map V.ref, ?_, ?_, ds ++ [p], ?_, ?_⟩⟩) fun H' ⟨ds, hl, G⟩ => ?_
  · refine ⟨upd_same, List.nodup_nil, by simp, rfl, fun i a r h => by simp at h, fun b o e => ?_, fun a h => by simp at h, hD⟩
    rw [upd_ne (ne_of_none e hD)]; exact e
  · rw [upd_ne (ne_of_none G.lst hp)]; exact G.lst
  · rw [List.length_map, hl, sizeLine_eq]; omega
  · rw [List.length_append, hl]; rfl
  · have neD : D ≠ p := ne_of_none G.lst hp
    have pnd : p ∉ ds := fun hm => by
      obtain ⟨k, hk⟩ := List.getElem?_of_mem hm
      have hkl : k < (List.replicate i ([] : List Int)).length := by
        rw [List.length_replicate, ← hl]; exact (List.getElem?_eq_some_iff.mp hk).1
      have := G.row k p [] hk (by rw [List.getElem?_replicate]; rw [List.length_replicate] at hkl; rw [if_pos hkl])
      rw [hp] at this; cases this
    refine ⟨by rw [upd_same, List.map_append]; rfl, List.nodup_append.mpr ⟨G.nd, by simp, fun a ha b hb e => pnd (by simp at hb; subst hb; subst e; exact ha)⟩, ?_, by simp [hl], fun k a r hk hr => ?_, fun b o e => ?_, fun a ha => ?_, G.freL⟩
    · intro hm
      rcases List.mem_append.mp hm with hm | hm
      · exact G.nL hm
      · simp at hm; exact neD hm
    · rw [List.getElem?_replicate] at hr
      split at hr
      · cases hr
        rw [List.getElem?_append] at hk
        split at hk
        · rename_i hkl
          have ne1 : a ≠ D := fun e => G.nL (e ▸ List.mem_of_getElem? hk)
          have ne2 : a ≠ p := fun e => pnd (e ▸ List.mem_of_getElem? hk)
          rw [upd_ne ne1, upd_ne ne2]
          exact G.row k a [] hk (by rw [List.getElem?_replicate, if_pos (by omega)])
        · have ea : a = p := by
            have := List.mem_of_getElem? hk
            simpa using this
          subst ea
          rw [upd_ne (Ne.symm neD), upd_same]; rfl
      · cases hr
    · have h1 := G.old b o e
      rw [upd_ne (fun z => by subst z; rw [G.freL] at e; cases e), upd_ne (ne_of_none h1 hp)]; exact h1
    · rcases List.mem_append.mp ha with ha | ha
      · exact G.fre a ha
      · simp at ha
        subst ha
        cases z : H a with
        | none => rfl
        | some o => rw [G.old a o z] at hp; cases hp
  · rw [Int.toNat_natCast] at hl G
    exact q D ds H' G
theorem rows_len (rows : List (List Int)) (e : Int × Int) : (addE rows e).length = rows.length := by unfold addE modR; rw [List.length_modify, List.length_modify]
theorem by2_ok {K : Fg} {H H1 : Hp} {n : Nat} {cs : Addr} {xs : List V} {es : List (Int × Int)} {L : Addr} {ds : List Addr} {rows : List (List Int)} {a : V} {En : Ends} (hz : es.length ≤ 1000) (hl : rows.length = n) (hrl : ∀ r ∈ rows, r.length = 0)
    (hS : SqL K H cs xs) (hx : DpAll K H xs (es.map fun e => .tuple [.int e.1, .int e.2])) (he : EdgesOk n es) (hnd : ∀ r ∈ rows, r.Nodup) (hin : ∀ r ∈ rows, ∀ k ∈ r, 0 ≤ k ∧ k < n) (G : Grid H H1 L ds rows)
    (q : ∀ (y3 y4 : Option V) H', Grid H H' L ds (es.foldl addE rows) → En.nx [some a, some (.ref cs), some (.ref L), y3, y4, none, none] H') : tBy2 K En [some a, some (.ref cs), some (.ref L), none, none, none, none] H1 := by
  refine ⟨_, rfl, cs, rfl, ⟨xs, sqL_same G.old hS⟩, ?_⟩
  refine for_list (xs := xs) (fun i σ H' => ∃ y3 y4, σ = [some a, some (.ref cs), some (.ref L), y3, y4, none, none] ∧ ∃ rs : List (List Int), rs = (es.take i).foldl addE rows ∧ rs.length = n ∧ (∀ r ∈ rs, r.length ≤ 2 * i) ∧ (∀ r ∈ rs, r.Nodup) ∧ (∀ r ∈ rs, ∀ k ∈ r, 0 ≤ k ∧ k < n) ∧ Grid H H' L ds rs)
    ⟨none, none, rfl, rows, rfl, hl, fun r hr => by rw [hrl r hr]; exact Nat.zero_le _, hnd, hin, G⟩ (fun i σ H' _ ⟨_, _, _, rs, _, _, _, _, _, G'⟩ => sqL_same G'.old hS) (fun i x σ H' hxi ⟨y3, y4, eσ, rs, ers, hlr, hzr, hnr, hir, G'⟩ => ?_) fun σ H' ⟨y3, y4, eσ, rs, ers, _, _, _, _, G'⟩ => ?_
  · obtain ⟨p, hp, dp⟩ := hx.getV hxi
    rw [List.getElem?_map] at hp
    obtain ⟨e, hei, rfl⟩ := Option.map_eq_some_iff.mp hp
    obtain ⟨t, ys, rfl, st, ry⟩ := Dp.inv_tup dp
    obtain ⟨v1, v2, rfl, d1, d2⟩ := dp2 ry
    obtain rfl := Dp.inv_int d1
    obtain rfl := Dp.inv_int d2
    obtain ⟨e1, e2, e3, e4⟩ := he e (List.mem_of_getElem? hei)
    subst eσ
    refine ⟨t, _, rfl, sqT_same G'.old st, rfl, _, _, rfl, _, _, rfl, rfl, ?_⟩
    have hld := G'.len
    have at_ : ∀ (k : Int), 0 ≤ k → k < n → ∃ b, ds[k.toNat]? = some b ∧ atI (ds.map V.ref) k = some (.ref b) := fun k h1 h2 => by
      have hk : k.toNat < ds.length := by omega
      refine ⟨ds[k.toNat], List.getElem?_eq_getElem hk, ?_⟩
      have ek : k = (k.toNat : Int) := by omega
      have := atI_nat (xs := ds.map V.ref) (j := k.toNat) (v := .ref ds[k.toNat]) (by rw [List.getElem?_map]; simp [hk])
      rw [← ek] at this
      exact this
    have putR : ∀ (rs : List (List Int)) (k j : Int), rs.length = n → (∀ r ∈ rs, r.Nodup) → (∀ r ∈ rs, ∀ k ∈ r, 0 ≤ k ∧ k < n) → 0 ≤ j → j < n → (∀ r ∈ modR rs k.toNat j, r.Nodup) ∧ (∀ r ∈ modR rs k.toNat j, ∀ k ∈ r, 0 ≤ k ∧ k < n) := fun rs k j _ h1 h2 h3 h4 => by
      unfold modR
      refine ⟨fun r hr => ?_, fun r hr z hz => ?_⟩
      · obtain ⟨m, hm⟩ := List.getElem?_of_mem hr
        rw [List.getElem?_modify] at hm
        obtain ⟨r0, hr0, rfl⟩ := Option.map_eq_some_iff.mp hm
        have := h1 r0 (List.mem_of_getElem? hr0)
        split
        · exact insF_nodup this
        · exact this
      · obtain ⟨m, hm⟩ := List.getElem?_of_mem hr
        rw [List.getElem?_modify] at hm
        obtain ⟨r0, hr0, rfl⟩ := Option.map_eq_some_iff.mp hm
        have := h2 r0 (List.mem_of_getElem? hr0)
        split at hz
        · rcases mem_insF.mp hz with rfl | hz
          · exact ⟨h3, h4⟩
          · exact this z hz
        · exact this z hz
    have hil : i < es.length := (List.getElem?_eq_some_iff.mp hei).1
    have grow : ∀ (qs : List (List Int)) (k : Nat) (j : Int) (m : Nat), (∀ r ∈ qs, r.length ≤ m) → ∀ r ∈ modR qs k j, r.length ≤ m + 1 := fun qs k j m h r hr => by
      unfold modR at hr
      obtain ⟨w, hw⟩ := List.getElem?_of_mem hr
      rw [List.getElem?_modify] at hw
      obtain ⟨r0, hr0, rfl⟩ := Option.map_eq_some_iff.mp hw
      have := h r0 (List.mem_of_getElem? hr0)
      split
      · unfold insF
        split
        · omega
        · rw [List.length_append, List.length_singleton]; omega
      · omega
    have small : ∀ (qs : List (List Int)) (m : Nat), m ≤ 3000 → (∀ r ∈ qs, r.length ≤ m) → ∀ r ∈ qs, (dkOf r).length < sizeLine := fun qs m hm h r hr => by
      have := h r hr
      unfold dkOf
      rw [List.length_map, sizeLine_eq]; omega
    -- found[one][other] = True
    obtain ⟨b1, hb1, at1⟩ := at_ e.1 e1 e2
    have hr1 : e.1.toNat < rs.length := by omega
    have g1 := G'.put hb1 (List.getElem?_eq_getElem hr1) e.2
    refine ⟨_, rfl, _, rfl, L, ds.map V.ref, e.1, _, rfl, rfl, .inl (.inl G'.lst), at1, ?_⟩
    refine ⟨_, rfl, b1, _, rfl, DPut.k (k := Sum.inl e.2) (G'.row _ _ _ hb1 (List.getElem?_eq_getElem hr1)) (small rs (2 * i) (by omega) hzr _ (List.getElem_mem hr1)), ?_⟩
    rw [putK_dk]
    obtain ⟨n1, i1⟩ := putR rs e.1 e.2 hlr hnr hir e3 e4
    have hl1 : (modR rs e.1.toNat e.2).length = n := by unfold modR; rw [List.length_modify]; exact hlr
    -- found[other][one] = True
    obtain ⟨b2, hb2, at2⟩ := at_ e.2 e3 e4
    have hr2 : e.2.toNat < (modR rs e.1.toNat e.2).length := by omega
    refine ⟨_, rfl, _, rfl, L, ds.map V.ref, e.2, _, rfl, rfl, .inl (.inl g1.lst), at2, ?_⟩
    refine ⟨_, rfl, b2, _, rfl, DPut.k (k := Sum.inl e.1) (g1.row _ _ _ hb2 (List.getElem?_eq_getElem hr2)) (small _ (2 * i + 1) (by omega) (grow rs _ _ _ hzr) _ (List.getElem_mem hr2)), ?_⟩
    rw [putK_dk]
    obtain ⟨n2, i2⟩ := putR _ e.2 e.1 hl1 n1 i1 e1 e2
    refine ⟨_, _, rfl, addE rs e, ?_, by rw [rows_len]; exact hlr, fun r hr => by have := grow _ _ _ _ (grow rs e.1.toNat e.2 _ hzr) r hr; omega, n2, i2, g1.put hb2 (List.getElem?_eq_getElem hr2) e.1⟩
    rw [List.take_add_one, hei, ers]
    simp [List.foldl_append]
  · subst eσ
    have hxl : xs.length = es.length := by rw [hx.length, List.length_map]
    rw [hxl, List.take_length] at ers
    subst ers
    exact q y3 y4 H' G'
end L2.P
namespace L2.P
open PySem PySem.Spec PyProof.Rows L2
theorem nodup_lt {ns : List Int} (h : ns.Pairwise (· ≤ ·)) (n : ns.Nodup) : ns.Pairwise (· < ·) := by
  induction ns with
  | nil => exact List.Pairwise.nil
  | cons x r ih =>
    obtain ⟨h1, h2⟩ := List.pairwise_cons.mp h
    obtain ⟨n1, n2⟩ := List.nodup_cons.mp n
    refine List.pairwise_cons.mpr ⟨fun y hy => ?_, ih h2 n2⟩
    have := h1 y hy
    have ne : x ≠ y := fun e => n1 (e ▸ hy)
    omega
theorem sorted_is {r ns : List Int} (p : ns.Perm r) (h : ns.Pairwise (· ≤ ·)) (n : r.Nodup) : ns = sortD r :=
  pw_unique (nodup_lt h (p.nodup_iff.mpr n)) (pw_sortD r) fun k => by rw [p.mem_iff, mem_sortD]
theorem keys_dk (r : List Int) : (dkOf r).map (fun kv => kV kv.1) = r.map V.int := by
  unfold dkOf
  rw [List.map_map]
  rfl
theorem by3_ok {K : Fg} {H0 H1 : Hp} {L : Addr} {ds : List Addr} {rows : List (List Int)} {a c : V} {y3 y4 : Option V} {Q : VK} (hn : rows.length ≤ 1000) (hnd : ∀ r ∈ rows, r.Nodup) (G : Grid H0 H1 L ds rows)
    (q : ∀ (l : Addr) (ts : List Addr) (H' : Hp), Same H1 H' → H0 l = none → H' l = some (.tup (ts.map V.ref)) → ts.length = rows.length → (∀ (k : Nat) (t : Addr), ts[k]? = some t → H0 t = none ∧ ∃ r, rows[k]? = some r ∧ H' t = some (.tup ((sortD r).map V.int))) → Q (.ref l) H') :
    tBy3 K [some a, some c, some (.ref L), y3, y4, none, none] H1 Q := by
  refine ⟨.ref L, rfl, L, rfl, ⟨_, .inl (.inl G.lst)⟩, fun D hD => ?_⟩
  have none0 : ∀ {H' : Hp} {p : Addr}, Same H1 H' → H' p = none → H0 p = none := fun {H' p} s e => by
    cases z : H0 p with
    | none => rfl
    | some o => rw [s p o (G.old p o z)] at e; cases e
  refine lc_list (K := K) (a := L) (xs := ds.map V.ref) (fun i H' => Same H1 H' ∧ ∃ ts : List Addr, ts.length = i ∧ H' D = some (.lst (ts.map V.ref)) ∧ ∀ (k : Nat) (t : Addr), ts[k]? = some t → H0 t = none ∧ ∃ r, rows[k]? = some r ∧ H' t = some (.tup ((sortD r).map V.int)))
    ⟨same_upd hD, [], rfl, upd_same, fun k t h => by simp at h⟩ (fun i H' _ ⟨s, _⟩ => .inl (.inl (s _ _ G.lst))) (fun i x H' hx ⟨s, ts, hl, hDl, hts⟩ => ?_) fun H' ⟨s, ts, hl, hDl, hts⟩ => ?_
  · refine ⟨rfl, ?_⟩
    rw [List.getElem?_map] at hx
    obtain ⟨b, hb, rfl⟩ := Option.map_eq_some_iff.mp hx
    have hi : i < rows.length := by rw [G.len]; exact (List.getElem?_eq_some_iff.mp hb).1
    have hri := List.getElem?_eq_getElem hi
    generalize rows[i] = r at hri
    have hrn := hnd r (List.mem_of_getElem? hri)
    refine ⟨.ref b, rfl, b, _, rfl, s _ _ (G.row i b r hb hri), fun p hp => ?_⟩
    rw [keys_dk]
    refine ⟨p, r, rfl, .inl (.inl upd_same), fun ns w hperm hle hw => ?_⟩
    have en := sorted_is hperm hle hrn
    subst en
    refine ⟨w, _, rfl, .inl ⟨.inl (.inl upd_same), fun t ht => ?_⟩⟩
    have s1 : Same H' (upd H' p (.lst (r.map V.int))) := same_upd hp
    have s2 := same_upd (o := .lst ((sortD r).map V.int)) hw
    have s3 := same_upd (o := .tup ((sortD r).map V.int)) ht
    have s13 := (s1.trans s2).trans s3
    have t0 : H' t = none := by
      cases z : H' t with
      | none => rfl
      | some o => rw [s2 _ _ (s1 _ _ z)] at ht; cases ht
    have tD : t ≠ D := fun e => by subst e; rw [hDl] at t0; cases t0
    refine ⟨ts.map V.ref, s13 _ _ hDl, ?_, fun b' o e => ?_, ts ++ [t], by simp [hl], ?_, fun k u hu => ?_⟩
    · rw [List.length_map, hl, sizeLine_eq]; omega
    · have neD : b' ≠ D := fun z => by subst z; rw [hD] at e; cases e
      rw [upd_ne neD]; exact s13 _ _ (s _ _ e)
    · rw [upd_same, List.map_append]; rfl
    · rw [List.getElem?_append] at hu
      split at hu
      · obtain ⟨g1, r', g2, g3⟩ := hts k u hu
        have uD : u ≠ D := fun e => by subst e; rw [hDl] at g3; cases g3
        exact ⟨g1, r', g2, by rw [upd_ne uD]; exact s13 _ _ g3⟩
      · rename_i hk
        have eu : u = t := by
          have := List.mem_of_getElem? hu
          simpa using this
        have ek : k = i := by
          have := (List.getElem?_eq_some_iff.mp hu).1
          simp at this; omega
        subst eu; subst ek
        exact ⟨none0 s t0, r, hri, by rw [upd_ne tD, upd_same]⟩
  · rw [List.length_map] at hl
    refine ⟨D, _, rfl, .inl ⟨.inl (.inl hDl), fun l hlf => ?_⟩⟩
    have s1 := same_upd (o := .tup (ts.map V.ref)) hlf
    exact q l ts _ (s.trans s1) (none0 s hlf) upd_same (by rw [hl, G.len]) fun k t hk => by
      obtain ⟨g1, r, g2, g3⟩ := hts k t hk
      exact ⟨g1, r, g2, s1 _ _ g3⟩
/-- the new part of a heap, over what was frozen -/
def joinH (F H H' : Hp) : Hp := fun b => match F b with
  | some o => some o
  | none => match H b with
    | none => match H' b with
      | some (.tbl _) => none
      | o => o
    | some _ => none
theorem joinH_old {F H H' : Hp} : Same F (joinH F H H') := fun b o e => by unfold joinH; rw [e]
theorem joinH_new {F H H' : Hp} {b : Addr} {xs : List V} (s : Same F H) (h : H b = none) (e : H' b = some (.tup xs)) : joinH F H H' b = some (.tup xs) := by
  unfold joinH
  rw [s.free h, h, e]
theorem TbOk.join {K : Fg} {F H H' : Hp} (tb : TbOk K F H) (s : Same H H') : TbOk K (joinH F H H') H' :=
  ⟨fun p hp => by
    obtain ⟨ps, h1, _⟩ := tb.2.1 p hp
    unfold joinH
    rw [tb.1 p hp, h1], tabs_ext tb.2.1 (fun b o e _ => s b o e), fun b ps z => by
    unfold joinH at z
    split at z
    · rename_i u hu; cases z; exact tb.2.2 b ps hu
    · split at z
      · split at z
        · cases z
        · rename_i n; exact n ps z
      · cases z⟩
theorem joinH_sub {F H H' : Hp} (s : Same F H) (s' : Same H H') : Same (joinH F H H') H' := fun b o e => by
  unfold joinH at e
  split at e
  · rename_i u hu; cases e; exact s' _ _ (s _ _ hu)
  · split at e
    · split at e
      · cases e
      · exact e
    · cases e
theorem joinH_fre {F H H' : Hp} (b : Addr) (h : F b = none) (h' : joinH F H H' b ≠ none) : H b = none := by
  cases z : H b with
  | none => rfl
  | some o => exact absurd (by unfold joinH; rw [h, z]) h'
/-- the web of the rows -/
def webD (rows : List (List Int)) : D := .tuple (rows.map fun r => .tuple (r.map .int))
def edgeD (e : Int × Int) : D := .tuple [.int e.1, .int e.2]
/-- _law_by -/
def wBy : List D → (D → Prop) → Prop := fun ps K => ∃ (n : Nat) (es : List (Int × Int)), ps = [.int (n : Int), .list (es.map edgeD)] ∧ n ≤ 1000 ∧ es.length ≤ 1000 ∧ EdgesOk n es ∧ K (webD ((byRows n es).map sortD))
theorem wBy_mono (ps : List D) (K K' : D → Prop) (h : ∀ p, K p → K' p) (q : wBy ps K) : wBy ps K' := by
  obtain ⟨n, es, e, h1, h2, h3, k⟩ := q
  exact ⟨n, es, e, h1, h2, h3, h _ k⟩
theorem byRows_facts {n : Nat} : ∀ (es : List (Int × Int)) (rows : List (List Int)), rows.length = n → (∀ r ∈ rows, r.Nodup) → (es.foldl addE rows).length = n ∧ ∀ r ∈ es.foldl addE rows, r.Nodup
  | [], rows, h1, h2 => ⟨h1, h2⟩
  | e :: es, rows, h1, h2 => by
    rw [List.foldl_cons]
    have m : ∀ (qs : List (List Int)) (k : Nat) (j : Int), (∀ r ∈ qs, r.Nodup) → ∀ r ∈ modR qs k j, r.Nodup := fun qs k j h r hr => by
      unfold modR at hr
      obtain ⟨w, hw⟩ := List.getElem?_of_mem hr
      rw [List.getElem?_modify] at hw
      obtain ⟨r0, hr0, rfl⟩ := Option.map_eq_some_iff.mp hw
      have := h r0 (List.mem_of_getElem? hr0)
      split
      · exact insF_nodup this
      · exact this
    exact byRows_facts es _ (by rw [rows_len]; exact h1) (m _ _ _ (m _ _ _ h2))
theorem by_sp {K : Fg} {vs : List V} {H : Hp} {Q : VK} {E : XK} {a b c d e f g : Str} (h : spF K 2 wBy vs H Q E) : tBy K { nx := fun _ H' => Q .non H', rt := Q } (start [a, b, c, d, e, f, g] vs) H := by
  obtain ⟨hl, F, ps, sF, tb, dd, n, es, rfl, h1, h2, h3, k⟩ := h
  obtain ⟨v, u, rfl, d1, d2⟩ := dp2 dd
  obtain rfl := Dp.inv_int d1
  obtain ⟨cs, xs, rfl, sL, r⟩ := Dp.inv_lst d2
  have e0 : start [a, b, c, d, e, f, g] [V.int (n : Int), V.ref cs] = [some (.int (n : Int)), some (.ref cs), none, none, none, none, none] := rfl
  rw [e0]
  unfold tBy tSeq tAsg
  refine by1_ok h1 fun L ds H1 G => ?_
  refine by2_ok (rows := List.replicate n []) h2 List.length_replicate (fun r hr => by rw [List.eq_of_mem_replicate hr]; rfl) (sqL_same sF sL) (r.same sF) h3 (fun r hr => by rw [List.eq_of_mem_replicate hr]; exact List.nodup_nil) (fun r hr => by rw [List.eq_of_mem_replicate hr]; intro k hk; cases hk) G fun y3 y4 H2 G2 => ?_
  obtain ⟨hlen, hnd⟩ := byRows_facts es (List.replicate n []) List.length_replicate fun r hr => by rw [List.eq_of_mem_replicate hr]; exact List.nodup_nil
  refine by3_ok (by rw [hlen]; exact h1) hnd G2 fun l ts H3 s hl0 hlt hts htt => ?_
  have sH : Same H H3 := fun b o z => s _ _ (G2.old b o z)
  refine k (joinH F H H3) H3 (.ref l) joinH_old (sameX_of sH) (joinH_sub sF sH) (tb.join sH) (fun b h1 h2 => .inl (joinH_fre b h1 h2)) ?_
  refine .tup (joinH_new sF hl0 hlt) ?_
  -- item by item
  have items : ∀ (ts : List Addr) (rows : List (List Int)), ts.length = rows.length → (∀ (k : Nat) (t : Addr), ts[k]? = some t → H t = none ∧ ∃ r, rows[k]? = some r ∧ H3 t = some (.tup ((sortD r).map V.int))) →
      DpAll K (joinH F H H3) (ts.map V.ref) ((rows.map sortD).map fun r => .tuple (r.map .int)) := fun ts => by
    induction ts with
    | nil =>
      intro rows hl _
      cases rows with
      | nil => exact .nil
      | cons _ _ => cases hl
    | cons t ts ih =>
      intro rows hl h
      cases rows with
      | nil => cases hl
      | cons r rows =>
        obtain ⟨g1, r', g2, g3⟩ := h 0 t rfl
        obtain rfl : r = r' := by simpa using g2
        exact .cons (.tup (joinH_new sF g1 g3) (dpAll_of_ints _)) (ih rows (by simpa using hl) fun k u hu => h (k + 1) u (by simpa using hu))
  exact items ts _ hts htt
end L2.P


set_option Elab.async false
set_option linter.all false
set_option maxRecDepth 100000
set_option maxHeartbeats 4000000
namespace L2.P
open PySem PySem.Spec PyProof.Rows L2
section
variable {X : Cx} {e a b : Expr} {es : List Expr} {p pos spos : Pos} {n : Nat}
/-- arguments of a known number -/
structure EAL (X : Cx) (es : List Expr) (T : TL) (n : Nat) : Prop where
  ea : EA X es T
  len : LenW T n
theorem eal_nil : EAL X [] wNil 0 := ⟨ea_nilw, lenW_nil⟩
theorem eal_cons {T : TW} {U : TL} (ha : EW X e T) (hr : EAL X es U n) (hs : starEach (e :: es) X.env = (false, eval e X.env) :: starEach es X.env := by rfl) : EAL X (e :: es) (wCons T U) (n + 1) :=
  ⟨ea_consw ha hr.ea hs, lenW_cons ha hr.len hr.ea.mono⟩
def wLst (T : TL) : TW := fun ρ K => T ρ fun ps => K (.list ps)
theorem NW.eL {T : TL} (h : NW X e T) : EW X e (wLst T) := h.e
def wDraw (i : Nat) (w : List D → (D → Prop) → Prop) (U : TL) : TW := fun ρ K => ρ[i]? = some .row ∧ wCal w U ρ K
theorem ew_draw {T : List D → (D → Prop) → Prop} {U : TL} {i : Nat} {x y : Str} {py : Pos} (c : CalX X x (spR X.K n T)) (mt : ∀ ps K K', (∀ p, K p → K' p) → T ps K → T ps K') (hN : X.N[i]? = some y) (hv : Vis X.env.scope y) (h : EAL X es U n) (hg : Gl X x) (hdb : (x == ("__debug__" : Str)) = false := by decide)
    (hd : (y == ("__debug__" : Str)) = false := by decide) (hcd : (y == ("__classdict__" : Str)) = false := by decide)
    (he : starEach (.Name y py :: es) X.env = (false, eval (.Name y py) X.env) :: starEach es X.env := by rfl) (hpl : (backTo pos (starEach es X.env)).any (·.1) = false := by rfl) : EW X (.Call (.Name x p) (.Name y py :: es) [] pos) (wDraw i T U) :=
  ew_callR c mt hN hv h.ea h.len hg hdb hd hcd he hpl
theorem ew_callL {T : List D → (D → Prop) → Prop} {U : TL} {x : Str} (c : CalX X x (spF X.K n T)) (mt : ∀ ps K K', (∀ p, K p → K' p) → T ps K → T ps K') (ha : EAL X (e :: es) U n) (hg : Gl X x) (hdb : (x == ("__debug__" : Str)) = false := by decide)
    (he : starEach (e :: es) X.env = (false, eval e X.env) :: starEach es X.env := by rfl) (hpl : (backTo pos (starEach es X.env)).any (·.1) = false := by rfl) : EW X (.Call (.Name x p) (e :: es) [] pos) (wCal T U) := ew_call c mt ha.ea ha.len hg hdb he hpl
/-- what a pure def makes, by its function -/
def gW (g : GA) : List D → (D → Prop) → Prop := fun ps K => ∃ z, g ps = some z ∧ K z
theorem cw_tuple {T : TL} (B : Bi X.mg) (h : XA X [a] T) (hg : Gl X "tuple" := by rfl) (he : starEach [a] X.env = (false, eval a X.env) :: starEach [] X.env := by rfl) : EW X (.Call (.Name "tuple" p) [a] [] pos) (wOf gTup T) := ew_callT cg_tuple h hg B.tuple bt_tuple (he := he) (hpl := rfl)
theorem sw_parL {i j : Nat} {x y : Str} {T : TL} {px py pt : Pos} {kt k2 pt2} (hc : X.calm = true) (hN : X.N.Nodup) (hi : X.N[i]? = some x) (hj : X.N[j]? = some y) (hij : i ≠ j)
    (hx : X.env.scope.names.lookup x = some .local) (hy : X.env.scope.names.lookup y = some .local) (h : EAL X [a, b] T n)
    (hw : swappedStores [.Tuple [.Name x px, .Name y py] kt pt] (.Tuple [a, b] k2 pt2) X.env = pure (some [x, y]))
    (hs : swapsWithSole [.Tuple [.Name x px, .Name y py] kt pt] (.Tuple [a, b] k2 pt2) pos.line X.env = pure false := by rfl) :
    SW X (.Assign [.Tuple [.Name x px, .Name y py] kt pt] (.Tuple [a, b] k2 pt2) pos) (wPar i j T) := sw_par hc hN hi hj hij hx hy h.ea hw hs
theorem Rs.toRow {K : Fg} {B : Bs} {F H : Hp} {σ : St} {ρ : Rho} {i : Nat} {ns : List Int} {b c d : Int} (R : Rs K B F H σ ρ) (h : ρ[i]? = some (.ol [.list (ns.map .int), .int b, .int c, .int d])) (hl : ns.length ≤ 63) (hb : 0 ≤ b) (hc : 0 ≤ c) (hd : 0 ≤ d) :
    Rs K B F H σ (ρ.set i .row) := by
  obtain ⟨a, xs, hσ, f, h0, h1, r⟩ := R.own h
  have ok : RowOk K none F H a := by
    obtain ⟨v1, u1, rfl, d1, r1⟩ := r.uncons
    obtain ⟨v2, u2, rfl, d2, r2⟩ := r1.uncons
    obtain ⟨v3, u3, rfl, d3, r3⟩ := r2.uncons
    obtain ⟨v4, u4, rfl, d4, r4⟩ := r3.uncons
    obtain rfl := r4.unnil
    obtain ⟨sa, ys, rfl, s, ry⟩ := Dp.inv_lst d1
    rw [dpAll_ints ns ry] at s
    rw [Dp.inv_int d2, Dp.inv_int d3, Dp.inv_int d4] at h1
    exact ⟨sa, ns, b, c, d, h1, s, hl, hb, hc, hd⟩
  refine ⟨R.sub, R.ext, R.new, R.old, R.hrow, R.hr2, by rw [List.length_set]; exact R.len, fun j s hs => ?_, fun j k c s t hjk h1' h2' o1 o2 e1 e2 => ?_, R.tb, R.tbh⟩
  · rcases set_some hs with ⟨rfl, hl, rfl⟩ | ⟨ne, hs⟩
    · rw [hσ]; exact .row f (.inl h0) ok
    · exact R.at_ j s hs
  · rcases set_some h1' with ⟨rfl, hl, rfl⟩ | ⟨ne, h1'⟩
    · rcases set_some h2' with ⟨rfl, _⟩ | ⟨ne, h2'⟩
      · exact hjk rfl
      · exact R.apart i k c _ t hjk h h2' rfl o2 e1 e2
    · rcases set_some h2' with ⟨rfl, hl, rfl⟩ | ⟨ne2, h2'⟩
      · exact R.apart j i c s _ hjk h1' h o1 rfl e1 e2
      · exact R.apart j k c s t hjk h1' h2' o1 o2 e1 e2
def wRow (i : Nat) (T : TL) : TSt := fun ρ K => i < ρ.length ∧ T ρ fun ps => ∃ (ns : List Int) (b c d : Int), ps = [.list (ns.map .int), .int b, .int c, .int d] ∧ ns.length ≤ 63 ∧ 0 ≤ b ∧ 0 ≤ c ∧ 0 ≤ d ∧ K (.nx (ρ.set i .row))
theorem sw_row {st : Stmt} {i : Nat} {T : TL} (h : NS X st i T) : SW X st (wRow i T) :=
  ⟨fun ρ K K' k ⟨hl, q⟩ => ⟨hl, h.mono _ _ _ (fun p ⟨ns, b, c, d, e, h1, h2, h3, h4, z⟩ => ⟨ns, b, c, d, e, h1, h2, h3, h4, k _ z⟩) q⟩, h.ps.imp fun En σ H ⟨B, F, ρ, R, hl, q⟩ => ⟨B, F, ρ, R, h.mono _ _ _ (fun p ⟨ns, b, c, d, e, h1, h2, h3, h4, k⟩ F' H' a xs R' s n d' => by
    subst e
    have z := (R'.putO (i := i) n d').toRow (by rw [List.getElem?_set_self hl]) h1 h2 h3 h4
    rw [List.set_set] at z
    exact k F' _ _ z s) q⟩⟩
end
def rho0R (n : Nat) (ps : List D) : Rho := Sl.row :: rho0 (n - 1) ps
def runR (n : Nat) (T : TSt) : List D → (D → Prop) → Prop := fun ps K => T (rho0R n ps) fun fl => match fl with
  | .rt p => K p
  | .nx _ => K .none
  | _ => False
theorem runR_mono {n : Nat} {T : TSt} (m : ∀ ρ K K', (∀ p, K p → K' p) → T ρ K → T ρ K') (ps : List D) (K K' : D → Prop) (h : ∀ p, K p → K' p) (q : runR n T ps K) : runR n T ps K' := m _ _ _ (fun fl k => by
  cases fl with
  | rt p => exact h _ k
  | nx _ => exact h _ k
  | bk _ => exact k
  | ct _ => exact k) q
section
variable {P : Program} {w : World} {K : Fg} {mg : Str → Option Value} {base : Heap} {x qual : Str} {params : Arguments} {body : List Stmt} {scope : Scope} {f : Addr} {fd : FuncData} {N ps : List Str} {k : Nat}
theorem rs_startR {F H : Hp} {r : Addr} {vs : List V} {ds : List D} (s : Same F H) (tb : TbOk K F H) (fr : F r = none) (ok : RowOk K none F H r) (d : DpAll K F vs ds) (hl : vs.length + 1 ≤ N.length) : Rs K ⟨F, H, some r, none⟩ F H (start N (.ref r :: vs)) (rho0R N.length ds) where
  sub := s
  ext := Same.refl _
  new := fun b h1 h2 => absurd h1 h2
  old := SameX.refl _
  hrow := fun r' h => by cases h; exact ⟨fr, ok⟩
  tb := tb
  tbh := fun p hp => by obtain ⟨ps, h1, _⟩ := tb.2.1 p hp; exact ⟨ps, h1⟩
  hr2 := fun r' h => by cases h; obtain ⟨o, e⟩ := ok.there; show H r ≠ none; rw [e]; simp
  len := by unfold start rho0R rho0; have := d.length; simp only [List.length_append, List.length_map, List.length_replicate, List.length_cons]; omega
  at_ := fun i t ht => by
    cases i with
    | zero =>
      unfold rho0R at ht
      simp at ht
      subst ht
      rw [start_at (vs := .ref r :: vs) (i := 0) rfl]
      exact .row fr (.inr ⟨rfl, rfl, True.intro⟩) ok
    | succ i =>
      unfold rho0R at ht
      rw [List.getElem?_cons_succ] at ht
      rcases rho0_at ht with rfl | ⟨p, hp, rfl⟩
      · exact .no
      · obtain ⟨v, hv, dv⟩ := d.get hp
        rw [start_at (vs := .ref r :: vs) (i := i + 1) (by simpa using hv)]
        exact .v dv
  apart := fun i j a s t hij h1 h2 o1 o2 e1 e2 => by
    have z : ∀ (k : Nat) (u : Sl), (rho0R N.length ds)[k]? = some u → u.owns = true → k = 0 := fun k u h o => by
      cases k with
      | zero => rfl
      | succ k =>
        unfold rho0R at h
        rw [List.getElem?_cons_succ] at h
        rcases rho0_at h with rfl | ⟨p, hp, rfl⟩ <;> cases o
    exact hij ((z i s h1 o1).trans (z j t h2 o2).symm)
/-- closed upward -/
def clo (w : List D → (D → Prop) → Prop) : List D → (D → Prop) → Prop := fun ps K => ∃ K0, (∀ p, K0 p → K p) ∧ w ps K0
theorem clo_mono {w : List D → (D → Prop) → Prop} : ∀ ps K K', (∀ p, K p → K' p) → clo w ps K → clo w ps K' := fun ps K K' h ⟨K0, a, b⟩ => ⟨K0, fun p z => h p (a p z), b⟩
theorem clo_in {w : List D → (D → Prop) → Prop} {ps : List D} {K : D → Prop} (h : w ps K) : clo w ps K := ⟨K, fun _ z => z, h⟩
/-- THE RULE: a def that draws -/
theorem fn_row {T : TSt} {n : Nat} (Fd : FunD K x qual params body scope [] [] f fd) (S : FnScope N ps scope) (hn : ps.length = n + 1) (hnN : n + 1 ≤ N.length)
    (hb : ∀ (cdv : Value) (A : Around) (outer : List Env) (s : Shared) (H : Hp) (E : XK), Room k (A.deeper (envOfC qual scope s.heap.objs.size f cdv)) → SWs (cxOf CX0 P w K mg base N qual scope f cdv A outer s H E).nox body T) :
    FnOk P w K mg base CX0 (k + 1) f fd ps (spR K n (clo (runR N.length T))) := by
  refine Fd.ok S (fun vs H Q E h => by rw [h.1, hn]) fun cdv A outer s H vs Q E hr h => ?_
  have W := hb cdv A outer s H E hr
  refine ⟨_, PSs.nox W.pss, ?_⟩
  obtain ⟨hl, r, us, F, ds, rfl, sF, tb, fr, ok, d, K0, hK, q⟩ := h
  replace q := runR_mono W.mono ds K0 _ hK q
  refine ⟨⟨F, H, some r, none⟩, F, rho0R N.length ds, rs_startR sF tb fr ok d (by rw [List.length_cons] at hl; omega), W.mono _ _ _ (fun fl k => ?_) q⟩
  cases fl with
  | nx ρ' => exact fun F' H' σ' R' s' => k F' H' .non s' R'.old R'.sub R'.tb R'.new (R'.hrow r rfl).2 .non
  | rt p => exact fun F' H' v ⟨σ', ρ', R'⟩ s' d' => k F' H' v s' R'.old R'.sub R'.tb R'.new (R'.hrow r rfl).2 d'
  | bk ρ' => exact k.elim
  | ct ρ' => exact k.elim
/-- nothing is promised -/
theorem fn_none {n : Nat} : FnOk P w K mg base CX0 k f fd ps (spF K n (gW fun _ => none)) := by
  refine ⟨fun vs H Q E h => ?_, fun A outer s H args us vs Q E hr => ?_⟩
  · obtain ⟨_, _, _, _, _, _, z, e, _⟩ := h
    cases e
  · intros
    rename_i h
    obtain ⟨_, _, _, _, _, _, z, e, _⟩ := h
    cases e
end
end L2.P


set_option Elab.async false
set_option linter.all false
set_option maxRecDepth 100000
set_option maxHeartbeats 4000000
namespace L2.P
open PySem PySem.Spec PyProof.Rows L2
/-- values of α as data, compared as α's own -/
structure EncOk {α : Type} [DecidableEq α] (enc : α → D) (n : Nat) : Prop where
  eqv : ∀ a b, PyData.eqv (enc a) (enc b) = decide (a = b)
  plain : ∀ a, (enc a).plain = true
  depth : ∀ a, (enc a).depth ≤ n
section
variable {α β : Type} [DecidableEq α] [DecidableEq β] {enc : α → D} {enc' : β → D} {n m : Nat}
theorem encInt : EncOk PyData.int 0 := ⟨fun a b => by simp only [PyData.eqv]; rw [Bool.eq_iff_iff, beq_iff_eq, decide_eq_true_eq], fun _ => rfl, fun _ => Nat.le_refl _⟩
theorem encBool : EncOk PyData.bool 0 := ⟨fun a b => by simp only [PyData.eqv]; rw [Bool.eq_iff_iff, beq_iff_eq, decide_eq_true_eq], fun _ => rfl, fun _ => Nat.le_refl _⟩
theorem EncOk.plainAll (h : EncOk enc n) : ∀ xs : List α, PyData.plainAll (xs.map enc) = true
  | [] => rfl
  | x :: xs => by rw [List.map_cons, PyData.plainAll, h.plain x, EncOk.plainAll h xs]; rfl
theorem EncOk.depthAll (h : EncOk enc n) : ∀ xs : List α, PyData.depthAll (xs.map enc) ≤ n
  | [] => Nat.zero_le _
  | x :: xs => by rw [List.map_cons, PyData.depthAll]; exact Nat.max_le.mpr ⟨h.depth x, EncOk.depthAll h xs⟩
theorem EncOk.eqvAll (h : EncOk enc n) : ∀ xs ys : List α, PyData.eqvAll (xs.map enc) (ys.map enc) = decide (xs = ys)
  | [], [] => by simp only [List.map_nil, PyData.eqvAll, decide_true]
  | [], _ :: _ => by simp [PyData.eqvAll]
  | _ :: _, [] => by simp [PyData.eqvAll]
  | x :: xs, y :: ys => by
    rw [List.map_cons, List.map_cons, PyData.eqvAll, h.eqv x y, EncOk.eqvAll h xs ys, ← Bool.decide_and]
    exact decide_eq_decide.mpr (by rw [List.cons.injEq])
theorem EncOk.list (h : EncOk enc n) : EncOk (fun xs : List α => PyData.list (xs.map enc)) (n + 1) :=
  ⟨fun a b => by simp only [PyData.eqv]; exact h.eqvAll a b, fun a => by simp only [PyData.plain]; exact h.plainAll a, fun a => by simp only [PyData.depth]; exact Nat.succ_le_succ (h.depthAll a)⟩
theorem EncOk.tup (h : EncOk enc n) : EncOk (fun xs : List α => PyData.tuple (xs.map enc)) (n + 1) :=
  ⟨fun a b => by simp only [PyData.eqv]; exact h.eqvAll a b, fun a => by simp only [PyData.plain]; exact h.plainAll a, fun a => by simp only [PyData.depth]; exact Nat.succ_le_succ (h.depthAll a)⟩
theorem EncOk.ok (h : EncOk enc n) (a : α) (hn : n ≤ 64 := by decide) : okD (enc a) = true := okD_iff.mpr ⟨h.plain a, Nat.le_trans (h.depth a) hn⟩
theorem EncOk.oks (h : EncOk enc n) (a : List α) (hn : n ≤ 64 := by decide) : okDs (a.map enc) = true := okDs_iff.mpr ⟨h.plainAll a, Nat.le_trans (h.depthAll a) hn⟩
theorem EncOk.eq (h : EncOk enc n) (a b : α) (hn : n ≤ 64 := by decide) : dEq (enc a) (enc b) = some (.bool (decide (a = b))) := by
  unfold dEq; rw [if_pos ⟨h.ok a hn, h.ok b hn⟩, h.eqv]
theorem EncOk.ne (h : EncOk enc n) (a b : α) (hn : n ≤ 64 := by decide) : dNe (enc a) (enc b) = some (.bool (!decide (a = b))) := by
  unfold dNe; rw [if_pos ⟨h.ok a hn, h.ok b hn⟩, h.eqv]
theorem EncOk.any (h : EncOk enc n) (a : α) : ∀ xs : List α, ((xs.map enc).any fun y => PyData.eqv y (enc a)) = decide (a ∈ xs)
  | [] => rfl
  | x :: xs => by
    rw [List.map_cons, List.any_cons, EncOk.any h a xs, h.eqv, ← Bool.decide_or]
    exact decide_eq_decide.mpr (by rw [List.mem_cons, eq_comm])
theorem EncOk.inT (h : EncOk enc n) (a : α) (xs : List α) (hn : n ≤ 64 := by decide) : dIn (enc a) (.tuple (xs.map enc)) = some (.bool (decide (a ∈ xs))) := by
  unfold dIn; rw [items, Option.bind_some, if_pos ⟨h.ok a hn, h.oks xs hn⟩, h.any]
theorem EncOk.inL (h : EncOk enc n) (a : α) (xs : List α) (hn : n ≤ 64 := by decide) : dIn (enc a) (.list (xs.map enc)) = some (.bool (decide (a ∈ xs))) := by
  unfold dIn; rw [items, Option.bind_some, if_pos ⟨h.ok a hn, h.oks xs hn⟩, h.any]
theorem EncOk.niT (h : EncOk enc n) (a : α) (xs : List α) (hn : n ≤ 64 := by decide) : dNotIn (enc a) (.tuple (xs.map enc)) = some (.bool (!decide (a ∈ xs))) := by
  unfold dNotIn; rw [items, Option.bind_some, if_pos ⟨h.ok a hn, h.oks xs hn⟩, h.any]
theorem EncOk.niL (h : EncOk enc n) (a : α) (xs : List α) (hn : n ≤ 64 := by decide) : dNotIn (enc a) (.list (xs.map enc)) = some (.bool (!decide (a ∈ xs))) := by
  unfold dNotIn; rw [items, Option.bind_some, if_pos ⟨h.ok a hn, h.oks xs hn⟩, h.any]
end
@[simp] theorem e_le (i j : Int) : dLe (.int i) (.int j) = some (.bool (decide (i ≤ j))) := rfl
@[simp] theorem e_gt (i j : Int) : dGt (.int i) (.int j) = some (.bool (decide (j < i))) := rfl
@[simp] theorem e_ge (i j : Int) : dGe (.int i) (.int j) = some (.bool (decide (j ≤ i))) := rfl
@[simp] theorem e_sub (i j : Int) : dSub (.int i) (.int j) = some (.int (i - j)) := rfl
@[simp] theorem e_add (i j : Int) : dAdd (.int i) (.int j) = some (.int (i + j)) := rfl
@[simp] theorem e_eq (i j : Int) : dEq (.int i) (.int j) = some (.bool (decide (i = j))) := encInt.eq i j
@[simp] theorem e_ne (i j : Int) : dNe (.int i) (.int j) = some (.bool (!decide (i = j))) := encInt.ne i j
@[simp] theorem e_eqb (i j : Bool) : dEq (.bool i) (.bool j) = some (.bool (decide (i = j))) := encBool.eq i j
@[simp] theorem e_neb (i j : Bool) : dNe (.bool i) (.bool j) = some (.bool (!decide (i = j))) := encBool.ne i j
@[simp] theorem e_inT (i : Int) (xs : List Int) : dIn (.int i) (.tuple (xs.map .int)) = some (.bool (decide (i ∈ xs))) := encInt.inT i xs
@[simp] theorem e_inL (i : Int) (xs : List Int) : dIn (.int i) (.list (xs.map .int)) = some (.bool (decide (i ∈ xs))) := encInt.inL i xs
@[simp] theorem e_niT (i : Int) (xs : List Int) : dNotIn (.int i) (.tuple (xs.map .int)) = some (.bool (!decide (i ∈ xs))) := encInt.niT i xs
@[simp] theorem e_niL (i : Int) (xs : List Int) : dNotIn (.int i) (.list (xs.map .int)) = some (.bool (!decide (i ∈ xs))) := encInt.niL i xs
@[simp] theorem e_isB (b : Bool) : isB (.bool b) = some b := rfl
@[simp] theorem e_b2 (g : G2) (f1 f2 : Rho → Option D) (ρ : Rho) : b2 g f1 f2 ρ = (f1 ρ).bind fun x => (f2 ρ).bind fun y => g x y := rfl
@[simp] theorem e_b3 (g g' : G2) (f1 f2 f3 : Rho → Option D) (ρ : Rho) : b3 g g' f1 f2 f3 ρ = (f1 ρ).bind fun x => (f2 ρ).bind fun y => (g x y).bind fun r => (isB r).bind fun k => if k = true then (f3 ρ).bind fun z => g' y z else some (.bool false) := rfl
@[simp] theorem e_bB (f : Rho → Option D) (ρ : Rho) : bB f ρ = (f ρ).bind isB := rfl
@[simp] theorem e_bNot (f : Rho → Option Bool) (ρ : Rho) : bNot f ρ = (f ρ).map (!·) := rfl
@[simp] theorem e_bAnd (f g : Rho → Option Bool) (ρ : Rho) : bAnd f g ρ = (f ρ).bind fun b => if b = true then g ρ else some false := rfl
@[simp] theorem e_bOr (f g : Rho → Option Bool) (ρ : Rho) : bOr f g ρ = (f ρ).bind fun b => if b = true then some true else g ρ := rfl
@[simp] theorem e_vAnd (f g : Rho → Option D) (ρ : Rho) : vAnd f g ρ = (f ρ).bind fun x => (isB x).bind fun b => if b = true then g ρ else some (.bool false) := rfl
@[simp] theorem e_vNot (f : Rho → Option D) (ρ : Rho) : vNot f ρ = (f ρ).bind fun x => (isB x).map fun b => .bool (!b) := rfl
@[simp] theorem e_vIf (t : Rho → Option Bool) (f g : Rho → Option D) (ρ : Rho) : vIf t f g ρ = (t ρ).bind fun b => if b = true then f ρ else g ρ := rfl
@[simp] theorem e_aNil (ρ : Rho) : aNil ρ = some [] := rfl
@[simp] theorem e_aCons (f : Rho → Option D) (g : Rho → Option (List D)) (ρ : Rho) : aCons f g ρ = (f ρ).bind fun x => (g ρ).map fun xs => x :: xs := rfl
@[simp] theorem e_aOf {α : Type} (g : List D → Option α) (f : Rho → Option (List D)) (ρ : Rho) : aOf g f ρ = (f ρ).bind g := rfl
@[simp] theorem e_vTup (f : Rho → Option (List D)) (ρ : Rho) : vTup f ρ = (f ρ).map PyData.tuple := rfl
@[simp] theorem e_gC (p : D) (ρ : Rho) : gC p ρ = some p := rfl
@[simp] theorem e_wipe0 (ρ : Rho) : wipeR ρ [] = ρ := rfl
@[simp] theorem e_wipe (ρ : Rho) (i : Nat) (is : List Nat) : wipeR ρ (i :: is) = (wipeR ρ is).set i .no := rfl
@[simp] theorem e_fYes (ρ : Rho) : fYes ρ = some true := rfl
@[simp] theorem e_fItems (f : Rho → Option D) (ρ : Rho) : fItems f ρ = (f ρ).bind items := rfl
@[simp] theorem e_itT (xs : List D) : items (.tuple xs) = some xs := rfl
@[simp] theorem e_itL (xs : List D) : items (.list xs) = some xs := rfl
@[simp] theorem e_gTupL (xs : List D) : gTup [.list xs] = some (.tuple xs) := rfl
@[simp] theorem e_gTupT (xs : List D) : gTup [.tuple xs] = some (.tuple xs) := rfl
@[simp] theorem e_gLst (p : D) : gLst [p] = items p := rfl
@[simp] theorem e_gLenL (xs : List D) : gLen [.list xs] = some (.int xs.length) := rfl
@[simp] theorem e_gLenT (xs : List D) : gLen [.tuple xs] = some (.int xs.length) := rfl
@[simp] theorem e_vIsi (T : String) (f : Rho → Option D) (ρ : Rho) : vIsi T f ρ = (f ρ).bind fun p => if noIs p = true then none else some (gIsi T p) := rfl
@[simp] theorem e_vIsi2 (T U : String) (f : Rho → Option D) (ρ : Rho) : vIsi2 T U f ρ = (f ρ).bind fun p => if noIs p = true then none else some (.bool (isiB (tyN p) T || isiB (tyN p) U)) := rfl
@[simp] theorem e_gIsi (T : String) (p : D) : gIsi T p = .bool (isiB (tyN p) T) := rfl
@[simp] theorem e_gAny (bs : List Bool) : gAny [.list (bs.map .bool)] = some (.bool (bs.any id)) := by show (boolsD _).map _ = _; rw [boolsD_map]; rfl
@[simp] theorem e_gAll (bs : List Bool) : gAll [.list (bs.map .bool)] = some (.bool (bs.all id)) := by show (boolsD _).map _ = _; rw [boolsD_map]; rfl
@[simp] theorem e_gAnyC {α : Type} (xs : List α) (Q : α → Bool) : gAny [.list (xs.map (PyData.bool ∘ Q))] = some (.bool (xs.any Q)) := by rw [← List.map_map, e_gAny, List.any_map]; rfl
@[simp] theorem e_gAllC {α : Type} (xs : List α) (Q : α → Bool) : gAll [.list (xs.map (PyData.bool ∘ Q))] = some (.bool (xs.all Q)) := by rw [← List.map_map, e_gAll, List.all_map]; rfl
/-- statements -/
@[simp] theorem e_sSeq (f g : Rho → Option Fl) (ρ : Rho) : sSeq f g ρ = (match f ρ with | some (.nx ρ') => g ρ' | r => r) := rfl
@[simp] theorem e_sNil (ρ : Rho) : sNil ρ = some (.nx ρ) := rfl
@[simp] theorem e_sRet (f : Rho → Option D) (ρ : Rho) : sRet f ρ = (f ρ).map Fl.rt := rfl
@[simp] theorem e_sSet (i : Nat) (f : Rho → Option D) (ρ : Rho) : sSet i f ρ = (f ρ).map fun p => .nx (ρ.set i (.v p)) := rfl
@[simp] theorem e_sSetO (i : Nat) (f : Rho → Option (List D)) (ρ : Rho) : sSetO i f ρ = (f ρ).map fun p => .nx (ρ.set i (.ol p)) := rfl
@[simp] theorem e_sSetL (i : Nat) (f : Rho → Option (List D)) (ρ : Rho) : sSetL i f ρ = (f ρ).map fun p => .nx (ρ.set i (.v (.list p))) := rfl
@[simp] theorem e_sDrop (f : Rho → Option D) (ρ : Rho) : sDrop f ρ = (f ρ).map fun _ => .nx ρ := rfl
@[simp] theorem e_sIf (t : Rho → Option Bool) (f g : Rho → Option Fl) (ρ : Rho) : sIf t f g ρ = (t ρ).bind fun b => if b = true then f ρ else g ρ := rfl
@[simp] theorem e_sFor (g : Tg) (u : Rho → Option (List D)) (f : Rho → Option Fl) (ρ : Rho) : sFor g u f ρ = (u ρ).bind fun ps => forF g f ps ρ := rfl
@[simp] theorem e_tgN (i : Nat) (p : D) (ρ : Rho) : tgN i p ρ = some (ρ.set i (.v p)) := rfl
@[simp] theorem e_tg2 (i j : Nat) (a b : D) (ρ : Rho) : tg2 i j (.tuple [a, b]) ρ = some ((ρ.set i (.v a)).set j (.v b)) := rfl
theorem e_sApp {i : Nat} {f : Rho → Option D} {ρ : Rho} {ps : List D} {p : D} (h : ρ[i]? = some (.ol ps)) (e : f ρ = some p) (hl : ps.length < sizeLine) : sApp i f ρ = some (.nx (ρ.set i (.ol (ps ++ [p])))) := by
  unfold sApp; rw [h]; show (f ρ).bind _ = _; rw [e, Option.bind_some, if_pos hl]
theorem atI_ix {α : Type} (xs : List α) (i : Int) (h0 : 0 ≤ i) (h1 : i < xs.length) : ∃ x, xs[i.toNat]? = some x ∧ atI xs i = some x := by
  have hi : i.toNat < xs.length := by omega
  refine ⟨xs[i.toNat], List.getElem?_eq_getElem hi, ?_⟩
  have e : i = (i.toNat : Int) := by omega
  have z := atI_nat (List.getElem?_eq_getElem hi)
  rw [← e] at z
  exact z
/-- a comprehension -/
theorem lcF_map {α : Type} {enc : α → D} {P : α → Bool} {E : α → D} {is : List Nat} {g : Tg} {t : Rho → Option Bool} {f : Rho → Option D} {ρ : Rho} : ∀ (xs : List α),
    (∀ x ∈ xs, ∃ ρ', g (enc x) (wipeR ρ is) = some ρ' ∧ t ρ' = some (P x) ∧ (P x = true → f ρ' = some (E x))) → lcF is g t f ρ (xs.map enc) = some ((xs.filter P).map E)
  | [], _ => rfl
  | x :: xs, h => by
    obtain ⟨ρ', h1, h2, h3⟩ := h x List.mem_cons_self
    rw [List.map_cons, lcF, h1, Option.bind_some, h2, Option.bind_some, lcF_map xs fun y hy => h y (List.mem_cons_of_mem _ hy)]
    cases hP : P x with
    | true => rw [if_pos rfl, h3 hP, Option.bind_some, List.filter_cons_of_pos hP]; rfl
    | false => rw [if_neg (by simp), List.filter_cons_of_neg (by rw [hP]; simp)]
theorem cLc_map {α : Type} (xs : List α) (enc : α → D) (P : α → Bool) (E : α → D) {is : List Nat} {g : Tg} {t : Rho → Option Bool} {f : Rho → Option D} {u : Rho → Option (List D)} {ρ : Rho} (hu : u ρ = some (xs.map enc)) (no : noOwn ρ is = true)
    (h : ∀ x ∈ xs, ∃ ρ', g (enc x) (wipeR ρ is) = some ρ' ∧ t ρ' = some (P x) ∧ (P x = true → f ρ' = some (E x))) : cLc is g t f u ρ = some ((xs.filter P).map E) := by
  unfold cLc; rw [if_pos no, hu, Option.bind_some, lcF_map xs h]
/-- a loop that adds to a list -/
theorem forF_app {α S : Type} {enc : α → D} (add : α → List D) (st : List D → S → Rho) {g : Tg} {f : Rho → Option Fl} (N : Nat) : ∀ (xs : List α) (acc : List D) (v : S),
    (∀ (acc : List D) (v : S) (x : α), x ∈ xs → acc.length + (add x).length ≤ N → ∃ ρ' v', g (enc x) (st acc v) = some ρ' ∧ f ρ' = some (.nx (st (acc ++ add x) v'))) → acc.length + (xs.flatMap add).length ≤ N →
    ∃ v', forF g f (xs.map enc) (st acc v) = some (.nx (st (acc ++ xs.flatMap add) v'))
  | [], acc, v, _, _ => ⟨v, by simp [forF]⟩
  | x :: xs, acc, v, h, hN => by
    rw [List.flatMap_cons, List.length_append] at hN
    obtain ⟨ρ', v1, h1, h2⟩ := h acc v x List.mem_cons_self (by omega)
    obtain ⟨v2, h3⟩ := forF_app add st N xs (acc ++ add x) v1 (fun a w y hy => h a w y (List.mem_cons_of_mem _ hy)) (by rw [List.length_append]; omega)
    refine ⟨v2, ?_⟩
    rw [List.map_cons, forF, h1, Option.bind_some, h2]
    show forF g f (xs.map enc) _ = _
    rw [h3, List.append_assoc, List.flatMap_cons]
/-- a loop that only looks -/
theorem forF_chk {α S : Type} {enc : α → D} (st : S → Rho) {g : Tg} {f : Rho → Option Fl} (xs : List α) (v : S) (h : ∀ (v : S) (x : α), x ∈ xs → ∃ ρ' v', g (enc x) (st v) = some ρ' ∧ f ρ' = some (.nx (st v'))) : ∃ v', forF g f (xs.map enc) (st v) = some (.nx (st v')) := by
  induction xs generalizing v with
  | nil => exact ⟨v, rfl⟩
  | cons x xs ih =>
    obtain ⟨ρ', v1, h1, h2⟩ := h v x List.mem_cons_self
    obtain ⟨v2, h3⟩ := ih v1 fun a y hy => h a y (List.mem_cons_of_mem _ hy)
    refine ⟨v2, ?_⟩
    rw [List.map_cons, forF, h1, Option.bind_some, h2]
    exact h3
theorem flatMap_if {α β : Type} (P : α → Bool) (E : α → β) (xs : List α) : (xs.flatMap fun x => if P x = true then [E x] else []) = (xs.filter P).map E := by
  induction xs with
  | nil => rfl
  | cons x xs ih =>
    rw [List.flatMap_cons, ih]
    cases hP : P x with
    | true => rw [if_pos rfl, List.filter_cons_of_pos hP]; rfl
    | false => rw [if_neg (by simp), List.filter_cons_of_neg (by rw [hP]; simp)]; rfl
/-- range(n) -/
def upI (n : Nat) : List Int := (List.range n).map fun i => ((i : Nat) : Int)
theorem mem_upI {n : Nat} {k : Int} : k ∈ upI n ↔ 0 ≤ k ∧ k < n := by
  unfold upI
  rw [List.mem_map]
  constructor
  · rintro ⟨i, hi, rfl⟩; rw [List.mem_range] at hi; omega
  · rintro ⟨h1, h2⟩; exact ⟨k.toNat, List.mem_range.mpr (by omega), by omega⟩
theorem upI_length (n : Nat) : (upI n).length = n := by unfold upI; rw [List.length_map, List.length_range]
theorem rngD_upI (n : Nat) : rngD 0 n = (upI n).map PyData.int := by unfold rngD upI; rw [List.map_map]; apply List.map_congr_left; intro i _; show PyData.int _ = PyData.int _; rw [Int.zero_add]
theorem gRng1_upI (n : Nat) (h : n ≤ 16777216) : gRng1 [.int (n : Int)] = some ((upI n).map PyData.int) := by
  show (if _ then some (rngD 0 ((n : Int)).toNat) else none) = _; rw [if_pos (by omega), Int.toNat_natCast, rngD_upI]
/-- range(a, b) -/
def frTo (a b : Int) : List Int := (List.range (b - a).toNat).map fun i => a + ((i : Nat) : Int)
theorem mem_frTo {a b k : Int} : k ∈ frTo a b ↔ a ≤ k ∧ k < b := by
  unfold frTo
  rw [List.mem_map]
  constructor
  · rintro ⟨i, hi, rfl⟩; rw [List.mem_range] at hi; omega
  · rintro ⟨h1, h2⟩; exact ⟨(k - a).toNat, List.mem_range.mpr (by omega), by omega⟩
theorem gRng2_frTo (a b : Int) (h1 : 0 ≤ a) (h2 : a ≤ 16777216) (h3 : 0 ≤ b) (h4 : b ≤ 16777216) : gRng2 [.int a, .int b] = some ((frTo a b).map PyData.int) := by
  show (if _ then some (rngD a (b - a).toNat) else none) = _
  rw [if_pos (by omega)]
  unfold rngD frTo
  rw [List.map_map]; rfl
end L2.P


set_option Elab.async false
set_option linter.all false
set_option maxRecDepth 100000
set_option maxHeartbeats 4000000
namespace L2.P
open PySem PySem.Spec PyProof.Rows L2
theorem runF_rt {n : Nat} {f : Rho → Option Fl} {ps : List D} {p : D} (h : f (rho0 n ps) = some (.rt p)) : runF n f ps = some p := by unfold runF; rw [h]
theorem runF_nx {n : Nat} {f : Rho → Option Fl} {ps : List D} {ρ : Rho} (h : f (rho0 n ps) = some (.nx ρ)) : runF n f ps = some .none := by unfold runF; rw [h]
abbrev tR (r : List Int) : D := .tuple (r.map .int)
theorem webD_tR (w : List (List Int)) : webD w = .tuple (w.map tR) := rfl
@[simp] theorem e_gLenW (w : List (List Int)) : gLen [webD w] = some (.int w.length) := by show some (PyData.int ((w.map tR).length : Int)) = _; rw [List.length_map]
@[simp] theorem e_gLenR (r : List Int) : gLen [tR r] = some (.int r.length) := by show some (PyData.int ((r.map PyData.int).length : Int)) = _; rw [List.length_map]
/-- the friends of i -/
def fr (w : List (List Int)) (i : Int) : List Int := w.getD i.toNat []
theorem fr_get {w : List (List Int)} {i : Int} (h0 : 0 ≤ i) (h1 : i < w.length) : w[i.toNat]? = some (fr w i) := by
  have hi : i.toNat < w.length := by omega
  unfold fr
  rw [List.getD_eq_getElem?_getD, List.getElem?_eq_getElem hi]
  rfl
theorem ix_web {w : List (List Int)} {i : Int} (h0 : 0 ≤ i) (h1 : i < w.length) : dIx (webD w) (.int i) = some (tR (fr w i)) := by
  show atI (w.map tR) i = _
  have hi : i.toNat < w.length := by omega
  have z := atI_nat (xs := w.map tR) (j := i.toNat) (v := tR (fr w i)) (by rw [List.getElem?_map, fr_get h0 h1]; rfl)
  have e : ((i.toNat : Nat) : Int) = i := by omega
  rw [e] at z
  exact z
structure Web (w : List (List Int)) : Prop where
  pos : 1 ≤ w.length
  le : w.length ≤ 7
  up : ∀ i : Int, 0 ≤ i → i < w.length → (fr w i).Pairwise (· < ·)
  inn : ∀ i k : Int, 0 ≤ i → i < w.length → k ∈ fr w i → 0 ≤ k ∧ k < w.length ∧ k ≠ i
  sym : ∀ i k : Int, 0 ≤ i → i < w.length → k ∈ fr w i → i ∈ fr w k
/-- people of a web of n, each once, from the shortest up -/
structure Ppl (n : Nat) (st : List Int) : Prop where
  up : st.Pairwise (· < ·)
  inn : ∀ k ∈ st, 0 ≤ k ∧ k < (n : Int)
theorem len_span : ∀ {l : List Int} {a b : Int}, a ≤ b → l.Pairwise (· < ·) → (∀ k ∈ l, a ≤ k ∧ k < b) → (l.length : Int) ≤ b - a
  | [], a, b, h, _, _ => by simp; omega
  | x :: t, a, b, h, p, q => by
    have hx := q x List.mem_cons_self
    obtain ⟨p1, p2⟩ := List.pairwise_cons.mp p
    have := len_span (a := x + 1) (b := b) (by omega) p2 fun k hk => ⟨by have := p1 k hk; omega, (q k (List.mem_cons_of_mem _ hk)).2⟩
    rw [List.length_cons]; omega
theorem len_hole : ∀ {l : List Int} {a b i : Int}, a ≤ i → i < b → l.Pairwise (· < ·) → (∀ k ∈ l, a ≤ k ∧ k < b ∧ k ≠ i) → (l.length : Int) ≤ b - a - 1
  | [], a, b, i, h1, h2, _, _ => by simp; omega
  | x :: t, a, b, i, h1, h2, p, q => by
    have hx := q x List.mem_cons_self
    obtain ⟨p1, p2⟩ := List.pairwise_cons.mp p
    rw [List.length_cons]
    by_cases c : i < x
    · have := len_span (a := x + 1) (b := b) (by omega) p2 fun k hk => ⟨by have := p1 k hk; omega, (q k (List.mem_cons_of_mem _ hk)).2.1⟩
      omega
    · have := len_hole (a := x + 1) (b := b) (i := i) (by omega) h2 p2 fun k hk => ⟨by have := p1 k hk; omega, (q k (List.mem_cons_of_mem _ hk)).2⟩
      omega
theorem Ppl.len {n : Nat} {st : List Int} (h : Ppl n st) : st.length ≤ n := by
  have := len_span (a := 0) (b := n) (by omega) h.up h.inn
  omega
theorem Web.frlen {w : List (List Int)} (h : Web w) {i : Int} (h0 : 0 ≤ i) (h1 : i < w.length) : ((fr w i).length : Int) ≤ w.length - 1 := by
  have := len_hole (a := 0) (b := w.length) h0 h1 (h.up i h0 h1) fun k hk => h.inn i k h0 h1 hk
  omega
theorem sortD_self {r : List Int} (h : r.Pairwise (· < ·)) : sortD r = r := pw_unique (pw_sortD r) h fun k => mem_sortD
@[simp] theorem e_sortSet (r : List Int) (h : r.length < 64) : dSortSet (tR r) = some ((sortD r).map PyData.int) := by
  show (intsD _).bind _ = _
  rw [intsD_map, Option.bind_some, if_pos h]
/-- the rows of a web with their places -/
theorem enum_web (w : List (List Int)) : enumD (w.map tR) = (upI w.length).map fun i => .tuple [.int i, tR (fr w i)] := by
  unfold enumD upI
  rw [List.length_map, List.map_map]
  apply List.map_congr_left
  intro i hi
  rw [List.mem_range] at hi
  have e : (w.map tR).getD i .none = tR (fr w (i : Int)) := by
    rw [List.getD_eq_getElem?_getD, List.getElem?_map]
    unfold fr
    rw [Int.toNat_natCast, List.getD_eq_getElem?_getD, List.getElem?_eq_getElem hi]
    rfl
  show PyData.tuple [.int (i : Nat), _] = _
  rw [e]
  rfl
end L2.P
namespace L2.P
open PySem PySem.Spec PyProof.Rows L2
/-- a comprehension of truth values -/
theorem cLc_all {α : Type} (xs : List α) (enc : α → D) (Q : α → Bool) {is : List Nat} {g : Tg} {t : Rho → Option Bool} {f : Rho → Option D} {u : Rho → Option (List D)} {ρ : Rho} (hu : u ρ = some (xs.map enc)) (no : noOwn ρ is = true)
    (h : ∀ x ∈ xs, ∃ ρ', g (enc x) (wipeR ρ is) = some ρ' ∧ t ρ' = some true ∧ f ρ' = some (.bool (Q x))) : cLc is g t f u ρ = some ((xs.map Q).map PyData.bool) := by
  rw [cLc_map xs enc (fun _ => true) (fun x => .bool (Q x)) hu no fun x hx => by
    obtain ⟨ρ', a, b, c⟩ := h x hx
    exact ⟨ρ', a, b, fun _ => c⟩]
  rw [List.filter_eq_self.mpr fun _ _ => rfl, List.map_map]
  rfl
theorem Web.all {w : List (List Int)} (h : Web w) {i : Int} (h0 : 0 ≤ i) (h1 : i < w.length) : ((fr w i).all fun k => decide (0 ≤ k) && decide (k ≤ (w.length : Int) - 1)) = true := by
  rw [List.all_eq_true]
  intro k hk
  have := h.inn i k h0 h1 hk
  simp; omega
theorem Ppl.all {n : Nat} {st : List Int} (h : Ppl n st) : (st.all fun k => decide (0 ≤ k) && decide (k ≤ (n : Int) - 1)) = true := by
  rw [List.all_eq_true]
  intro k hk
  have := h.inn k hk
  simp; omega
end L2.P

namespace L2.P
open PySem PySem.Spec PyProof.Rows L2
section
variable {f g a b : Rho → Option Fl} {e : Rho → Option D} {es : Rho → Option (List D)} {t : Rho → Option Bool} {u : Rho → Option (List D)} {tg : Tg} {ρ : Rho} {K : Fl → Prop} {i : Nat}
theorem run_rt {n : Nat} {ps : List D} {p : D} (h : fW f (rho0 n ps) fun fl => fl = .rt p) : runF n f ps = some p := by
  obtain ⟨fl, e, rfl⟩ := h
  exact runF_rt e
theorem run_nx {n : Nat} {ps : List D} (h : fW f (rho0 n ps) fun fl => ∃ ρ, fl = .nx ρ) : runF n f ps = some .none := by
  obtain ⟨fl, e, ρ, rfl⟩ := h
  exact runF_nx e
theorem s_seq (h : fW f ρ (fun fl => match fl with | .nx ρ' => fW g ρ' K | fl => K fl)) : fW (sSeq f g) ρ K := by
  obtain ⟨fl, e, k⟩ := h
  unfold fW
  rw [e_sSeq, e]
  cases fl with
  | nx ρ' => exact k
  | rt p => exact ⟨_, rfl, k⟩
  | bk p => exact ⟨_, rfl, k⟩
  | ct p => exact ⟨_, rfl, k⟩
theorem s_nil (k : K (.nx ρ)) : fW sNil ρ K := ⟨_, rfl, k⟩
theorem s_ret (p : D) (h : e ρ = some p) (k : K (.rt p)) : fW (sRet e) ρ K := ⟨.rt p, by rw [e_sRet, h]; rfl, k⟩
theorem s_set (p : D) (h : e ρ = some p) (k : K (.nx (ρ.set i (.v p)))) : fW (sSet i e) ρ K := ⟨_, by rw [e_sSet, h]; rfl, k⟩
theorem s_seto (p : List D) (h : es ρ = some p) (k : K (.nx (ρ.set i (.ol p)))) : fW (sSetO i es) ρ K := ⟨_, by rw [e_sSetO, h]; rfl, k⟩
theorem s_drop (p : D) (h : e ρ = some p) (k : K (.nx ρ)) : fW (sDrop e) ρ K := ⟨_, by rw [e_sDrop, h]; rfl, k⟩
theorem s_if (c : Bool) (h : t ρ = some c) (ka : c = true → fW a ρ K) (kb : c = false → fW b ρ K) : fW (sIf t a b) ρ K := by
  unfold fW
  rw [e_sIf, h, Option.bind_some]
  cases c with
  | true => exact ka rfl
  | false => exact kb rfl
theorem s_no (h : t ρ = some false) (k : fW b ρ K) : fW (sIf t a b) ρ K := s_if false h (fun z => by cases z) fun _ => k
theorem s_yes (h : t ρ = some true) (k : fW a ρ K) : fW (sIf t a b) ρ K := s_if true h (fun _ => k) fun z => by cases z
/-- .. ahead of more -/
theorem q_set (p : D) (h : e ρ = some p) (k : fW g (ρ.set i (.v p)) K) : fW (sSeq (sSet i e) g) ρ K := s_seq (s_set p h k)
theorem q_seto (p : List D) (h : es ρ = some p) (k : fW g (ρ.set i (.ol p)) K) : fW (sSeq (sSetO i es) g) ρ K := s_seq (s_seto p h k)
theorem q_drop (p : D) (h : e ρ = some p) (k : fW g ρ K) : fW (sSeq (sDrop e) g) ρ K := s_seq (s_drop p h k)
theorem q_no (h : t ρ = some false) (k : fW g ρ K) : fW (sSeq (sIf t a sNil) g) ρ K := s_seq (s_no h (s_nil k))
/-- loops -/
theorem s_chk {α S : Type} (st : S → Rho) (xs : List α) (enc : α → D) (v : S) (hu : u ρ = some (xs.map enc)) (hρ : ρ = st v) (h : ∀ (v : S) (x : α), x ∈ xs → ∃ ρ', tg (enc x) (st v) = some ρ' ∧ fW f ρ' fun fl => ∃ v', fl = .nx (st v')) (k : ∀ v', K (.nx (st v'))) : fW (sFor tg u f) ρ K := by
  subst hρ
  obtain ⟨v', e⟩ := forF_chk (g := tg) (f := f) st xs v (fun v x hx => by
    obtain ⟨ρ', h1, fl, h2, v', rfl⟩ := h v x hx
    exact ⟨ρ', v', h1, h2⟩)
  exact ⟨_, by rw [e_sFor, hu, Option.bind_some, e], k v'⟩
theorem q_chk {α S : Type} (st : S → Rho) (xs : List α) (enc : α → D) (v : S) (hu : u ρ = some (xs.map enc)) (hρ : ρ = st v) (h : ∀ (v : S) (x : α), x ∈ xs → ∃ ρ', tg (enc x) (st v) = some ρ' ∧ fW f ρ' fun fl => ∃ v', fl = .nx (st v')) (k : ∀ v', fW g (st v') K) : fW (sSeq (sFor tg u f) g) ρ K := s_seq (s_chk st xs enc v hu hρ h k)
theorem s_app {α S : Type} (st : List D → S → Rho) (xs : List α) (enc : α → D) (add : α → List D) (N : Nat) (acc : List D) (v : S) (hu : u ρ = some (xs.map enc)) (hρ : ρ = st acc v) (hN : acc.length + (xs.flatMap add).length ≤ N)
    (h : ∀ (acc : List D) (v : S) (x : α), x ∈ xs → acc.length + (add x).length ≤ N → ∃ ρ', tg (enc x) (st acc v) = some ρ' ∧ fW f ρ' fun fl => ∃ v', fl = .nx (st (acc ++ add x) v')) (k : ∀ v', K (.nx (st (acc ++ xs.flatMap add) v'))) : fW (sFor tg u f) ρ K := by
  subst hρ
  obtain ⟨v', e⟩ := forF_app (g := tg) (f := f) (enc := enc) add st N xs acc v (fun acc v x hx hl => by
    obtain ⟨ρ', h1, fl, h2, v', rfl⟩ := h acc v x hx hl
    exact ⟨ρ', v', h1, h2⟩) hN
  exact ⟨_, by rw [e_sFor, hu, Option.bind_some, e], k v'⟩
theorem q_app {α S : Type} (st : List D → S → Rho) (xs : List α) (enc : α → D) (add : α → List D) (N : Nat) (acc : List D) (v : S) (hu : u ρ = some (xs.map enc)) (hρ : ρ = st acc v) (hN : acc.length + (xs.flatMap add).length ≤ N)
    (h : ∀ (acc : List D) (v : S) (x : α), x ∈ xs → acc.length + (add x).length ≤ N → ∃ ρ', tg (enc x) (st acc v) = some ρ' ∧ fW f ρ' fun fl => ∃ v', fl = .nx (st (acc ++ add x) v')) (k : ∀ v', fW g (st (acc ++ xs.flatMap add) v') K) : fW (sSeq (sFor tg u f) g) ρ K := s_seq (s_app st xs enc add N acc v hu hρ hN h k)
theorem s_app1 {ps : List D} (p : D) (hi : ρ[i]? = some (.ol ps)) (h : e ρ = some p) (hl : ps.length < sizeLine) (k : K (.nx (ρ.set i (.ol (ps ++ [p]))))) : fW (sApp i e) ρ K := ⟨_, e_sApp hi h hl, k⟩
end
end L2.P


set_option Elab.async false
set_option linter.all false
set_option maxRecDepth 100000
set_option maxHeartbeats 4000000
namespace L2.P
open PySem PySem.Spec PyProof.Rows L2
theorem forW_inv {α S : Type} {enc : α → D} (st : S → Rho) (J : Nat → S → Prop) {g : Tg} {T : TSt} {K : Fl → Prop} (N : Nat) : ∀ (xs : List α) (i : Nat) (s : S), i + xs.length ≤ N → J i s →
    (∀ (i : Nat) (s : S) (x : α) (K' : Fl → Prop), x ∈ xs → i < N → J i s → (∀ s', J (i + 1) s' → K' (.nx (st s'))) → ∃ ρ', g (enc x) (st s) = some ρ' ∧ T ρ' K') → (∀ s, J (i + xs.length) s → K (.nx (st s))) → forW g T (xs.map enc) (st s) K
  | [], i, s, _, hJ, _, k => k s hJ
  | x :: xs, i, s, hN, hJ, h, k => by
    rw [List.length_cons] at hN
    obtain ⟨ρ', h1, h2⟩ := h i s x (fun fl => match fl with
      | .nx ρ2 => forW g T (xs.map enc) ρ2 K
      | .ct ρ2 => forW g T (xs.map enc) ρ2 K
      | .bk ρ2 => K (.nx ρ2)
      | .rt v => K (.rt v)) List.mem_cons_self (by omega) hJ (fun s' hs' => forW_inv st J N xs (i + 1) s' (by omega) hs' (fun i s y K' hy => h i s y K' (List.mem_cons_of_mem _ hy)) fun s2 hs2 => k s2 (by rw [List.length_cons]; rw [Nat.add_assoc, Nat.add_comm 1] at hs2; exact hs2))
    exact ⟨ρ', h1, h2⟩
/-- a comprehension whose test draws -/
theorem lcV_sub {α : Type} {enc : α → D} {E : α → D} {is : List Nat} {g : Tg} {T : TB} {El : TW} {ρ : Rho} {K : List D → Prop} : ∀ (xs : List α) (acc : List D),
    (∀ x ∈ xs, ∃ ρ', g (enc x) (wipeR ρ is) = some ρ' ∧ (∀ K' : Bool → Prop, (∀ b, K' b) → T ρ' K') ∧ ∀ K' : D → Prop, K' (E x) → El ρ' K') → (∀ ys : List α, ys.Sublist xs → K (acc ++ ys.map E)) → lcV is g T El ρ (xs.map enc) acc K
  | [], acc, _, k => by
    have := k [] (List.Sublist.refl _)
    rw [List.map_nil, List.append_nil] at this
    exact this
  | x :: xs, acc, h, k => by
    obtain ⟨ρ', h1, h2, h3⟩ := h x List.mem_cons_self
    refine ⟨ρ', h1, h2 _ fun b => ?_⟩
    cases b with
    | true =>
      rw [if_pos rfl]
      refine h3 _ (lcV_sub xs _ (fun y hy => h y (List.mem_cons_of_mem _ hy)) fun ys hys => ?_)
      have := k (x :: ys) (List.Sublist.cons₂ x hys)
      rw [List.append_assoc]
      exact this
    | false =>
      rw [if_neg (by simp)]
      exact lcV_sub xs acc (fun y hy => h y (List.mem_cons_of_mem _ hy)) fun ys hys => k ys (List.Sublist.cons x hys)
theorem pw_upI (n : Nat) : (upI n).Pairwise (· < ·) := by
  unfold upI
  rw [List.pairwise_map]
  exact List.Pairwise.imp (fun h => by omega) (List.pairwise_lt_range)
theorem modR_get {rows : List (List Int)} {a : Nat} {b : Int} {i : Nat} : (modR rows a b)[i]? = if a = i then rows[i]?.map (insF b) else rows[i]? := by
  unfold modR
  rw [List.getElem?_modify]
  split <;> simp_all
theorem mem_addE {rows : List (List Int)} {e : Int × Int} {i : Nat} {k : Int} (hl : i < rows.length) (h1 : 0 ≤ e.1) (h2 : 0 ≤ e.2) : k ∈ ((addE rows e).getD i []) ↔ k ∈ rows.getD i [] ∨ (e.1 = i ∧ e.2 = k) ∨ (e.2 = i ∧ e.1 = k) := by
  unfold addE
  rw [List.getD_eq_getElem?_getD, List.getD_eq_getElem?_getD, modR_get, modR_get, List.getElem?_eq_getElem hl]
  by_cases c1 : e.2.toNat = i <;> by_cases c2 : e.1.toNat = i
  · rw [if_pos c1, if_pos c2]
    simp only [Option.map_some, Option.getD_some, mem_insF]
    constructor
    · rintro (h | h | h)
      · exact .inr (.inr ⟨by omega, h.symm⟩)
      · exact .inr (.inl ⟨by omega, h.symm⟩)
      · exact .inl h
    · rintro (h | ⟨_, h⟩ | ⟨_, h⟩)
      · exact .inr (.inr h)
      · exact .inr (.inl h.symm)
      · exact .inl h.symm
  · rw [if_pos c1, if_neg c2]
    simp only [Option.map_some, Option.getD_some, mem_insF]
    constructor
    · rintro (h | h)
      · exact .inr (.inr ⟨by omega, h.symm⟩)
      · exact .inl h
    · rintro (h | ⟨q, h⟩ | ⟨_, h⟩)
      · exact .inr h
      · exact absurd q (by omega)
      · exact .inl h.symm
  · rw [if_neg c1, if_pos c2]
    simp only [Option.map_some, Option.getD_some, mem_insF]
    constructor
    · rintro (h | h)
      · exact .inr (.inl ⟨by omega, h.symm⟩)
      · exact .inl h
    · rintro (h | ⟨q, h⟩ | ⟨q, h⟩)
      · exact .inr h
      · exact .inl h.symm
      · exact absurd q (by omega)
  · rw [if_neg c1, if_neg c2]
    simp only [Option.getD_some]
    constructor
    · exact .inl
    · rintro (h | ⟨q, h⟩ | ⟨q, h⟩)
      · exact h
      · exact absurd q (by omega)
      · exact absurd q (by omega)
theorem mem_foldE {i : Nat} {k : Int} : ∀ (es : List (Int × Int)) (rows : List (List Int)), i < rows.length → (∀ e ∈ es, 0 ≤ e.1 ∧ 0 ≤ e.2) → (k ∈ (es.foldl addE rows).getD i [] ↔ k ∈ rows.getD i [] ∨ ∃ e ∈ es, (e.1 = i ∧ e.2 = k) ∨ (e.2 = i ∧ e.1 = k))
  | [], rows, _, _ => by simp
  | e :: es, rows, hl, h => by
    have he := h e List.mem_cons_self
    rw [List.foldl_cons, mem_foldE es (addE rows e) (by rw [rows_len]; exact hl) fun x hx => h x (List.mem_cons_of_mem _ hx), mem_addE hl he.1 he.2]
    constructor
    · rintro ((h | h) | ⟨x, hx, h⟩)
      · exact .inl h
      · exact .inr ⟨e, List.mem_cons_self, h⟩
      · exact .inr ⟨x, List.mem_cons_of_mem _ hx, h⟩
    · rintro (q | ⟨x, hx, q⟩)
      · exact .inl (.inl q)
      · rcases List.mem_cons.mp hx with e1 | hx
        · rw [e1] at q; exact .inl (.inr q)
        · exact .inr ⟨x, hx, q⟩
/-- the web of n people and these couples -/
def webBy (n : Nat) (es : List (Int × Int)) : List (List Int) := (byRows n es).map sortD
theorem webBy_len (n : Nat) (es : List (Int × Int)) : (webBy n es).length = n := by
  unfold webBy byRows
  rw [List.length_map]
  exact (byRows_facts es (List.replicate n []) List.length_replicate fun r hr => by rw [List.eq_of_mem_replicate hr]; exact List.nodup_nil).1
theorem mem_webBy {n : Nat} {es : List (Int × Int)} {i k : Int} (h0 : 0 ≤ i) (h1 : i < n) (h : ∀ e ∈ es, 0 ≤ e.1 ∧ 0 ≤ e.2) : k ∈ fr (webBy n es) i ↔ (i, k) ∈ es ∨ (k, i) ∈ es := by
  have e1 : fr (webBy n es) i = sortD ((byRows n es).getD i.toNat []) := by
    unfold fr webBy
    rw [List.getD_eq_getElem?_getD, List.getD_eq_getElem?_getD, List.getElem?_map]
    have : i.toNat < (byRows n es).length := by
      unfold byRows
      rw [(byRows_facts es (List.replicate n []) List.length_replicate fun r hr => by rw [List.eq_of_mem_replicate hr]; exact List.nodup_nil).1]
      omega
    rw [List.getElem?_eq_getElem this]
    rfl
  rw [e1, mem_sortD]
  unfold byRows
  rw [mem_foldE es _ (by rw [List.length_replicate]; omega) h]
  have e2 : (List.replicate n ([] : List Int)).getD i.toNat [] = [] := by
    rw [List.getD_eq_getElem?_getD, List.getElem?_replicate]
    split <;> rfl
  rw [e2]
  constructor
  · rintro (h | ⟨e, he, ⟨a, b⟩ | ⟨a, b⟩⟩)
    · cases h
    · have : e = (i, k) := Prod.ext (by omega) b
      exact .inl (this ▸ he)
    · have : e = (k, i) := Prod.ext b (by omega)
      exact .inr (this ▸ he)
  · rintro (h | h)
    · exact .inr ⟨_, h, .inl ⟨by simp; omega, rfl⟩⟩
    · exact .inr ⟨_, h, .inr ⟨by simp; omega, rfl⟩⟩
theorem web_webBy {n : Nat} {es : List (Int × Int)} (h1 : 1 ≤ n) (h2 : n ≤ 7) (h : ∀ e ∈ es, 0 ≤ e.1 ∧ e.1 < n ∧ 0 ≤ e.2 ∧ e.2 < n ∧ e.1 ≠ e.2) : Web (webBy n es) := by
  have h' : ∀ e ∈ es, 0 ≤ e.1 ∧ 0 ≤ e.2 := fun e he => ⟨(h e he).1, (h e he).2.2.1⟩
  have inn : ∀ i k : Int, 0 ≤ i → i < n → k ∈ fr (webBy n es) i → 0 ≤ k ∧ k < n ∧ k ≠ i := fun i k a b c => by
    rcases (mem_webBy a b h').mp c with c | c
    · have := h _ c; simp only at this; omega
    · have := h _ c; simp only at this; omega
  refine ⟨by rw [webBy_len]; exact h1, by rw [webBy_len]; exact h2, fun i a b => ?_, fun i k a b c => ?_, fun i k a b c => ?_⟩
  · unfold fr webBy
    rw [List.getD_eq_getElem?_getD, List.getElem?_map]
    cases (byRows n es)[i.toNat]? with
    | none => exact List.Pairwise.nil
    | some r => exact pw_sortD r
  · rw [webBy_len] at b ⊢
    exact inn i k a b c
  · rw [webBy_len] at b
    have := inn i k a b c
    exact (mem_webBy this.1 this.2.1 h').mpr ((mem_webBy a b h').mp c).symm
end L2.P


set_option Elab.async false
set_option linter.all false
set_option maxRecDepth 100000
set_option maxHeartbeats 4000000
namespace L2.P
open PySem PySem.Spec PyProof.Rows L2
inductive Pv where
  | f (p : D) | o (ps : List D) | d (t : Bool) (kvs : List (D × D))
def Pv.sl : Pv → Sl
  | .f p => .v p
  | .o ps => .ol ps
  | .d t kvs => .od t kvs
/-- values beside one another: frozen ones, and new lists that nobody else holds -/
inductive OwAll (K : Fg) (B : Bs) (F H : Hp) (σ : St) (ρ : Rho) : List V → List Pv → List Addr → Prop
  | nil : OwAll K B F H σ ρ [] [] []
  | f {v : V} {p : D} {vs : List V} {ps : List Pv} {as : List Addr} : Dp K F v p → OwAll K B F H σ ρ vs ps as → OwAll K B F H σ ρ (v :: vs) (.f p :: ps) as
  | o {a : Addr} {ob : HO} {q : Pv} {vs : List V} {ps : List Pv} {as : List Addr} : F a = none → B.Ha a = none → H a = some ob → Holds K F ob q.sl → (∀ (l : Nat) (s : Sl), ρ[l]? = some s → s.owns = true → σ[l]? = some (some (V.ref a)) → False) → a ∉ as →
      OwAll K B F H σ ρ vs ps as → OwAll K B F H σ ρ (.ref a :: vs) (q :: ps) (a :: as)
abbrev TP := Rho → (List Pv → Prop) → Prop
def tOA (K : Fg) (T : TP) : TA := fun σ H Q => ∃ B F ρ, Rs K B F H σ ρ ∧ T ρ (fun ps => ∀ F' H' vs as, Rs K B F' H' σ ρ → Same F F' → OwAll K B F' H' σ ρ vs ps as → Q vs H')
structure OA (X : Cx) (es : List Expr) (T : TP) : Prop where
  mono : ∀ ρ K K', (∀ p, K p → K' p) → T ρ K → T ρ K'
  pa : PA X es (tOA X.K T)
section
variable {X : Cx} {e : Expr} {es : List Expr} {pos : Pos}
def oNil : TP := fun _ K => K []
def oF (T : TW) (U : TP) : TP := fun ρ K => T ρ fun p => U ρ fun ps => K (.f p :: ps)
def oO (T : TL) (U : TP) : TP := fun ρ K => T ρ fun p => U ρ fun ps => K (.o p :: ps)
theorem oa_nil : OA X [] oNil := ⟨fun _ _ _ h q => h _ q, PA.imp pa_nil fun σ H Q ⟨B, F, ρ, R, q⟩ => q F H [] [] R (Same.refl _) .nil⟩
theorem oa_f {T : TW} {U : TP} (ha : EW X e T) (hr : OA X es U) (hs : starEach (e :: es) X.env = (false, eval e X.env) :: starEach es X.env := by rfl) : OA X (e :: es) (oF T U) :=
  ⟨fun ρ K K' h q => ha.mono _ _ _ (fun x => hr.mono _ _ _ fun xs => h _) q, PA.imp (pa_cons ha.pe hr.pa hs) fun σ H Q ⟨B, F, ρ, R, q⟩ => ⟨B, F, ρ, R, ha.mono _ _ _ (fun x k F1 H1 v R1 e1 d1 =>
    ⟨B, F1, ρ, R1, hr.mono _ _ _ (fun xs k2 F2 H2 vs as R2 e2 d2 => k2 F2 H2 (v :: vs) as R2 (e1.trans e2) (.f (d1.same e2) d2)) k⟩) q⟩⟩
theorem OwAll.unpin {K : Fg} {B : Bs} {F H : Hp} {σ : St} {ρ : Rho} {a : Addr} {o : HO} (hH : B.Ha a = none) : ∀ {vs : List V} {ps : List Pv} {as : List Addr}, OwAll K (B.pin a o) F H σ ρ vs ps as → OwAll K B F H σ ρ vs ps as ∧ a ∉ as
  | _, _, _, .nil => ⟨.nil, by simp⟩
  | _, _, _, .f d r => ⟨.f d (OwAll.unpin hH r).1, (OwAll.unpin hH r).2⟩
  | _, _, _, .o (a := b) h1 h2 h3 h4 h5 h6 r => by
    obtain ⟨r1, r2⟩ := OwAll.unpin hH r
    have z : (upd B.Ha a o) b = none := h2
    have ne : b ≠ a := fun e => by subst e; rw [upd_same] at z; cases z
    rw [upd_ne ne] at z
    refine ⟨.o h1 z h3 h4 h5 h6 r1, fun m => ?_⟩
    rcases List.mem_cons.mp m with e | m
    · exact ne e.symm
    · exact r2 m
theorem oa_o {T : TL} {U : TP} (ha : NW X e T) (hr : OA X es U) (hs : starEach (e :: es) X.env = (false, eval e X.env) :: starEach es X.env := by rfl) : OA X (e :: es) (oO T U) :=
  ⟨fun ρ K K' h q => ha.mono _ _ _ (fun x => hr.mono _ _ _ fun xs => h _) q, PA.imp (pa_cons ha.pe hr.pa hs) fun σ H Q ⟨B, F, ρ, R, q⟩ => ⟨B, F, ρ, R, ha.mono _ _ _ (fun x k F1 H1 a xs R1 e1 n d1 => by
    obtain ⟨p1, p2, p3⟩ := R1.fresh n
    have hF : B.Fa a = none := R1.ext.free p2
    refine ⟨B.pin a (.lst xs), F1, ρ, R1.pin n _, hr.mono _ _ _ (fun ys k2 F2 H2 vs as R2 e2 d2 => ?_) k⟩
    obtain ⟨q1, q2⟩ := R2.pinned p3 hF
    obtain ⟨o1, o2⟩ := d2.unpin p1
    refine k2 F2 H2 (.ref a :: vs) (a :: as) (R2.unpin p3 hF p1) (e1.trans e2) (.o q2 p1 q1 ⟨xs, rfl, d1.same e2⟩ (fun l s hs ho hσ => ?_) o2 o1)
    have at_l := R1.at_ l s hs
    rw [hσ] at at_l
    cases at_l with
    | no => cases ho
    | v _ => cases ho
    | ol _ _ h _ => rw [n] at h; cases h
    | row _ _ h =>
      obtain ⟨u, hu⟩ := h.there
      rw [n] at hu; cases hu
    | od _ _ h =>
      obtain ⟨u, hu, _⟩ := h.there
      rw [n] at hu; cases hu) q⟩⟩
/-- a new dict -/
def tND (K : Fg) (t : Bool) (T : Rho → (List (D × D) → Prop) → Prop) : TE := fun σ H Q => ∃ B F ρ, Rs K B F H σ ρ ∧ T ρ (fun kvs => ∀ F' H' a o, Rs K B F' H' σ ρ → Same F F' → H' a = none → Holds K F' o (.od t kvs) → Q (.ref a) (upd H' a o))
structure ND (X : Cx) (e : Expr) (t : Bool) (T : Rho → (List (D × D) → Prop) → Prop) : Prop where
  mono : ∀ ρ K K', (∀ p, K p → K' p) → T ρ K → T ρ K'
  pe : PE X e (tND X.K t T)
abbrev NDF (X : Cx) (e : Expr) (t : Bool) (f : Rho → Option (List (D × D))) : Prop := ND X e t (fW f)
def oD (t : Bool) (T : Rho → (List (D × D) → Prop) → Prop) (U : TP) : TP := fun ρ K => T ρ fun p => U ρ fun ps => K (.d t p :: ps)
theorem oa_d {t : Bool} {T : Rho → (List (D × D) → Prop) → Prop} {U : TP} (ha : ND X e t T) (hr : OA X es U) (hs : starEach (e :: es) X.env = (false, eval e X.env) :: starEach es X.env := by rfl) : OA X (e :: es) (oD t T U) :=
  ⟨fun ρ K K' h q => ha.mono _ _ _ (fun x => hr.mono _ _ _ fun xs => h _) q, PA.imp (pa_cons ha.pe hr.pa hs) fun σ H Q ⟨B, F, ρ, R, q⟩ => ⟨B, F, ρ, R, ha.mono _ _ _ (fun x k F1 H1 a o R1 e1 n hh => by
    obtain ⟨p1, p2, p3⟩ := R1.fresh n
    have hF : B.Fa a = none := R1.ext.free p2
    refine ⟨B.pin a o, F1, ρ, R1.pin n _, hr.mono _ _ _ (fun ys k2 F2 H2 vs as R2 e2 d2 => ?_) k⟩
    obtain ⟨q1, q2⟩ := R2.pinned p3 hF hh.nt hh.nte
    obtain ⟨o1, o2⟩ := d2.unpin p1
    refine k2 F2 H2 (.ref a :: vs) (a :: as) (R2.unpin p3 hF p1 hh.nte) (e1.trans e2) (.o q2 p1 q1 (hh.same e2) (fun l s hs ho hσ => ?_) o2 o1)
    have at_l := R1.at_ l s hs
    rw [hσ] at at_l
    cases at_l with
    | no => cases ho
    | v _ => cases ho
    | ol _ _ h _ => rw [n] at h; cases h
    | row _ _ h =>
      obtain ⟨u, hu⟩ := h.there
      rw [n] at hu; cases hu
    | od _ _ h =>
      obtain ⟨u, hu, _⟩ := h.there
      rw [n] at hu; cases hu) q⟩⟩
theorem Rs.putA {K : Fg} {B : Bs} {F H : Hp} {σ : St} {ρ : Rho} {i : Nat} {a : Addr} {ob : HO} {s0 : Sl} (R : Rs K B F H σ ρ) (f : F a = none) (h0 : B.Ha a = none) (h1 : H a = some ob) (d : Holds K F ob s0) (far : ∀ (l : Nat) (s : Sl), ρ[l]? = some s → s.owns = true → σ[l]? = some (some (V.ref a)) → False) :
    Rs K B F H (σ.set i (some (.ref a))) (ρ.set i s0) := by
  refine ⟨R.sub, R.ext, R.new, R.old, R.hrow, R.hr2, by rw [List.length_set, List.length_set]; exact R.len, fun j s hs => ?_, fun j k c s t hjk h1' h2 o1 o2 e1 e2 => ?_, R.tb, R.tbh⟩
  · rcases set_some hs with ⟨rfl, hl, rfl⟩ | ⟨ne, hs⟩
    · rw [List.getElem?_set_self (by rw [R.len]; exact hl)]
      exact d.ok f h0 h1
    · rw [List.getElem?_set_ne ne]; exact R.at_ j s hs
  · rcases set_some h1' with ⟨rfl, hl, _⟩ | ⟨ne, h1n⟩
    · rw [List.getElem?_set_self (by rw [R.len]; exact hl)] at e1
      cases e1
      rcases set_some h2 with ⟨rfl, _⟩ | ⟨ne, h2n⟩
      · exact hjk rfl
      · rw [List.getElem?_set_ne ne] at e2
        exact far k t h2n o2 e2
    · rw [List.getElem?_set_ne ne] at e1
      rcases set_some h2 with ⟨rfl, hl, _⟩ | ⟨ne2, h2n⟩
      · rw [List.getElem?_set_self (by rw [R.len]; exact hl)] at e2
        cases e2
        exact far j s h1n o1 e1
      · rw [List.getElem?_set_ne ne2] at e2
        exact R.apart j k c s t hjk h1n h2n o1 o2 e1 e2
def putsS (σ : St) : List Nat → List V → St
  | i :: is, v :: vs => putsS (σ.set i (some v)) is vs
  | _, _ => σ
def putsR (ρ : Rho) : List Nat → List Pv → Rho
  | i :: is, p :: ps => putsR (ρ.set i p.sl) is ps
  | _, _ => ρ
theorem OwAll.put {K : Fg} {B : Bs} {F H : Hp} {σ : St} {ρ : Rho} {i : Nat} {v : V} {s : Sl} {vs : List V} {ps : List Pv} {as : List Addr} (g : ∀ a, v = .ref a → s.owns = true → a ∉ as) (d : OwAll K B F H σ ρ vs ps as) (hl : ρ.length = σ.length) : OwAll K B F H (σ.set i (some v)) (ρ.set i s) vs ps as := by
  induction d with
  | nil => exact .nil
  | f d _ ih => exact .f d (ih g)
  | @o b ob q vs ps as h1 h2 h3 h4 h5 h6 r ih =>
    refine .o h1 h2 h3 h4 (fun l t ht ho e => ?_) h6 (ih fun a e1 e2 m => g a e1 e2 (List.mem_cons_of_mem _ m))
    rcases set_some ht with ⟨rfl, hl2, rfl⟩ | ⟨ne, ht⟩
    · rw [List.getElem?_set_self (by rw [← hl]; exact hl2)] at e
      cases e
      exact g b rfl ho List.mem_cons_self
    · rw [List.getElem?_set_ne ne] at e
      exact h5 l t ht ho e
theorem Rs.puts {K : Fg} {B : Bs} {F H : Hp} : ∀ (is : List Nat) {σ : St} {ρ : Rho} {vs : List V} {ps : List Pv} {as : List Addr}, Rs K B F H σ ρ → OwAll K B F H σ ρ vs ps as → Rs K B F H (putsS σ is vs) (putsR ρ is ps)
  | [], σ, ρ, vs, ps, as, R, o => by cases vs <;> cases ps <;> exact R
  | i :: is, σ, ρ, _, _, _, R, .nil => R
  | i :: is, σ, ρ, _, _, _, R, .f (v := v) (p := p) d r => by
    have R' := R.put (i := i) (x := v) (s := .v p) (.v d) rfl
    exact Rs.puts is R' (r.put (fun _ _ z => by cases z) R.len.symm)
  | i :: is, σ, ρ, _, _, _, R, .o (a := b) (q := qv) h1 h2 h3 h4 h5 h6 r => by
    have R' := R.putA (i := i) h1 h2 h3 h4 h5
    exact Rs.puts is R' (r.put (fun a e _ m => by cases e; exact h6 m) R.len.symm)
theorem OwAll.len {K : Fg} {B : Bs} {F H : Hp} {σ : St} {ρ : Rho} : ∀ {vs : List V} {ps : List Pv} {as : List Addr}, OwAll K B F H σ ρ vs ps as → vs.length = ps.length
  | _, _, _, .nil => rfl
  | _, _, _, .f _ r => congrArg (· + 1) (OwAll.len r)
  | _, _, _, .o _ _ _ _ _ _ r => congrArg (· + 1) (OwAll.len r)
theorem len2 {α : Type} {l : List α} (h : l.length = 2) : ∃ a b, l = [a, b] := by
  match l, h with
  | [a, b], _ => exact ⟨a, b, rfl⟩
def wPuts (is : List Nat) (n : Nat) (T : TP) : TSt := fun ρ K => T ρ fun ps => ps.length = n ∧ K (.nx (putsR ρ is ps))
/-- both at once -/
theorem sw_own2 {i j : Nat} {x y : Str} {a b : Expr} {T : TP} {px py pt : Pos} {kt k2 pt2} (hc : X.calm = true) (hN : X.N.Nodup) (hi : X.N[i]? = some x) (hj : X.N[j]? = some y) (hij : i ≠ j)
    (hx : X.env.scope.names.lookup x = some .local) (hy : X.env.scope.names.lookup y = some .local) (h : OA X [a, b] T)
    (hw : swappedStores [.Tuple [.Name x px, .Name y py] kt pt] (.Tuple [a, b] k2 pt2) X.env = pure (some [x, y]))
    (hs : swapsWithSole [.Tuple [.Name x px, .Name y py] kt pt] (.Tuple [a, b] k2 pt2) pos.line X.env = pure false := by rfl) :
    SW X (.Assign [.Tuple [.Name x px, .Name y py] kt pt] (.Tuple [a, b] k2 pt2) pos) (wPuts [i, j] 2 T) :=
  ⟨fun ρ K K' k q => h.mono _ _ _ (fun p z => ⟨z.1, k _ z.2⟩) q, (ps_par hc hN hi hj hij hx hy h.pa hw hs).imp fun En σ H ⟨B, F, ρ, R, q⟩ => ⟨B, F, ρ, R, h.mono _ _ _ (fun p k F' H' vs as R' s d => by
    obtain ⟨u, v, rfl⟩ := len2 (d.len.trans k.1)
    exact ⟨u, v, rfl, k.2 F' H' _ (R'.puts [i, j] d) s⟩) q⟩⟩
/-- through a tuple: any number of names -/
inductive Nms (X : Cx) : List Expr → List Nat → Prop
  | nil : Nms X [] []
  | cons {i : Nat} {x : Str} {p : Pos} {es : List Expr} {is : List Nat} (hi : X.N[i]? = some x) (hx : Loc X.env.scope x) (hf : X.fn x = true ∨ X.env.scope.names.lookup x = some .local) : Nms X es is → Nms X (.Name x p :: es) (i :: is)
def gNms : List Nat → TGs
  | [] => gNil
  | i :: is => gCons (gName i) (gNms is)
theorem assignEach_nm {X : Cx} : ∀ {es : List Expr} {is : List Nat}, Nms X es is → (assignEach es X.env).length = es.length ∧ (assignEach es X.env).findIdx? (·.1) = none
  | _, _, .nil => ⟨rfl, rfl⟩
  | _, _, .cons (x := x) (p := p) (es := es) _ _ _ r => by
    obtain ⟨h1, h2⟩ := assignEach_nm r
    refine ⟨?_, ?_⟩
    · show (assignEach es X.env).length + 1 = _
      rw [h1]; rfl
    · show List.findIdx? _ ((false, assign (.Name x p) X.env) :: assignEach es X.env) = none
      rw [List.findIdx?_cons]
      show (if false = true then some 0 else Option.map _ _) = none
      rw [if_neg (by simp), h2]; rfl
theorem pgs_nm {X : Cx} (hN : X.N.Nodup) : ∀ {es : List Expr} {is : List Nat}, Nms X es is → PGs X es (gNms is)
  | _, _, .nil => pgs_nil
  | _, _, .cons hi hx hf r => pgs_cons (pg_name hN hi hx hf) (pgs_nm hN r)
theorem gNms_puts : ∀ (is : List Nat) (vs : List V) (σ : St) (H : Hp) (Q : St → Hp → Prop), is.length = vs.length → Q (putsS σ is vs) H → gNms is vs σ H Q
  | [], [], σ, H, Q, _, q => ⟨rfl, q⟩
  | i :: is, v :: vs, σ, H, Q, hl, q => ⟨v, vs, rfl, gNms_puts is vs (σ.set i (some v)) H Q (by simpa using hl) q⟩
theorem Rs.layAny {K : Fg} {B : Bs} {F H : Hp} {σ : St} {ρ : Rho} {p : Addr} {o : HO} {vs : List V} {ps : List Pv} {as : List Addr} (R : Rs K B F H σ ρ) (h : H p = none) (d : OwAll K B F H σ ρ vs ps as) : Rs K B F (upd H p o) σ ρ ∧ OwAll K B F (upd H p o) σ ρ vs ps as := by
  refine ⟨R.lay h, ?_⟩
  induction d with
  | nil => exact .nil
  | f d _ ih => exact .f d ih
  | o h1 h2 h3 h4 h5 h6 _ ih => exact .o h1 h2 (by rw [upd_ne (ne_of_none h3 h)]; exact h3) h4 h5 h6 ih
theorem sw_ownT {es ts : List Expr} {is : List Nat} {n : Nat} {T : TP} {pt : Pos} {kt k2 pt2} (hc : X.calm = true) (hN : X.N.Nodup) (hn : Nms X ts is) (h : OA X es T) (hl : is.length = n) (hl2 : ts.length = n) (hn2 : n ≤ 1000)
    (hs : swapsWithSole [.Tuple ts kt pt] (.Tuple es k2 pt2) pos.line X.env = pure false := by rfl) (hw : swappedStores [.Tuple ts kt pt] (.Tuple es k2 pt2) X.env = pure none := by rfl) (h1 : (assignEach [.Tuple ts kt pt] X.env).map (·.2) = [assign (.Tuple ts kt pt) X.env] := by rfl) :
    SW X (.Assign [.Tuple ts kt pt] (.Tuple es k2 pt2) pos) (wPuts is n T) :=
  ⟨fun ρ K K' k q => h.mono _ _ _ (fun p z => ⟨z.1, k _ z.2⟩) q, (ps_asg (pe_tup h.pa) (pg_tup (n := n) hc (pgs_nm hN hn) ((assignEach_nm hn).1.trans hl2) (assignEach_nm hn).2) hs hw h1).imp fun En σ H ⟨B, F, ρ, R, q⟩ => ⟨B, F, ρ, R, h.mono _ _ _ (fun p k F' H' vs as R' s d => by
    have hv := d.len.trans k.1
    refine ⟨by rw [hv, sizeLine_eq]; omega, fun l hlf => ?_⟩
    obtain ⟨R2, d2⟩ := R'.layAny (o := .tup vs) hlf d
    refine ⟨l, vs, rfl, .inl (.inl upd_same), hv, gNms_puts is vs σ _ _ (hl.trans hv.symm) ?_⟩
    exact k.2 F' _ _ (R2.puts is d2) s) q⟩⟩
end
end L2.P
namespace L2.P
open PySem PySem.Spec PyProof.Rows L2
def pNil : Rho → Option (List Pv) := fun _ => some []
def pF (f : Rho → Option D) (g : Rho → Option (List Pv)) : Rho → Option (List Pv) := fun ρ => (f ρ).bind fun x => (g ρ).map fun xs => .f x :: xs
def pO (f : Rho → Option (List D)) (g : Rho → Option (List Pv)) : Rho → Option (List Pv) := fun ρ => (f ρ).bind fun x => (g ρ).map fun xs => .o x :: xs
section
variable {X : Cx} {e : Expr} {es : List Expr} {pos : Pos} {st : Stmt}
theorem OA.imp {T T' : TP} (h : OA X es T) (m : ∀ ρ K K', (∀ p, K p → K' p) → T' ρ K → T' ρ K') (k : ∀ ρ K, T' ρ K → T ρ K) : OA X es T' := ⟨m, PA.imp h.pa fun _ _ _ ⟨B, F, ρ, R, q⟩ => ⟨B, F, ρ, R, k _ _ q⟩⟩
theorem of_nil : OA X [] (fW pNil) := oa_nil.imp fW_mono fun ρ K ⟨p, e, k⟩ => by cases e; exact k
theorem of_f {f : Rho → Option D} {g : Rho → Option (List Pv)} (ha : EF X e f) (hr : OA X es (fW g)) (hs : starEach (e :: es) X.env = (false, eval e X.env) :: starEach es X.env := by rfl) : OA X (e :: es) (fW (pF f g)) := (oa_f ha hr hs).imp fW_mono fun ρ K ⟨z, e, k⟩ => by
  obtain ⟨x, e1, e⟩ := Option.bind_eq_some_iff.mp e
  obtain ⟨xs, e2, rfl⟩ := Option.map_eq_some_iff.mp e
  exact ⟨x, e1, xs, e2, k⟩
theorem of_o {f : Rho → Option (List D)} {g : Rho → Option (List Pv)} (ha : NF X e f) (hr : OA X es (fW g)) (hs : starEach (e :: es) X.env = (false, eval e X.env) :: starEach es X.env := by rfl) : OA X (e :: es) (fW (pO f g)) := (oa_o ha hr hs).imp fW_mono fun ρ K ⟨z, e, k⟩ => by
  obtain ⟨x, e1, e⟩ := Option.bind_eq_some_iff.mp e
  obtain ⟨xs, e2, rfl⟩ := Option.map_eq_some_iff.mp e
  exact ⟨x, e1, xs, e2, k⟩
def sPuts (is : List Nat) (n : Nat) (f : Rho → Option (List Pv)) : Rho → Option Fl := fun ρ => (f ρ).bind fun ps => if ps.length = n then some (.nx (putsR ρ is ps)) else none
theorem SW.puts {is : List Nat} {n : Nat} {f : Rho → Option (List Pv)} (h : SW X st (wPuts is n (fW f))) : SF X st (sPuts is n f) := h.imp fW_mono fun ρ K ⟨p, e, k⟩ => by
  obtain ⟨z, e1, e2⟩ := Option.bind_eq_some_iff.mp e
  split at e2
  · rename_i hz; cases e2; exact ⟨z, e1, hz, k⟩
  · cases e2
end
@[simp] theorem e_pNil (ρ : Rho) : pNil ρ = some [] := rfl
@[simp] theorem e_pF (f : Rho → Option D) (g : Rho → Option (List Pv)) (ρ : Rho) : pF f g ρ = (f ρ).bind fun x => (g ρ).map fun xs => .f x :: xs := rfl
@[simp] theorem e_pO (f : Rho → Option (List D)) (g : Rho → Option (List Pv)) (ρ : Rho) : pO f g ρ = (f ρ).bind fun x => (g ρ).map fun xs => .o x :: xs := rfl
theorem s_puts {is : List Nat} {n : Nat} {f : Rho → Option (List Pv)} {ρ : Rho} {K : Fl → Prop} (ps : List Pv) (h : f ρ = some ps) (hn : ps.length = n) (k : K (.nx (putsR ρ is ps))) : fW (sPuts is n f) ρ K := ⟨_, by unfold sPuts; show (f ρ).bind _ = _; rw [h, Option.bind_some, if_pos hn], k⟩
theorem q_puts {is : List Nat} {n : Nat} {f : Rho → Option (List Pv)} {g : Rho → Option Fl} {ρ : Rho} {K : Fl → Prop} (ps : List Pv) (h : f ρ = some ps) (hn : ps.length = n) (k : fW g (putsR ρ is ps) K) : fW (sSeq (sPuts is n f) g) ρ K := s_seq (s_puts ps h hn k)
end L2.P


set_option Elab.async false
set_option linter.all false
set_option maxRecDepth 100000
set_option maxHeartbeats 4000000
namespace L2.P
open PySem PySem.Spec PyProof.Rows L2
def notN : D → Bool
  | .none => false
  | _ => true
def okM (ps : List D) : Bool := (ps.all fun x => notN x && ps.all fun y => PySem.W.alike x y) && okDs ps
theorem okM_alike {ps : List D} (h : okM ps = true) : PySem.W.AlikeAll ps := by
  unfold okM at h
  rw [Bool.and_eq_true, List.all_eq_true] at h
  refine ⟨fun x hx y hy => ?_, fun x hx e => ?_⟩
  · have := h.1 x hx
    rw [Bool.and_eq_true, List.all_eq_true] at this
    exact this.2 y hy
  · have := h.1 x hx
    subst e
    rw [Bool.and_eq_true] at this
    exact absurd this.1 (by simp [notN])
theorem okM_oks {ps : List D} (h : okM ps = true) : okDs ps = true := by
  unfold okM at h
  rw [Bool.and_eq_true] at h
  exact h.2
/-- one of the items is what g makes of them -/
def rPick (K : Fg) (g : D → List D → D) : List V → Hp → VK → Prop := fun vs H Q => ∃ (a : Addr) (ys : List V) (x : D) (xs : List D), vs = [.ref a] ∧ SqL K H a ys ∧ DpAll K H ys (x :: xs) ∧ okM (x :: xs) = true ∧
  ∀ (i : Nat) (u : V), ys[i]? = some u → (x :: xs)[i]? = some (g x xs) → Q u H
theorem read_one {h : Heap} {v : Value} {d e : D} {as bs : List Addr} (hd : d.plain = true) (he : e.plain = true) (r1 : Reads h v d as) (r2 : Reads h v e bs) : d = e := by
  rw [← SeqAt.readOf_plain hd r1, SeqAt.readOf_plain he r2]
theorem plain_mem : ∀ {ps : List D} {p : D}, PyData.plainAll ps = true → p ∈ ps → p.plain = true
  | x :: xs, p, h, m => by
    rw [PyData.plainAll, Bool.and_eq_true] at h
    rcases List.mem_cons.mp m with rfl | m
    · exact h.1
    · exact plain_mem h.2 m
theorem maxD_mem (x : D) (xs : List D) : PySem.W.maxD x xs ∈ x :: xs := by
  unfold PySem.W.maxD
  induction xs generalizing x with
  | nil => simp
  | cons y ys ih =>
    rw [List.foldl_cons]
    split
    · have := ih y
      rcases List.mem_cons.mp this with e | m
      · rw [e]; simp
      · exact List.mem_cons_of_mem _ (List.mem_cons_of_mem _ m)
    · have := ih x
      rcases List.mem_cons.mp this with e | m
      · rw [e]; simp
      · exact List.mem_cons_of_mem _ (List.mem_cons_of_mem _ m)
section
variable {X : Cx}
theorem vals_at {vs : List V} {us : List Value} (r : Vals vs us) : ∀ {i : Nat} {u : Value}, us[i]? = some u → ∃ v, vs[i]? = some v ∧ RelV v u := by
  induction r with
  | nil => intro i u h; simp at h
  | cons a _ ih =>
    intro i u h
    cases i with
    | zero => simp at h; subst h; exact ⟨_, rfl, a⟩
    | succ i => exact ih (by simpa using h)
theorem pick_fin {H : Hp} {pins : List (Addr × Obj)} {σ : St} {s : Shared} {ys : List V} {its : List Value} {ps : List D} {m : D} {as : List Addr} {Q : VK} (I : L2.Inv X pins σ H s) (rv : Vals ys its) (hpl : PyData.plainAll ps = true) (hr : ReadsAll s.heap its ps as) (hm : m ∈ ps)
    (q : ∀ (i : Nat) (u : V), ys[i]? = some u → ps[i]? = some m → Q u H) (i : Nat) (v : Value) (h' : Heap) (tk : Nat) (bs : List Addr) (hv : its.toArray[i]? = some v) (r : Reads h' v m bs) (hk : ∀ b o, s.heap.get? b = some o → h'.get? b = some o) : EP X pins σ Q v { s with heap := h', toks := tk } := by
  have hv' : its[i]? = some v := by simpa using hv
  obtain ⟨u, hu, ru⟩ := vals_at rv hv'
  obtain ⟨cs, r2, h3, h4, _⟩ := PySem.W.readsAll_at hr i v hv'
  have e1 : ps.getD i .none = m := read_one (plain_mem hpl h4) (plain_mem hpl hm) (Reads.keeps hk r2) r
  have e2 : ps[i]? = some m := by
    rw [List.getD_eq_getElem?_getD, List.getElem?_eq_getElem h3] at e1
    rw [List.getElem?_eq_getElem h3]
    exact congrArg some e1
  exact ⟨u, H, I.kept hk, ru, q i u hu e2⟩
theorem cr_maxP (hc : X.calm = true) (hu : Rm X) : CallR X (.builtin "max") (rPick X.K PySem.W.maxD) := by
  intro pins s σ H vs us Q I r h
  obtain ⟨a, ys, x, xs, rfl, hs, hd, ok, q⟩ := h
  rw [Vals.ref1 r]
  obtain ⟨hpl, hdep⟩ := okDs_iff.mp (okM_oks ok)
  obtain ⟨its, rv, hl, _⟩ := I.list hs
  obtain ⟨as, hr⟩ := Dp.readsAll I _ ys its hd hpl rv
  exact PySem.W.max_list_data (I.ok.hd hc) hl.isList hr (okM_alike ok) (by unfold Rm at hu; omega) fun i v h' tk bs hv r hk => pick_fin I rv hpl hr (maxD_mem x xs) q i v h' tk bs hv r hk
def gPick (g : D → List D → D) : GA
  | [.list (x :: xs)] => if okM (x :: xs) = true then some (g x xs) else none
  | _ => none
def gMax : GA := gPick PySem.W.maxD
theorem pk_lst {K : Fg} {B : Bs} {F H : Hp} {σ : St} {ρ : Rho} {v : V} {ps : List D} (R : Rs K B F H σ ρ) (d : Pk K F σ ρ v (.list ps)) : ∃ a ys, v = .ref a ∧ SqL K H a ys ∧ DpAll K F ys ps := by
  rcases d with d | ⟨i, qs, h1, h2, e⟩
  · obtain ⟨a, xs, rfl, s, r⟩ := Dp.inv_lst d
    exact ⟨a, xs, rfl, sqL_same R.sub s, r⟩
  · cases e
    obtain ⟨a, xs, e, f, h0, h3, r⟩ := R.own h1
    rw [h2] at e; cases e
    exact ⟨a, xs, rfl, .inl (.inl h3), r⟩
theorem bt_max : bootBuiltins "max" = some (.builtin "max") := by decide +kernel
variable {a : Expr} {p pos : Pos}
end
end L2.P


set_option Elab.async false
set_option linter.all false
set_option maxRecDepth 100000
set_option maxHeartbeats 4000000
namespace L2.P
open PySem PySem.Spec PyProof.Rows L2
/-- who of st has a friend in st that q tells -/
def has (w : List (List Int)) (st : List Int) (q : Int → Int → Bool) (x : Int) : Bool := (fr w x).any fun k => q x k && decide (k ∈ st)
def both (st : List Int) (e : Int × Int) : Bool := decide (e.1 ∈ st) && decide (e.2 ∈ st)
/-- plain data of a depth -/
inductive Al : Nat → D → Prop
  | int {n : Nat} (a : Int) : Al (n + 1) (.int a)
  | bool {n : Nat} (a : Bool) : Al (n + 1) (.bool a)
  | none {n : Nat} : Al (n + 1) .none
  | tup {n : Nat} {xs : List D} : xs.length ≤ 1000000 → (∀ x ∈ xs, Al n x) → Al (n + 1) (.tuple xs)
  | lst {n : Nat} {xs : List D} : xs.length ≤ 1000000 → (∀ x ∈ xs, Al n x) → Al (n + 1) (.list xs)
theorem al_R {n : Nat} (r : List Int) (h : r.length ≤ 1000000) : Al (n + 2) (tR r) := .tup (by rw [List.length_map]; exact h) fun x hx => by
  obtain ⟨a, _, rfl⟩ := List.mem_map.mp hx
  exact .int a
end L2.P


set_option Elab.async false
set_option linter.all false
set_option maxRecDepth 100000
set_option maxHeartbeats 4000000
namespace L2.P
open PySem PySem.Spec PyProof.Rows L2
section
variable {f g : Rho → Option Fl} {u : Rho → Option (List D)} {tg : Tg} {ρ : Rho} {K : Fl → Prop}
theorem forF_inv {α S : Type} {enc : α → D} (st : S → Rho) (xs : List α) (J : Nat → S → Prop) (K : Fl → Prop) (k : ∀ s, J xs.length s → K (.nx (st s))) : ∀ (ys : List α) (i : Nat) (s : S), xs.drop i = ys → i ≤ xs.length → J i s →
    (∀ (i : Nat) (s : S) (x : α), xs[i]? = some x → J i s → ∃ ρ', tg (enc x) (st s) = some ρ' ∧ fW f ρ' fun fl => (∃ s', fl = .nx (st s') ∧ J (i + 1) s') ∨ ∃ v, fl = .rt v ∧ K (.rt v)) → ∃ fl, forF tg f (ys.map enc) (st s) = some fl ∧ K fl
  | [], i, s, e, hi, hJ, _ => by
    have : i = xs.length := by
      have := congrArg List.length e
      rw [List.length_drop] at this
      simp at this; omega
    subst this
    exact ⟨_, rfl, k s hJ⟩
  | y :: ys, i, s, e, hi, hJ, h => by
    have hlt : i < xs.length := by
      have := congrArg List.length e
      rw [List.length_drop, List.length_cons] at this
      omega
    have hx : xs[i]? = some y := by
      rw [List.drop_eq_getElem_cons hlt] at e
      rw [List.getElem?_eq_getElem hlt]
      exact congrArg some (List.cons.inj e).1
    have hd : xs.drop (i + 1) = ys := by
      rw [List.drop_eq_getElem_cons hlt] at e
      exact (List.cons.inj e).2
    obtain ⟨ρ', h1, fl, h2, h3⟩ := h i s y hx hJ
    rw [List.map_cons, forF, h1, Option.bind_some, h2]
    rcases h3 with ⟨s', rfl, h4⟩ | ⟨v, rfl, h4⟩
    · exact forF_inv st xs J K k ys (i + 1) s' hd hlt h4 h
    · exact ⟨_, rfl, h4⟩
/-- a loop that keeps J, and may return -/
theorem s_invr {α S : Type} (st : S → Rho) (xs : List α) (enc : α → D) (J : Nat → S → Prop) (s0 : S) (hu : u ρ = some (xs.map enc)) (hρ : ρ = st s0) (h0 : J 0 s0)
    (h : ∀ (i : Nat) (s : S) (x : α), xs[i]? = some x → J i s → ∃ ρ', tg (enc x) (st s) = some ρ' ∧ fW f ρ' fun fl => (∃ s', fl = .nx (st s') ∧ J (i + 1) s') ∨ ∃ v, fl = .rt v ∧ K (.rt v)) (k : ∀ s, J xs.length s → K (.nx (st s))) : fW (sFor tg u f) ρ K := by
  subst hρ
  obtain ⟨fl, e, q⟩ := forF_inv (tg := tg) (f := f) (enc := enc) st xs J K k xs 0 s0 rfl (Nat.zero_le _) h0 h
  exact ⟨fl, by rw [e_sFor, hu, Option.bind_some, e], q⟩
theorem s_inv {α S : Type} (st : S → Rho) (xs : List α) (enc : α → D) (J : Nat → S → Prop) (s0 : S) (hu : u ρ = some (xs.map enc)) (hρ : ρ = st s0) (h0 : J 0 s0)
    (h : ∀ (i : Nat) (s : S) (x : α), xs[i]? = some x → J i s → ∃ ρ', tg (enc x) (st s) = some ρ' ∧ fW f ρ' fun fl => ∃ s', fl = .nx (st s') ∧ J (i + 1) s') (k : ∀ s, J xs.length s → K (.nx (st s))) : fW (sFor tg u f) ρ K :=
  s_invr st xs enc J s0 hu hρ h0 (fun i s x hx hJ => by
    obtain ⟨ρ', h1, fl, h2, h3⟩ := h i s x hx hJ
    exact ⟨ρ', h1, fl, h2, .inl h3⟩) k
theorem q_inv {α S : Type} (st : S → Rho) (xs : List α) (enc : α → D) (J : Nat → S → Prop) (s0 : S) (hu : u ρ = some (xs.map enc)) (hρ : ρ = st s0) (h0 : J 0 s0)
    (h : ∀ (i : Nat) (s : S) (x : α), xs[i]? = some x → J i s → ∃ ρ', tg (enc x) (st s) = some ρ' ∧ fW f ρ' fun fl => ∃ s', fl = .nx (st s') ∧ J (i + 1) s') (k : ∀ s, J xs.length s → fW g (st s) K) : fW (sSeq (sFor tg u f) g) ρ K := s_seq (s_inv st xs enc J s0 hu hρ h0 h k)
end
/-- a comprehension whose items are drawn -/
theorem lcV_all {α β : Type} {enc : α → D} {en : β → D} {is : List Nat} {g : Tg} {T : TB} {El : TW} {ρ : Rho} {K : List D → Prop} (P : β → Prop) : ∀ (xs : List α) (acc : List D),
    (∀ x ∈ xs, ∃ ρ', g (enc x) (wipeR ρ is) = some ρ' ∧ (∀ K' : Bool → Prop, K' true → T ρ' K') ∧ ∀ K' : D → Prop, (∀ y, P y → K' (en y)) → El ρ' K') → (∀ ys : List β, ys.length = xs.length → (∀ y ∈ ys, P y) → K (acc ++ ys.map en)) → lcV is g T El ρ (xs.map enc) acc K
  | [], acc, _, k => by
    have := k [] rfl (fun y h => by cases h)
    rw [List.map_nil, List.append_nil] at this
    exact this
  | x :: xs, acc, h, k => by
    obtain ⟨ρ', h1, h2, h3⟩ := h x List.mem_cons_self
    refine ⟨ρ', h1, h2 _ ?_⟩
    rw [if_pos rfl]
    refine h3 _ fun y hy => lcV_all P xs _ (fun z hz => h z (List.mem_cons_of_mem _ hz)) fun ys hl hys => ?_
    have := k (y :: ys) (by rw [List.length_cons, List.length_cons, hl]) (fun z hz => by
      rcases List.mem_cons.mp hz with rfl | hz
      · exact hy
      · exact hys z hz)
    rw [List.append_assoc]
    exact this
@[simp] theorem e_putsC (ρ : Rho) (i : Nat) (is : List Nat) (p : Pv) (ps : List Pv) : putsR ρ (i :: is) (p :: ps) = putsR (ρ.set i p.sl) is ps := rfl
@[simp] theorem e_putsN (ρ : Rho) (ps : List Pv) : putsR ρ [] ps = ρ := by cases ps <;> rfl
@[simp] theorem e_slF (p : D) : (Pv.f p).sl = .v p := rfl
@[simp] theorem e_slO (p : List D) : (Pv.o p).sl = .ol p := rfl
/-- a slot that owns nothing -/
def nv : Option D → Sl
  | none => .no
  | some p => .v p
@[simp] theorem e_nvS (p : D) : nv (some p) = .v p := rfl
@[simp] theorem e_nvN : nv none = .no := rfl
@[simp] theorem e_fEnum (f : Rho → Option D) (ρ : Rho) : fEnum f ρ = (f ρ).bind fun p => (items p).map enumD := rfl
@[simp] theorem e_vNeg (f : Rho → Option D) (ρ : Rho) : vNeg f ρ = (f ρ).bind dNeg := rfl
@[simp] theorem e_dNeg (i : Int) : dNeg (.int i) = some (.int (-i)) := rfl
theorem ix_last {α : Type} (enc : α → D) (xs : List α) (x : α) : dIx (.list ((xs ++ [x]).map enc)) (.int (-1)) = some (enc x) := by
  show atI _ (-1) = _
  have hl : ((xs ++ [x]).map enc).length = xs.length + 1 := by simp
  unfold atI ixN
  rw [hl]
  have hc : (1 : Int) ≤ (xs.length : Int) + 1 := by omega
  have e : (-1 + ((xs.length : Int) + 1)).toNat = xs.length := by omega
  simp [hc, e]
theorem ix_ints {cs : List Int} {i : Int} (h0 : 0 ≤ i) (h1 : i < cs.length) : dIx (tR cs) (.int i) = some (.int (cs.getD i.toNat 0)) := by
  show atI _ i = _
  have hi : i.toNat < cs.length := by omega
  have e : ((i.toNat : Nat) : Int) = i := by omega
  have z := atI_nat (xs := cs.map PyData.int) (j := i.toNat) (v := .int (cs.getD i.toNat 0)) (by rw [List.getElem?_map, List.getElem?_eq_getElem hi, List.getD_eq_getElem?_getD, List.getElem?_eq_getElem hi]; rfl)
  rw [e] at z
  exact z
theorem enum_ints (cs : List Int) : enumD (cs.map PyData.int) = (upI cs.length).map fun i => .tuple [.int i, .int (cs.getD i.toNat 0)] := by
  unfold enumD upI
  rw [List.length_map, List.map_map]
  apply List.map_congr_left
  intro i hi
  rw [List.mem_range] at hi
  have e : (cs.map PyData.int).getD i .none = .int (cs.getD i 0) := by
    rw [List.getD_eq_getElem?_getD, List.getElem?_map, List.getD_eq_getElem?_getD, List.getElem?_eq_getElem hi]
    rfl
  show PyData.tuple [.int (i : Nat), _] = _
  rw [e]
  simp
/-- people of a web -/
def Row (n : Nat) (cs : List Int) : Prop := ∀ c ∈ cs, 0 ≤ c ∧ c < (n : Int)
/-- p calls -/
def callM (w : List (List Int)) (st : List Int) (p : Int) : List Int := if p ∈ st then st.filter fun o => decide (p ≤ o) || !decide (o ∈ fr w p) else st
theorem callM_sub (w : List (List Int)) (st : List Int) (p : Int) : (callM w st p).Sublist st := by
  unfold callM
  split
  · exact List.filter_sublist
  · exact List.Sublist.refl _
theorem callM_ppl {w : List (List Int)} {st : List Int} {p : Int} {n : Nat} (h : Ppl n st) : Ppl n (callM w st p) := ⟨h.up.sublist (callM_sub w st p), fun k hk => h.inn k ((callM_sub w st p).subset hk)⟩
/-- who stands behind i calls -/
def stAt (w : List (List Int)) (st cs : List Int) (i : Nat) : List Int := (cs.take i).foldl (callM w) st
theorem fold_ppl {w : List (List Int)} {n : Nat} : ∀ (cs st : List Int), Ppl n st → Ppl n (cs.foldl (callM w) st)
  | [], _, h => h
  | c :: cs, st, h => fold_ppl cs (callM w st c) (callM_ppl h)
theorem stAt_ppl {w : List (List Int)} {n : Nat} {st cs : List Int} {i : Nat} (h : Ppl n st) : Ppl n (stAt w st cs i) := fold_ppl _ _ h
theorem stAt_succ {w : List (List Int)} {st cs : List Int} {i : Nat} {c : Int} (h : cs[i]? = some c) : stAt w st cs (i + 1) = callM w (stAt w st cs i) c := by
  unfold stAt
  rw [List.take_add_one, h]
  simp
/-- the story -/
def stories (w : List (List Int)) (st cs : List Int) (m : Nat) : List D := (List.range m).map fun i => tR (stAt w st cs i)
theorem stories_succ (w : List (List Int)) (st cs : List Int) (m : Nat) : stories w st cs (m + 1) = stories w st cs m ++ [tR (stAt w st cs m)] := by
  unfold stories
  rw [List.range_succ, List.map_append]; rfl
theorem stories_len (w : List (List Int)) (st cs : List Int) (m : Nat) : (stories w st cs m).length = m := by unfold stories; simp
theorem ix_storiesL (w : List (List Int)) (st cs : List Int) (m : Nat) : dIx (.list (stories w st cs (m + 1))) (.int (-1)) = some (tR (stAt w st cs m)) := by
  have := ix_last (fun i => tR (stAt w st cs i)) (List.range m) m
  rw [← List.range_succ] at this
  exact this
def moversM (w : List (List Int)) (st : List Int) : List Int := st.filter fun p => has w st (fun x k => decide (k < x)) p
/-- who makes somebody sit -/
theorem movers_iff {w : List (List Int)} {st : List Int} {p : Int} (hp : p ∈ st) : callM w st p ≠ st ↔ has w st (fun x k => decide (k < x)) p = true := by
  unfold callM has
  rw [if_pos hp, List.any_eq_true]
  constructor
  · intro h
    apply Classical.byContradiction
    intro q
    apply h
    rw [List.filter_eq_self]
    intro o ho
    rw [Bool.or_eq_true, decide_eq_true_eq, Bool.not_eq_true', decide_eq_false_iff_not]
    by_cases c : p ≤ o
    · exact .inl c
    · refine .inr fun hf => q ⟨o, hf, ?_⟩
      rw [Bool.and_eq_true, decide_eq_true_eq, decide_eq_true_eq]
      exact ⟨by omega, ho⟩
  · rintro ⟨k, hk, q⟩ e
    rw [Bool.and_eq_true, decide_eq_true_eq, decide_eq_true_eq] at q
    rw [List.filter_eq_self] at e
    have := e k q.2
    rw [Bool.or_eq_true, decide_eq_true_eq, Bool.not_eq_true', decide_eq_false_iff_not] at this
    rcases this with c | c
    · omega
    · exact c hk
end L2.P
namespace L2.P
open PySem PySem.Spec PyProof.Rows L2
end L2.P


set_option Elab.async false
set_option linter.all false
set_option maxRecDepth 100000
set_option maxHeartbeats 4000000
namespace L2.P
open PySem PySem.Spec PyProof.Rows L2
section
variable {prog : Program} {w : World} {A : Around} {E : Value → Shared → Prop} {s : Shared}
end
end L2.P
namespace L2.P
open PySem PySem.Spec PyProof.Rows L2
section
variable {X : Cx} {e : Expr} {pos : Pos}
end
end L2.P


set_option Elab.async false
set_option linter.all false
set_option maxRecDepth 100000
set_option maxHeartbeats 4000000
namespace L2.P
open PySem PySem.Spec PyProof.Rows L2
section
variable {X : Cx} {e : Expr} {pos : Pos}
end
end L2.P
namespace L2.P
open PySem PySem.Spec PyProof.Rows L2
end L2.P


set_option Elab.async false
set_option linter.all false
set_option maxRecDepth 100000
set_option maxHeartbeats 4000000
namespace L2.PS
open PySem PySem.Calls PySem.SeqAt PySem.W PyProof.Rows
section
variable {prog : Program} {w : World} {A : Around} {E : Value → Shared → Prop} {s : Shared}
theorem call_tuple_lt {Q : Value → Shared → Prop} {l b : Addr} {items items2 : Array Value} {e r : Nat → Bool} (hl : s.heap.IsTuple l items) (hb : s.heap.IsTuple b items2)
    (he : ∀ j (h1 : j < items.size) (h2 : j < items2.size), EqAt A.in1 s items[j] items2[j] (e j)) (hr : ∀ j (h1 : j < items.size) (h2 : j < items2.size), e j = false → RcLt A.in1 s items[j] items2[j] (r j))
    (h : Q (.bool (firstLt e r (decide (items.size < items2.size)) (List.range (min items.size items2.size)))) s) : wpAny (model prog w) A (call (.builtin "tuple.__lt__") [.ref l, .ref b]) Q E s := by
  obtain ⟨⟨cls, dd, data, sl⟩, ho, hc, n, hd⟩ := id hl
  obtain ⟨⟨cls2, dd2, data2, sl2⟩, ho2, hc2, n2, hd2⟩ := id hb
  simp only at hc hd hc2 hd2
  subst hc hd hc2 hd2
  exact call_meets F.slot_tuple_lt ⟨_, ho, rfl⟩ F.entry_tuple_lt (F.args_tuple_lt_2 _ _) (tuple_ltAt l b items items2 n n2 dd dd2 sl sl2 e r) ⟨ho, ho2, he, hr, h⟩
/-- one tuple against another, as sorting asks -/
theorem oneLt_tup {f : Bool} {xs ys : List PyData} {a b : Value} {as bs : List Addr} {Q : Bool → Shared → Prop} (ra : Reads s.heap a (.tuple xs) as) (rb : Reads s.heap b (.tuple ys) bs) (h : alike (.tuple xs) (.tuple ys) = true)
    (hu : A.units + min (PyData.tuple xs).depth (PyData.tuple ys).depth < cLine) (hq : Q (dataLt (.tuple xs) (.tuple ys)) s) : wpAny (model prog w) A (oneLt' f a b) Q E s := by
  cases f with
  | false =>
    rw [oneLt'_eq]
    simp only [Bool.false_eq_true, if_false]
    exact wpAny_bind (rcLt_alike _ _ A s a b as bs ra rb h (by simp) hu prog w E _ (wpAny_truthy_bool hq))
  | true =>
    have hal : alikeAll xs ys = true := by simpa [alike] using h
    cases ra with
    | @tuple l o vs n _ as₁ h1 h2 h3 h4 =>
      cases rb with
      | @tuple l' o' vs' n' _ bs₁ k1 k2 k3 k4 =>
        have n1 : vs.size = xs.length := by simpa using SeqAt.ReadsAll.length _ _ _ h4
        have n2 : vs'.size = ys.length := by simpa using SeqAt.ReadsAll.length _ _ _ k4
        rw [dataLt_tuple, ← firstLt_toks xs ys hal, ← n1, ← n2] at hq
        rw [oneLt'_eq]
        simp only [if_true]
        refine wpAny_bind (wpAny_cRoomFor (room_here hu) ?_)
        refine wpAny_bind (wpAny_callSpecialIfBound?_slot (T := "tuple") ⟨_, h1, h2⟩ F.slot_tuple_lt (call_tuple_lt (e := pairEq xs ys) (r := fun j => dataLt (xs.getD j .none) (ys.getD j .none)) ⟨_, h1, h2, _, h3⟩ ⟨_, k1, k2, _, k3⟩ (fun j j1 j2 => ?_) (fun j j1 j2 hj => ?_) ?_))
        · have := eqAt_alikeAll xs ys A.in1 s vs.toList vs'.toList _ _ h4 k4 hal (room_in hu) j (by simpa using j1) (by simpa using j2)
          simpa using this
        · have := rcLt_alikeAll xs ys A.in1 s vs.toList vs'.toList _ _ h4 k4 hal (room_in hu) j (by simpa using j1) (by simpa using j2) hj
          simpa using this
        · exact wpAny_truthy_bool hq
def neT : PyData → Bool
  | .tuple (_ :: _) => true
  | _ => false
theorem firsts {M : Model} : ∀ (vs : List Value) (ds : List PyData) {Q : List (Option Value) → Shared → Prop}, EachIs (fun v d => ∃ as, Reads s.heap v d as) vs ds → (∀ d ∈ ds, ∃ xs, d = .tuple xs) →
    (∀ fs : List (Option Value), EachIs (fun f d => f.isSome = neT d) fs ds → Q fs s) → wpAny M A (vs.mapM firstOfTuple') Q E s
  | _, _, _, .nil, _, h => by rw [List.mapM_nil]; exact wpAny_pure (h [] .nil)
  | _, _, Q, .cons (a := v) (as := vs) (b := d) (bs := ds) ⟨as, r⟩ t, ht, h => by
    obtain ⟨xs, rfl⟩ := ht d List.mem_cons_self
    cases r with
    | @tuple a o its n _ _ ho hc hd hr =>
      rw [List.mapM_cons]
      refine wpAny_bind ?_
      rw [kas_first_eq]
      refine wpAny_bind (Looks.here (show Looks M s.heap (typeOf (.ref a)) o.cls from (Looks.ld ho).andThen .now) ?_)
      rw [hc, if_neg (by first | decide | simp)]
      refine wpAny_bind (listItems_at ho hd (wpAny_pure ?_))
      refine wpAny_bind (firsts vs ds (Q := fun bs s' => wpAny M A (pure (its[0]? :: bs)) Q E s') t (fun d hd => ht d (List.mem_cons_of_mem _ hd)) fun fs hfs => wpAny_pure (h _ (.cons ?_ hfs)))
      rw [← Array.getElem?_toList]
      have hl : its.toList.length = xs.length := SeqAt.ReadsAll.length _ _ _ hr
      cases q : its.toList with
      | nil =>
        rw [q] at hl
        cases xs with
        | nil => rfl
        | cons x xs => simp at hl
      | cons z zs =>
        rw [q] at hl
        cases xs with
        | nil => simp at hl
        | cons x xs => rfl
theorem each_all {α β : Type} {R : α → β → Prop} {p : α → Bool} {q : β → Bool} (hR : ∀ a b, R a b → p a = q b) : ∀ {as : List α} {bs : List β}, EachIs R as bs → as.all p = bs.all q
  | _, _, .nil => rfl
  | _, _, .cons h t => by rw [List.all_cons, List.all_cons, hR _ _ h, each_all hR t]
theorem SortsAt.tups {vs : List Value} {ds : List PyData} (e : EachIs (fun v d => ∃ as, Reads s.heap v d as) vs ds) (hal : AllAlike ds) (ht : ∀ d ∈ ds, ∃ xs, d = .tuple xs) (hu : ∀ d, d ∈ ds → A.units + d.depth < cLine) (hne : ds.all neT = false) :
    SortsAt prog w A s (dataKind s.heap ds) vs := by
  have room : ∀ {d d' : PyData}, d ∈ ds → A.units + min d.depth d'.depth < cLine := fun {d d'} hd => Nat.lt_of_le_of_lt (Nat.add_le_add_left (Nat.min_le_left _ _) _) (hu d hd)
  refine ⟨fun v hv => ?_, ?_⟩
  · obtain ⟨d, hd, as, r⟩ := e.left v hv
    exact ⟨_, dataKind_some hal hd r⟩
  · have lt : ∀ (f : Bool) (kd : SortKind), (∀ x y, keyLt' kd x y = oneLt' f x y) → H.LtAt prog w A s (dataKind s.heap ds) kd := fun f kd hk => by
      intro E x y a b Q ha hb hq
      obtain ⟨d, as, hd, ra, rfl⟩ := dataKind_inv ha
      obtain ⟨d', as', hd', rb, rfl⟩ := dataKind_inv hb
      have hdd := hal d hd d' hd'
      have hroom := room (d' := d') hd
      obtain ⟨x1, rfl⟩ := ht d hd
      obtain ⟨x2, rfl⟩ := ht d' hd'
      rw [hk]
      exact oneLt_tup ra rb hdd hroom hq
    cases ds with
    | nil => simp at hne
    | cons d₀ ds₀ =>
      cases e with
      | @cons v₀ _ vs₀ _ r₀ e₀ =>
        have e : EachIs (fun v d => ∃ as, Reads s.heap v d as) (v₀ :: vs₀) (d₀ :: ds₀) := .cons r₀ e₀
        cases h0 : neT d₀ with
        | true =>
          refine ⟨general', lt false general' (fun _ _ => rfl), fun h2 E Q hq => ?_⟩
          rw [keyKind'_eq, List.mapM_toArray, map_eq_pure_bind]
          refine wpAny_bind (wpAny_bind (firsts _ _ e ht fun fs hfs => wpAny_pure ?_))
          have ha := each_all (p := Option.isSome) (q := neT) (fun _ _ h => h) hfs
          rw [hne] at ha
          rw [if_neg (by rw [List.all_toArray, ha]; decide)]
          cases hfs with
          | @cons f _ fs _ hf hfs =>
            rw [h0] at hf
            obtain ⟨z, rfl⟩ := Option.isSome_iff_exists.mp hf
            rw [if_pos (by simp)]
            exact wpAny_pure hq
        | false =>
          refine ⟨oneType', lt true oneType' (fun _ _ => keyLt'_oneType _ _), fun h2 E Q hq => ?_⟩
          rw [keyKind'_eq, List.mapM_toArray, map_eq_pure_bind]
          refine wpAny_bind (wpAny_bind (firsts _ _ e ht fun fs hfs => wpAny_pure ?_))
          have ha := each_all (p := Option.isSome) (q := neT) (fun _ _ h => h) hfs
          rw [hne] at ha
          rw [if_neg (by rw [List.all_toArray, ha]; decide)]
          cases hfs with
          | @cons f _ fs _ hf hfs =>
            rw [h0] at hf
            cases f with
            | some z => cases hf
            | none =>
              rw [if_neg (by simp)]
              rw [oneTypeOnly'_eq, List.mapM_toArray, map_eq_pure_bind]
              refine wpAny_bind (wpAny_bind (wpAny_bind (kas_mapM (r := Value.type "tuple") _ (fun v hv Q' hq' => ?_) (wpAny_pure ?_))))
              · obtain ⟨d, hd, as, r⟩ := e.left v hv
                obtain ⟨xs, rfl⟩ := ht d hd
                exact (looks_reads r).here hq'
              · have hall : ((List.map (fun _ => Value.type "tuple") (v₀ :: vs₀)).toArray.all fun x => x == Value.type "tuple") = true := by
                  simp only [List.all_toArray, List.all_map, List.all_eq_true]
                  intro _ _
                  exact beq_self_eq_true _
                have h0 : (List.map (fun _ => Value.type "tuple") (v₀ :: vs₀)).toArray[0]? = some (Value.type "tuple") := by simp
                rw [h0]
                simp only [hall, if_true]
                exact wpAny_pure (wpAny_pure hq)
theorem alike_tuple {d d' : PyData} (h : alike d d' = true) (ht : ∃ xs, d = .tuple xs) : ∃ xs, d' = .tuple xs := by
  obtain ⟨xs, rfl⟩ := ht
  cases d' <;> first | exact ⟨_, rfl⟩ | exact absurd h (by simp [alike])
/-- alike data but None can be sorted -/
theorem SortsAt.any {vs : List Value} {ds : List PyData} (e : EachIs (fun v d => ∃ as, Reads s.heap v d as) vs ds) (hal : AllAlike ds) (hn : ∀ d ∈ ds, d ≠ .none) (hu : ∀ d, d ∈ ds → A.units + d.depth < cLine) : SortsAt prog w A s (dataKind s.heap ds) vs := by
  by_cases h1 : ∀ d ∈ ds, ∀ xs, d ≠ .tuple xs
  · exact SortsAt.data e hal (.inr fun d hd => ⟨hn d hd, h1 d hd⟩) hu
  · have ⟨d, hd, xs, hx⟩ : ∃ d, d ∈ ds ∧ ∃ xs, d = .tuple xs := by
      apply Classical.byContradiction
      intro q
      exact h1 fun d hd xs hx => q ⟨d, hd, xs, hx⟩
    have ht : ∀ d ∈ ds, ∃ xs, d = .tuple xs := fun d' hd' => alike_tuple (hal d hd d' hd') ⟨xs, hx⟩
    cases hb : ds.all neT with
    | false => exact SortsAt.tups e hal ht hu hb
    | true =>
      rw [List.all_eq_true] at hb
      refine SortsAt.data e hal (.inl fun d hd => ?_) hu
      obtain ⟨ys, rfl⟩ := ht d hd
      have := hb _ hd
      cases ys with
      | nil => cases this
      | cons y ys => exact ⟨_, _, rfl⟩
theorem collect_tup {l : Addr} {vs : List Value} {Q : List Value → Shared → Prop} (hl : IsTup s.heap l vs.toArray)
    (h : Q vs { s with heap := (s.heap.push (seqObj "list" #[] 0)).update s.heap.objs.size (Obj.mapSeq (· ++ vs.toArray)) }) (hsz : vs.length ≤ sizeLine) :
    wpAny (model prog w) A (collect (.ref l)) Q E s := by
  obtain ⟨o, ho, hc, n, hd⟩ := id hl
  unfold collect
  refine wpAny_bind (wpAny_runValue (codeAny_builtin entry_proto_collect' ?_))
  show wpAny _ _ (do again (.builtin "list.__iadd__" ⟨[← newList [], .ref l], []⟩)) _ _ s
  refine wpAny_bind (wpAny_newList (wpAny_pure ⟨Code.quiet_builtin _ (by decide +kernel), codeAny_builtin entry_list_iadd' ?_⟩))
  show wpAny _ _ (Builtin.List.listExtendWith (.ref s.heap.objs.size) (.ref l) (.ref s.heap.objs.size)) _ _ { s with heap := s.heap.push (seqObj "list" #[] 0) }
  unfold Builtin.List.listExtendWith
  have ho' : (s.heap.push (seqObj "list" #[] 0)).get? l = some o := Heap.get?_push_of_some _ ho
  refine wpAny_bind (wpAny_typeOf (T := "tuple") ⟨o, ho', hc⟩ ?_)
  have ht : (Value.type "tuple" == Value.type "tuple") = true := by rfl
  rw [if_pos (by rw [ht]; simp)]
  refine wpAny_bind (listItems_at ho' hd ?_)
  refine wpAny_bind (listItems_at (xs := #[]) (n := 0) (Heap.get?_push_size _ rfl) rfl ?_)
  rw [if_neg (by simp)]
  refine wpAny_bind (listUpdate_at (xs := #[]) (n := 0) (Heap.get?_push_size _ rfl) rfl ?_ (Nat.zero_le _) (by show (#[] ++ vs.toArray).size ≤ sizeLine + 1; simp only [Array.size_append, List.size_toArray, List.length_nil]; omega))
  refine wpAny_pure ?_
  show wpAny (model prog w) A (do
      let o ← load s.heap.objs.size
      match o.data with
      | .seq xs _ => pure xs.toList
      | _ => unsupported "internal:collect") Q E { s with heap := (s.heap.push (seqObj "list" #[] 0)).update s.heap.objs.size (Obj.mapSeq (· ++ vs.toArray)) }
  refine wpAny_bind (wpAny_load (get?_update_seq (Heap.get?_push_size _ rfl) _) ?_)
  show wpAny _ _ (pure ((#[] : Array Value) ++ vs.toArray).toList) Q E _
  rw [show ((#[] : Array Value) ++ vs.toArray).toList = vs by simp]
  exact wpAny_pure h
theorem sorted_of {l : Addr} {vs : List Value} {kw : List (Str × Value)} {Q : Value → Shared → Prop} (hl : s.heap.IsList l vs.toArray ∨ IsTup s.heap l vs.toArray) (hL : vs.length ≤ sizeLine) (ha1 : argsOk "sorted" ⟨[.ref l], kw⟩) (ha2 : ∀ x, argsOk "list.sort" ⟨[.ref x], kw⟩)
    (body : ∀ E' : Value → Shared → Prop, wpAny (model prog w) A.in1.in1 (Builtin.«list.sort» ⟨[.ref (s.heap.objs.size + 1)], kw⟩) (fun f s' => f = .done (.ret .none) ∧ Q (.ref (s.heap.objs.size + 1)) s') E' { s with heap := copyHeap s.heap vs }) :
    wpAny (model prog w) A (call (.builtin "sorted") [.ref l] kw) Q E s := by
  refine call_function_entry_kw kind_sorted plain_sorted entry_sorted ha1 ?_
  unfold Builtin.«sorted»
  refine wpAny_bind (m := checkCount "sorted" 1 1 _) (wpAny_pure ?_)
  have cc : ∀ {Q' : List Value → Shared → Prop} {E' : Value → Shared → Prop}, Q' vs { s with heap := (s.heap.push (seqObj "list" #[] 0)).update s.heap.objs.size (Obj.mapSeq (· ++ vs.toArray)) } → wpAny (model prog w) A.in1 (collect (.ref l)) Q' E' s := fun q => by
    rcases hl with hl | hl
    · exact collect_list hl q hL
    · exact collect_tup hl q hL
  refine wpAny_bind (cc ?_)
  refine wpAny_bind (wpAny_newList ?_ hL)
  have hsz : ((s.heap.push (seqObj "list" #[] 0)).update s.heap.objs.size (Obj.mapSeq (· ++ vs.toArray))).objs.size = s.heap.objs.size + 1 := by
    rw [Heap.size_update, size_push']
  show wpAny _ _ _ _ _ { s with heap := copyHeap s.heap vs }
  rw [hsz]
  refine wpAny_bind (wpAny_holding (wpAny_call_entry_kw slot_list_sort ⟨_, copyHeap_at s.heap vs, rfl⟩ entry_list_sort ?body (ha2 _)))
  case body =>
    show wpAny (model prog w) A.in1.in1 (Builtin.«list.sort» ⟨[.ref (s.heap.objs.size + 1)], kw⟩) _ _ _
    refine wpAny_mono (body _) (fun f s' hf => ?_) fun _ _ e => e
    obtain ⟨rfl, hq⟩ := hf
    exact ⟨_, rfl, wpAny_pure ⟨_, rfl, hq⟩⟩
variable {β : Type} {R : Value → β → Prop} {enc : β → PyData} {vs : List Value} {bs : List β}
theorem sorted_any {l : Addr} {Q : Value → Shared → Prop} (hl : s.heap.IsList l vs.toArray ∨ IsTup s.heap l vs.toArray) (e : EachIs R vs bs) (er : EachIs (fun v b => ∃ as, Reads s.heap v (enc b) as) vs bs) (hal : AllAlike (bs.map enc)) (hk : ∀ d ∈ bs.map enc, d ≠ .none) (hL : bs.length ≤ sizeLine)
    (hu : ∀ b, b ∈ bs → A.units + 2 + (enc b).depth < cLine) (h : ∀ out, out.length = bs.length → EachIs R out (bs.mergeSort (dataLe false enc)) → Q (.ref (s.heap.objs.size + 1)) { s with heap := sortedAll s.heap vs (List.toArray out) }) :
    wpAny (model prog w) A (call (.builtin "sorted") [.ref l]) Q E s := by
  have er' : EachIs (fun v b => ∃ as, Reads (sortingHeap (copyHeap s.heap vs) (s.heap.objs.size + 1) vs) v (enc b) as) vs bs := er.mono fun _ _ ⟨as, r⟩ => ⟨as, PyProof.Rows.Reads.keeps (fun _ _ => sorting_copy_old) r⟩
  exact sorted_of hl (by rw [e.length]; exact hL) (args_sorted1 _) (fun _ => args_list_sort _) fun _ => list_sort_vals (s := { s with heap := copyHeap s.heap vs }) (copyHeap_at s.heap vs)
    (SortsAt.any (s := { s with heap := sortingHeap (copyHeap s.heap vs) (s.heap.objs.size + 1) vs }) (each_map (R := fun v d => ∃ as, Reads (sortingHeap (copyHeap s.heap vs) (s.heap.objs.size + 1) vs) v d as) enc er') hal hk (bound_map hu)) (by rw [e.length]; exact hL)
    ⟨rfl, h _ (by rw [sortVals_length false rfl]; exact e.length) (sortVals_data false e er' hal)⟩
end
end L2.PS
namespace L2.P
open PySem PySem.Spec PyProof.Rows L2
theorem depth_mem : ∀ {ps : List D} {p : D}, p ∈ ps → p.depth ≤ PyData.depthAll ps
  | x :: xs, p, h => by
    rw [PyData.depthAll]
    rcases List.mem_cons.mp h with rfl | h
    · exact Nat.le_max_left _ _
    · exact Nat.le_trans (depth_mem h) (Nat.le_max_right _ _)
def mgF {α : Type} (le : α → α → Bool) : Nat → List α → List α → List α
  | 0, _, _ => []
  | _ + 1, [], ys => ys
  | _ + 1, x :: xs, [] => x :: xs
  | k + 1, x :: xs, y :: ys => match le x y with
    | true => x :: mgF le k xs (y :: ys)
    | false => y :: mgF le k (x :: xs) ys
def msF {α : Type} (le : α → α → Bool) : Nat → List α → List α
  | 0, _ => []
  | _ + 1, [] => []
  | _ + 1, [a] => [a]
  | k + 1, a :: b :: xs => mgF le (xs.length + 3) (msF le k ((a :: b :: xs).take ((xs.length + 3) / 2))) (msF le k ((a :: b :: xs).drop ((xs.length + 3) / 2)))
theorem mgF_eq {α : Type} {le : α → α → Bool} : ∀ (k : Nat) (xs ys : List α), xs.length + ys.length < k → mgF le k xs ys = List.merge xs ys le
  | 0, _, _, h => absurd h (Nat.not_lt_zero _)
  | _ + 1, [], ys, _ => by simp [mgF]
  | _ + 1, x :: xs, [], _ => by simp [mgF]
  | k + 1, x :: xs, y :: ys, h => by
    simp only [List.length_cons] at h
    rw [List.cons_merge_cons]
    show (match le x y with | true => x :: mgF le k xs (y :: ys) | false => y :: mgF le k (x :: xs) ys) = _
    cases e : le x y with
    | true => rw [if_pos rfl]; exact congrArg _ (mgF_eq k xs (y :: ys) (by simp only [List.length_cons]; omega))
    | false => rw [if_neg (by simp)]; exact congrArg _ (mgF_eq k (x :: xs) ys (by simp only [List.length_cons]; omega))
theorem msF_eq {α : Type} {le : α → α → Bool} : ∀ (k : Nat) (xs : List α), xs.length < k → msF le k xs = xs.mergeSort le
  | 0, _, h => absurd h (Nat.not_lt_zero _)
  | _ + 1, [], _ => by simp [msF]
  | _ + 1, [a], _ => by simp [msF]
  | k + 1, a :: b :: xs, h => by
    simp only [List.length_cons] at h
    show mgF le _ (msF le k _) (msF le k _) = _
    have h1 : ((a :: b :: xs).take ((xs.length + 3) / 2)).length < k := by rw [List.length_take]; simp only [List.length_cons]; omega
    have h2 : ((a :: b :: xs).drop ((xs.length + 3) / 2)).length < k := by rw [List.length_drop]; simp only [List.length_cons]; omega
    rw [msF_eq k _ h1, msF_eq k _ h2, mgF_eq]
    · rw [List.mergeSort]
      simp only [List.MergeSort.Internal.splitInTwo_fst, List.MergeSort.Internal.splitInTwo_snd]
      have e : xs.length + 1 + 1 + 1 = xs.length + 3 := rfl
      simp only [List.length_cons, e]
    · rw [(List.mergeSort_perm _ _).length_eq, (List.mergeSort_perm _ _).length_eq, List.length_take, List.length_drop]
      simp only [List.length_cons]; omega
/-- a list in order -/
def sortP (ps : List D) : List D := msF (PySem.W.dataLe false id) (ps.length + 1) ps
theorem sortP_ms (ps : List D) : sortP ps = ps.mergeSort (PySem.W.dataLe false id) := msF_eq _ _ (Nat.lt_succ_self _)
def gSrt : List D → Option (List D)
  | [.list xs] => if okM xs = true then some (sortP xs) else none
  | [.tuple xs] => if okM xs = true then some (sortP xs) else none
  | _ => none
def rSort (K : Fg) : List V → Hp → VK → Prop := fun vs H Q => ∃ (a : Addr) (ys : List V) (ps : List D), vs = [.ref a] ∧ (SqL K H a ys ∨ SqT K H a ys) ∧ DpAll K H ys ps ∧ okM ps = true ∧ ∀ (bs : List (V × D)) (p : Addr), H p = none → bs.Perm (ys.zip ps) → bs.map (·.2) = sortP ps → Q (.ref p) (upd H p (.lst (bs.map (·.1))))
theorem each_zip {h : Heap} : ∀ {ys : List V} {its : List Value} {ps : List D}, Vals ys its → ys.length = ps.length → PySem.W.EachIs (fun (v : Value) (b : V × D) => RelV b.1 v) its (ys.zip ps)
  | _, _, [], .nil, _ => .nil
  | _, _, [], .cons _ _, h => by simp at h
  | _, _, _ :: _, .nil, h => by simp at h
  | _, _, _ :: _, .cons a r, h => .cons a (each_zip (h := ‹Heap›) r (by simpa using h))
theorem each_reads {h : Heap} : ∀ {ys : List V} {its : List Value} {ps : List D} {as : List Addr}, ReadsAll h its ps as → ys.length = ps.length → PySem.W.EachIs (fun (v : Value) (b : V × D) => ∃ as, Reads h v b.2 as) its (ys.zip ps)
  | [], _, _, _, .nil, _ => .nil
  | _ :: _, _, _, _, .nil, h => by simp at h
  | [], _, _, _, .cons _ _, h => by simp at h
  | _ :: _, _, _, _, .cons a r, h => .cons ⟨_, a⟩ (each_reads r (by simpa using h))
theorem vals_each : ∀ {out : List Value} {bs : List (V × D)}, PySem.W.EachIs (fun (v : Value) (b : V × D) => RelV b.1 v) out bs → Vals (bs.map (·.1)) out
  | _, _, .nil => .nil
  | _, _, .cons a r => .cons a (vals_each r)
theorem dpAll_zip {K : Fg} {F : Hp} : ∀ {ys : List V} {ps : List D}, DpAll K F ys ps → ∀ b ∈ ys.zip ps, Dp K F b.1 b.2
  | _, _, .nil, b, h => by simp at h
  | _, _, .cons a r, b, h => by
    rw [List.zip_cons_cons] at h
    rcases List.mem_cons.mp h with rfl | h
    · exact a
    · exact dpAll_zip r b h
theorem dpAll_of {K : Fg} {F : Hp} : ∀ {bs : List (V × D)}, (∀ b ∈ bs, Dp K F b.1 b.2) → DpAll K F (bs.map (·.1)) (bs.map (·.2))
  | [], _ => .nil
  | b :: bs, h => .cons (h b List.mem_cons_self) (dpAll_of fun c hc => h c (List.mem_cons_of_mem _ hc))
section
variable {X : Cx}
theorem cr_sort (hc : X.calm = true) (hu : Rm X) : CallR X (.builtin "sorted") (rSort X.K) := by
  intro pins s σ H vs us Q I r h
  obtain ⟨a, ys, ps, rfl, hs, hd, ok, q⟩ := h
  rw [Vals.ref1 r]
  obtain ⟨hpl, hdep⟩ := okDs_iff.mp (okM_oks ok)
  obtain ⟨its, rv, hl, hz⟩ : ∃ its : List Value, Vals ys its ∧ (s.heap.IsList a its.toArray ∨ IsTup s.heap a its.toArray) ∧ ys.length ≤ sizeLine := by
    rcases hs with hs | hs
    · obtain ⟨its, rv, hl, hz⟩ := I.list hs
      exact ⟨its, rv, .inl hl.isList, hz⟩
    · obtain ⟨its, rv, hl, hz⟩ := I.tuple hs
      exact ⟨its, rv, .inr hl, hz⟩
  obtain ⟨as, hr⟩ := Dp.readsAll I _ ys its hd hpl rv
  have hlen := hd.length
  have e2 : (ys.zip ps).map (·.2) = ps := List.map_snd_zip (by omega)
  have hal := okM_alike ok
  refine PS.sorted_any (R := fun (v : Value) (b : V × D) => RelV b.1 v) (enc := fun b : V × D => b.2) (bs := ys.zip ps) hl (each_zip (h := s.heap) rv hlen) (each_reads hr hlen) ?_ ?_ ?_ ?_ fun out ho hout => ?_
  · rw [e2]; exact hal.1
  · rw [e2]; exact hal.2
  · rw [List.length_zip]; omega
  · intro b hb
    have hb2 : b.2 ∈ ps := by rw [← e2]; exact List.mem_map_of_mem hb
    have := depth_mem hb2
    unfold Rm at hu
    omega
  · obtain ⟨e, he⟩ := sortedAll_at s.heap its (List.toArray out)
    have hperm := List.mergeSort_perm (ys.zip ps) (PySem.W.dataLe false fun b : V × D => b.2)
    have hv := vals_each hout
    have hsz : (List.map (·.1) ((ys.zip ps).mergeSort (PySem.W.dataLe false fun b : V × D => b.2))).length ≤ sizeLine := by
      rw [List.length_map, hperm.length_eq, List.length_zip]; omega
    refine ⟨.ref (s.heap.objs.size + 1), upd H (s.heap.objs.size + 1) (.lst (List.map (·.1) ((ys.zip ps).mergeSort (PySem.W.dataLe false fun b : V × D => b.2)))), I.laid (t' := s.toks) (fun b o hb => sortedAll_old hb) (Nat.le_succ _) ⟨hsz, out, e, hv, he⟩, rfl, q _ _ (I.hok.fresh (Nat.le_succ _)) hperm ?_⟩
    rw [sortP_ms]
    have z := List.map_mergeSort (f := fun b : V × D => b.2) (r := PySem.W.dataLe false fun b : V × D => b.2) (s := PySem.W.dataLe false id) (l := ys.zip ps) (fun a _ b _ => rfl)
    rw [z, e2]
theorem cn_sort (hc : X.calm = true) (hu : Rm X) : CallN X (.builtin "sorted") gSrt := ⟨_, cr_sort hc hu, fun B F H σ ρ vs ps zs Q R d e k => by
  have key : ∀ (p : D) (xs : List D), ps = [p] → items p = some xs → okM xs = true → zs = sortP xs → rSort X.K vs H Q := fun p xs e1 e2 ok e3 => by
    subst e1 e3
    obtain ⟨v, rfl, h⟩ := pk1 d
    obtain ⟨a, ys, rfl, r, q⟩ := pk_items R h e2
    refine ⟨a, ys, xs, rfl, sq_of R.sub q, r.same R.sub, ok, fun bs p hp hb hs => ?_⟩
    have := dpAll_of (K := X.K) (F := F) (bs := bs) fun b hb' => dpAll_zip r b (hb.mem_iff.mp hb')
    rw [hs] at this
    exact k F H p _ R (Same.refl _) hp this
  unfold gSrt at e
  split at e
  · split at e
    · exact key _ _ rfl rfl (by assumption) (Option.some.inj e).symm
    · cases e
  · split at e
    · exact key _ _ rfl rfl (by assumption) (Option.some.inj e).symm
    · cases e
  · cases e⟩
variable {a : Expr} {p pos : Pos}
theorem n_sorted {f : Rho → Option (List D)} (B : Bi X.mg) (hu : Rm X) (h : XAF X [a] f) (hc : X.calm = true := by rfl) (hg : Gl X "sorted" := by rfl) (he : starEach [a] X.env = (false, eval a X.env) :: starEach [] X.env := by rfl) : NF X (.Call (.Name "sorted" p) [a] [] pos) (aOf gSrt f) :=
  NW.f (nw_callB (cn_sort hc hu) h hg B.sorted bt_sorted (he := he) (hpl := rfl))
end
end L2.P
namespace L2.P
open PySem PySem.Spec PyProof.Rows L2
end L2.P


set_option Elab.async false
set_option linter.all false
set_option maxRecDepth 100000
set_option maxHeartbeats 4000000
namespace L2.P
open PySem PySem.Spec PyProof.Rows L2
section
variable {K : Fg} {B : Bs} {F F' H H' : Hp} {σ σ' : St} {ρ ρ' : Rho} {a : Addr} {o : HO} {i : Nat} {ps : List D} {xs : List V}
/-- the own list of slot i is held still -/
theorem Rs.hold (R : Rs K B F H σ ρ) (hi : ρ[i]? = some (.ol ps)) (hσ : σ[i]? = some (some (.ref a))) (hH : H a = some (.lst xs)) : Rs K (B.pin a (.lst xs)) F H σ (ρ.set i .no) := by
  obtain ⟨a', xs', e, f, h0, h1, r⟩ := R.own hi
  rw [hσ] at e; cases e
  have far : ∀ (j : Nat) (s : Sl) (c : Addr), j ≠ i → ρ[j]? = some s → s.owns = true → σ[j]? = some (some (.ref c)) → c ≠ a := fun j s c hj hs ho hc e => by
    subst e
    exact R.apart j i c s _ hj hs hi ho rfl hc hσ
  refine ⟨R.sub, R.ext, fun b g1 g2 => ?_, fun b x hb e => ?_, R.hrow, fun r h => ?_, by rw [List.length_set]; exact R.len, fun j s hs => ?_, fun j k c s t hjk h1' h2' o1 o2 e1 e2 => ?_, R.tb, fun p hp => ?_⟩
  rotate_right
  · obtain ⟨ps9, q9⟩ := R.tbh p hp
    exact ⟨ps9, by show (upd B.Ha a (.lst xs)) p.1 = _; rw [upd_ne (R.tb.ne hH (not_te rfl) p hp)]; exact q9⟩
  · have ne : b ≠ a := fun e => by subst e; exact g2 f
    show Fz ((upd B.Ha a _) b)
    rw [upd_ne ne]; exact R.new b g1 g2
  · have e' : (upd B.Ha a (.lst xs)) b = some x := e
    by_cases q : b = a
    · subst q
      rw [upd_same] at e'
      rw [hH]; exact e'
    · rw [upd_ne q] at e'; exact R.old b x hb e'
  · show (upd B.Ha a (.lst xs)) r ≠ none
    by_cases e : r = a
    · subst e; rw [upd_same]; simp
    · rw [upd_ne e]; exact R.hr2 r h
  · rcases set_some hs with ⟨rfl, hl, rfl⟩ | ⟨ne, hs⟩
    · exact .no
    · have q := R.at_ j s hs
      generalize hx : σ[j]? = x at q
      cases q with
      | no => exact .no
      | v r => exact .v r
      | @ol c xs ps f h0 h1 r =>
        refine .ol f ?_ h1 r
        show (upd B.Ha a _) c = none
        rw [upd_ne (far j _ c (fun e => ne e.symm) hs rfl hx)]; exact h0
      | @row c _ f h0 h1 =>
        refine .row f ?_ h1
        rcases h0 with h0 | h0
        · refine .inl ?_
          show (upd B.Ha a _) c = none
          rw [upd_ne (far j _ c (fun e => ne e.symm) hs rfl hx)]; exact h0
        · exact .inr h0
      | @od t c kvs f h0 h1 =>
        refine .od f ?_ h1
        show (upd B.Ha a _) c = none
        rw [upd_ne (far j _ c (fun e => ne e.symm) hs rfl hx)]; exact h0
  · rcases set_some h1' with ⟨rfl, hl, rfl⟩ | ⟨ne, h1'⟩
    · cases o1
    · rcases set_some h2' with ⟨rfl, hl, rfl⟩ | ⟨ne2, h2'⟩
      · cases o2
      · exact R.apart j k c s t hjk h1' h2' o1 o2 e1 e2
end
section
variable {X : Cx} {elt tg : Expr} {ifs : List Expr} {scope : Scope} {own : List (Str × Nat)} {pos : Pos} {g : Tg} {T : TB} {E : TW}
variable {e : Expr}
end
end L2.P


set_option Elab.async false
set_option linter.all false
set_option maxRecDepth 100000
set_option maxHeartbeats 4000000
namespace L2.P
open PySem PySem.Spec PyProof.Rows L2
def chM (ps : List Int) : List (List Int) := ps.foldl (fun acc p => acc ++ acc.map (· ++ [p])) [[]]
theorem chM_snoc (ps : List Int) (p : Int) : chM (ps ++ [p]) = chM ps ++ (chM ps).map (· ++ [p]) := by unfold chM; rw [List.foldl_append]; rfl
theorem sub_snoc {α : Type} {r l : List α} {p : α} : r.Sublist (l ++ [p]) ↔ r.Sublist l ∨ ∃ s, r = s ++ [p] ∧ s.Sublist l := by
  rw [List.sublist_append_iff]
  constructor
  · rintro ⟨a, b, rfl, ha, hb⟩
    cases hb with
    | cons _ h =>
      cases h
      rw [List.append_nil]; exact .inl ha
    | cons_cons _ h =>
      cases h
      exact .inr ⟨a, rfl, ha⟩
  · rintro (h | ⟨s, rfl, h⟩)
    · exact ⟨r, [], by simp, h, List.nil_sublist _⟩
    · exact ⟨s, [p], rfl, h, List.Sublist.refl _⟩
theorem snoc_ind {α : Type} {P : List α → Prop} (h0 : P []) (h1 : ∀ l x, P l → P (l ++ [x])) : ∀ l, P l := fun l => by
  have : ∀ n (l : List α), l.length = n → P l := fun n => by
    induction n with
    | zero => intro l hl; rw [List.length_eq_zero_iff.mp hl]; exact h0
    | succ n ih =>
      intro l hl
      have hne : l ≠ [] := fun e => by rw [e] at hl; cases hl
      rw [← List.dropLast_concat_getLast hne]
      exact h1 _ _ (ih _ (by rw [List.length_dropLast]; omega))
  exact this _ l rfl
theorem mem_chM {r : List Int} : ∀ {ps : List Int}, r ∈ chM ps ↔ r.Sublist ps := fun {ps} => by
  revert r
  refine snoc_ind (P := fun ps => ∀ {r : List Int}, r ∈ chM ps ↔ r.Sublist ps) (fun {r} => ?_) (fun l x ih {r} => ?_) ps
  · show r ∈ [[]] ↔ _
    rw [List.mem_singleton, List.sublist_nil]
  · rw [chM_snoc, List.mem_append, List.mem_map, sub_snoc, ih]
    constructor
    · rintro (h | ⟨s, hs, rfl⟩)
      · exact .inl h
      · exact .inr ⟨s, rfl, ih.mp hs⟩
    · rintro (h | ⟨s, rfl, hs⟩)
      · exact .inl h
      · exact .inr ⟨s, ih.mpr hs, rfl⟩
theorem chM_len : ∀ ps : List Int, (chM ps).length = 2 ^ ps.length := snoc_ind rfl fun l x ih => by
  rw [chM_snoc, List.length_append, List.length_map, ih, List.length_append, List.length_singleton]
  omega
theorem Ppl.sub {n : Nat} {st r : List Int} (h : Ppl n st) (hr : r.Sublist st) : Ppl n r := ⟨h.up.sublist hr, fun k hk => h.inn k (hr.subset hk)⟩
/-- people in order are a sublist where they are among them -/
theorem sub_of_mem : ∀ {r st : List Int}, r.Pairwise (· < ·) → st.Pairwise (· < ·) → (∀ k ∈ r, k ∈ st) → r.Sublist st
  | [], st, _, _, _ => List.nil_sublist _
  | x :: r, [], _, _, h => absurd (h x List.mem_cons_self) (by simp)
  | x :: r, y :: st, hr, hs, h => by
    obtain ⟨r1, r2⟩ := List.pairwise_cons.mp hr
    obtain ⟨s1, s2⟩ := List.pairwise_cons.mp hs
    by_cases e : x = y
    · subst e
      refine List.Sublist.cons₂ _ (sub_of_mem r2 s2 fun k hk => ?_)
      rcases List.mem_cons.mp (h k (List.mem_cons_of_mem _ hk)) with rfl | h'
      · have := r1 k hk; omega
      · exact h'
    · refine List.Sublist.cons _ (sub_of_mem hr s2 fun k hk => ?_)
      rcases List.mem_cons.mp (h k hk) with rfl | h'
      · rcases List.mem_cons.mp hk with rfl | hk
        · exact absurd rfl e
        · have := r1 k hk
          rcases List.mem_cons.mp (h x List.mem_cons_self) with rfl | hx
          · exact absurd rfl e
          · have := s1 x hx; omega
      · exact h'
def sortR (rs : List (List Int)) : List (List Int) := rs.mergeSort (PySem.W.dataLe false tR)
theorem sortP_R (rs : List (List Int)) : sortP (rs.map tR) = (sortR rs).map tR := by
  rw [sortP_ms]
  unfold sortR
  have z := List.map_mergeSort (f := tR) (r := PySem.W.dataLe false tR) (s := PySem.W.dataLe false id) (l := rs) (fun a _ b _ => rfl)
  rw [z]
theorem sortR_perm (rs : List (List Int)) : (sortR rs).Perm rs := List.mergeSort_perm _ _
theorem mem_sortR {rs : List (List Int)} {r : List Int} : r ∈ sortR rs ↔ r ∈ rs := (sortR_perm rs).mem_iff
theorem alike_tR (r s : List Int) : PySem.W.alike (tR r) (tR s) = true := by
  show PySem.W.alikeAll (r.map .int) (s.map .int) = true
  exact PySem.W.alike_ints r s
theorem okM_R (rs : List (List Int)) : okM (rs.map tR) = true := by
  unfold okM
  rw [Bool.and_eq_true, List.all_eq_true]
  refine ⟨fun x hx => ?_, encInt.tup.oks rs⟩
  obtain ⟨e, _, rfl⟩ := List.mem_map.mp hx
  rw [Bool.and_eq_true, List.all_eq_true]
  refine ⟨rfl, fun y hy => ?_⟩
  obtain ⟨e', _, rfl⟩ := List.mem_map.mp hy
  exact alike_tR _ _
theorem srt_R (rs : List (List Int)) : gSrt [.list (rs.map tR)] = some ((sortR rs).map tR) := by
  show (if okM (rs.map tR) = true then _ else _) = _
  rw [if_pos (okM_R rs), sortP_R]
end L2.P


set_option Elab.async false
set_option linter.all false
set_option maxRecDepth 100000
set_option maxHeartbeats 4000000
namespace L2.P
open PySem PySem.Spec PyProof.Rows L2
section
variable {X : Cx} {a b : Expr} {pos : Pos}
end
end L2.P


set_option Elab.async false
set_option linter.all false
set_option maxRecDepth 100000
set_option maxHeartbeats 4000000
namespace L2.P
open PySem PySem.Spec PyProof.Rows L2
theorem pw_nodup {xs : List Int} (h : xs.Pairwise (· < ·)) : xs.Nodup := h.imp fun h => by omega
theorem okM_I (xs : List Int) : okM (xs.map .int) = true := by
  unfold okM
  rw [Bool.and_eq_true, List.all_eq_true]
  refine ⟨fun x hx => ?_, encInt.oks xs⟩
  obtain ⟨e, _, rfl⟩ := List.mem_map.mp hx
  rw [Bool.and_eq_true, List.all_eq_true]
  refine ⟨rfl, fun y hy => ?_⟩
  obtain ⟨e', _, rfl⟩ := List.mem_map.mp hy
  rfl
theorem stAt_all (w : List (List Int)) (st cs : List Int) : stAt w st cs cs.length = cs.foldl (callM w) st := by unfold stAt; rw [List.take_length]
end L2.P


set_option Elab.async false
set_option linter.all false
set_option maxRecDepth 100000
set_option maxHeartbeats 4000000
namespace L2.P
open PySem PySem.Spec PyProof.Rows L2
section
variable {X : Cx} {k v e : Expr} {pos : Pos}
end
end L2.P
namespace L2.P
open PySem PySem.Spec PyProof.Rows L2
def lookD (kvs : List (D × D)) (k : D) : Option D := (kvs.find? fun e => PyData.eqv e.1 k).map (·.2)
def putD (kvs : List (D × D)) (k v : D) : List (D × D) := if (kvs.any fun e => PyData.eqv e.1 k) = true then kvs.map (fun e => if PyData.eqv e.1 k = true then (e.1, v) else e) else kvs ++ [(k, v)]
def kindOk : Bool → D → Bool
  | false, .int _ => true
  | true, .tuple xs => (intsD xs).isSome
  | _, _ => false
def kindOf : List (D × D) → Option Bool
  | (.int _, .dict [(.none, .none)]) :: _ => none
  | (.int _, _) :: _ => some false
  | (.tuple _, _) :: _ => some true
  | [] => some false
  | _ => none
def slotD (i : Nat) : Rho → Option (Bool × List (D × D)) := fun ρ => match ρ[i]? with
  | some (.od t kvs) => some (t, kvs)
  | some (.v (.dict kvs)) => (kindOf kvs).map fun t => (t, kvs)
  | _ => none
/-- a dict to be read: unlocked or locked -/
def DRd (K : Fg) (F H : Hp) (t : Bool) (a : Addr) (kvs : List (D × D)) : Prop := match t with
  | false => ∃ es, Rd H a (.dK es) ∧ DkAll K F es kvs
  | true => ∃ es, Rd H a (.dT es) ∧ DtAll K F es kvs
/-- a dict locked for good -/
def DLk (K : Fg) (F : Hp) (t : Bool) (a : Addr) (kvs : List (D × D)) : Prop := match t with
  | false => ∃ o es, F a = some (.frz o (.dK es)) ∧ DkAll K F es kvs
  | true => ∃ o es, F a = some (.frz o (.dT es)) ∧ DtAll K F es kvs
/-- both or none -/
inductive OpD (K : Fg) (F : Hp) : Option V → Option D → Prop
  | no : OpD K F none none
  | yes {v : V} {p : D} : Dp K F v p → OpD K F (some v) (some p)
theorem OpD.isSome {K : Fg} {F : Hp} {o : Option V} {p : Option D} (h : OpD K F o p) : o.isSome = p.isSome := by cases h <;> rfl
theorem eqv_int (a b : Int) : PyData.eqv (.int a) (.int b) = decide (a = b) := encInt.1 a b
theorem eqv_ints (a b : List Int) : PyData.eqv (.tuple (a.map .int)) (.tuple (b.map .int)) = decide (a = b) := encInt.tup.1 a b
theorem lookD_cons (q : D × D) (kvs : List (D × D)) (k : D) : lookD (q :: kvs) k = if PyData.eqv q.1 k = true then some q.2 else lookD kvs k := by
  unfold lookD
  rw [List.find?_cons]
  cases PyData.eqv q.1 k <;> rfl
theorem valV_cons {κ : Type} [DecidableEq κ] (q : κ × V) (kvs : List (κ × V)) (k : κ) : valV (q :: kvs) k = if q.1 = k then some q.2 else valV kvs k := by
  by_cases h : q.1 = k
  · rw [if_pos h]; exact valV_pos h
  · rw [if_neg h]; exact valV_neg h
theorem inlM_inj {a b : List Int} : a.map (Sum.inl (β := Str)) = b.map Sum.inl ↔ a = b := by
  constructor
  · intro h
    induction a generalizing b with
    | nil => cases b with
      | nil => rfl
      | cons _ _ => cases h
    | cons x a ih => cases b with
      | nil => cases h
      | cons y b =>
        rw [List.map_cons, List.map_cons] at h
        obtain ⟨h1, h2⟩ := List.cons.inj h
        rw [Sum.inl.inj h1, ih h2]
  · rintro rfl; rfl
section
variable {K : Fg} {F : Hp}
theorem DkAll.val (n : Int) : ∀ {es : List (Key × V)} {kvs : List (D × D)}, DkAll K F es kvs → OpD K F (valV es (.inl n)) (lookD kvs (.int n))
  | _, _, .nil => .no
  | _, _, .cons (k := k) d r => by
    rw [valV_cons, lookD_cons, eqv_int]
    by_cases h : k = n
    · subst h; rw [if_pos rfl, if_pos (by simp)]; exact .yes d
    · rw [if_neg (fun z => h (Sum.inl.inj z)), if_neg (by simpa using h)]; exact DkAll.val n r
theorem DtAll.val (ns : List Int) : ∀ {es : List (List Key × V)} {kvs : List (D × D)}, DtAll K F es kvs → OpD K F (valV es (ns.map .inl)) (lookD kvs (.tuple (ns.map .int)))
  | _, _, .nil => .no
  | _, _, .cons (ks := ks) d r => by
    rw [valV_cons, lookD_cons, eqv_ints]
    by_cases h : ks = ns
    · subst h; rw [if_pos rfl, if_pos (by simp)]; exact .yes d
    · rw [if_neg (fun z => h (inlM_inj.mp z)), if_neg (by simpa using h)]; exact DtAll.val ns r
theorem DkAll.append : ∀ {es es' : List (Key × V)} {kvs kvs' : List (D × D)}, DkAll K F es kvs → DkAll K F es' kvs' → DkAll K F (es ++ es') (kvs ++ kvs')
  | _, _, _, _, .nil, h => h
  | _, _, _, _, .cons d r, h => .cons d (DkAll.append r h)
theorem DtAll.append : ∀ {es es' : List (List Key × V)} {kvs kvs' : List (D × D)}, DtAll K F es kvs → DtAll K F es' kvs' → DtAll K F (es ++ es') (kvs ++ kvs')
  | _, _, _, _, .nil, h => h
  | _, _, _, _, .cons d r, h => .cons d (DtAll.append r h)
theorem DkAll.len : ∀ {es : List (Key × V)} {kvs : List (D × D)}, DkAll K F es kvs → es.length = kvs.length
  | _, _, .nil => rfl
  | _, _, .cons _ r => congrArg (· + 1) (DkAll.len r)
theorem DtAll.len : ∀ {es : List (List Key × V)} {kvs : List (D × D)}, DtAll K F es kvs → es.length = kvs.length
  | _, _, .nil => rfl
  | _, _, .cons _ r => congrArg (· + 1) (DtAll.len r)
theorem DkAll.repl (n : Int) {v : V} {p : D} (d : Dp K F v p) : ∀ {es : List (Key × V)} {kvs : List (D × D)}, DkAll K F es kvs → DkAll K F (es.map fun kv => if kv.1 = Sum.inl n then (kv.1, v) else kv) (kvs.map fun e => if PyData.eqv e.1 (.int n) = true then (e.1, p) else e)
  | _, _, .nil => .nil
  | _, _, .cons (k := k) d0 r => by
    rw [List.map_cons, List.map_cons]
    by_cases h : k = n
    · subst h; rw [if_pos rfl, if_pos (by rw [eqv_int]; simp)]; exact .cons d (DkAll.repl k d r)
    · rw [if_neg (fun z => h (Sum.inl.inj z)), if_neg (by rw [eqv_int]; simpa using h)]; exact .cons d0 (DkAll.repl n d r)
theorem DtAll.repl (ns : List Int) {v : V} {p : D} (d : Dp K F v p) : ∀ {es : List (List Key × V)} {kvs : List (D × D)}, DtAll K F es kvs → DtAll K F (es.map fun kv => if kv.1 = ns.map Sum.inl then (kv.1, v) else kv) (kvs.map fun e => if PyData.eqv e.1 (.tuple (ns.map .int)) = true then (e.1, p) else e)
  | _, _, .nil => .nil
  | _, _, .cons (ks := ks) d0 r => by
    rw [List.map_cons, List.map_cons]
    by_cases h : ks = ns
    · subst h; rw [if_pos rfl, if_pos (by rw [eqv_ints]; simp)]; exact .cons d (DtAll.repl ks d r)
    · rw [if_neg (fun z => h (inlM_inj.mp z)), if_neg (by rw [eqv_ints]; simpa using h)]; exact .cons d0 (DtAll.repl ns d r)
theorem DkAll.any (n : Int) : ∀ {es : List (Key × V)} {kvs : List (D × D)}, DkAll K F es kvs → (es.any fun kv => decide (kv.1 = Sum.inl n)) = kvs.any fun e => PyData.eqv e.1 (.int n)
  | _, _, .nil => rfl
  | _, _, .cons (k := k) d0 r => by
    rw [List.any_cons, List.any_cons, DkAll.any n r, eqv_int]
    congr 1
    by_cases h : k = n
    · subst h; simp
    · simp [h]
theorem DtAll.any (ns : List Int) : ∀ {es : List (List Key × V)} {kvs : List (D × D)}, DtAll K F es kvs → (es.any fun kv => decide (kv.1 = ns.map Sum.inl)) = kvs.any fun e => PyData.eqv e.1 (.tuple (ns.map .int))
  | _, _, .nil => rfl
  | _, _, .cons (ks := ks) d0 r => by
    rw [List.any_cons, List.any_cons, DtAll.any ns r, eqv_ints]
    congr 1
    by_cases h : ks = ns
    · subst h; simp
    · have : ¬ ks.map (Sum.inl (β := Str)) = ns.map Sum.inl := fun z => h (inlM_inj.mp z)
      simp [h, this]
theorem DkAll.put (n : Int) {v : V} {p : D} (d : Dp K F v p) {es : List (Key × V)} {kvs : List (D × D)} (r : DkAll K F es kvs) : DkAll K F (putK es (.inl n) v) (putD kvs (.int n) p) := by
  unfold putK putD
  rw [r.any n]
  by_cases h : (kvs.any fun e => PyData.eqv e.1 (.int n)) = true
  · rw [if_pos h, if_pos h]; exact r.repl n d
  · rw [if_neg h, if_neg h]; exact r.append (.cons d .nil)
theorem DtAll.put (ns : List Int) {v : V} {p : D} (d : Dp K F v p) {es : List (List Key × V)} {kvs : List (D × D)} (r : DtAll K F es kvs) : DtAll K F (putK es (ns.map .inl) v) (putD kvs (.tuple (ns.map .int)) p) := by
  unfold putK putD
  rw [r.any ns]
  by_cases h : (kvs.any fun e => PyData.eqv e.1 (.tuple (ns.map .int))) = true
  · rw [if_pos h, if_pos h]; exact r.repl ns d
  · rw [if_neg h, if_neg h]; exact r.append (.cons d .nil)
variable {B : Bs} {H : Hp} {σ : St} {ρ : Rho} {i : Nat} {t : Bool} {kvs : List (D × D)}
theorem DAt.rd {a : Addr} (h : DAt K F H t a kvs) : DRd K F H t a kvs := by
  cases t with
  | false => obtain ⟨es, e, d⟩ := h; exact ⟨es, .inl e, d⟩
  | true => obtain ⟨es, e, d⟩ := h; exact ⟨es, .inl e, d⟩
theorem DLk.rd {a : Addr} (h : DLk K F t a kvs) (s : Same F H) : DRd K F H t a kvs := by
  cases t with
  | false => obtain ⟨o, es, e, d⟩ := h; exact ⟨es, .inr ⟨o, s _ _ e⟩, d⟩
  | true => obtain ⟨o, es, e, d⟩ := h; exact ⟨es, .inr ⟨o, s _ _ e⟩, d⟩
theorem DLk.same {F' : Hp} {a : Addr} (h : DLk K F t a kvs) (s : Same F F') : DLk K F' t a kvs := by
  cases t with
  | false => obtain ⟨o, es, e, d⟩ := h; exact ⟨o, es, s _ _ e, d.same s⟩
  | true => obtain ⟨o, es, e, d⟩ := h; exact ⟨o, es, s _ _ e, d.same s⟩
theorem DRd.same {F' : Hp} {a : Addr} (h : DRd K F H t a kvs) (s : Same F F') : DRd K F' H t a kvs := by
  cases t with
  | false => obtain ⟨es, e, d⟩ := h; exact ⟨es, e, d.same s⟩
  | true => obtain ⟨es, e, d⟩ := h; exact ⟨es, e, d.same s⟩
/-- a value that is a dict of a kind is locked -/
theorem Dp.lk {v : V} (d : Dp K F v (.dict kvs)) (hk : kindOf kvs = some t) : ∃ a, v = .ref a ∧ DLk K F t a kvs := by
  obtain ⟨a, rfl, hd⟩ := Dp.inv_dictQ d (fun _ z => by subst z; cases hk)
  refine ⟨a, rfl, ?_⟩
  rcases hd with ⟨o, es, e, r⟩ | ⟨o, e1, es, e, r⟩ | ⟨i1, i2, e, _⟩ | ⟨q1, vs1, ps1, e, _⟩
  · cases r with
    | nil => cases hk; exact ⟨o, _, e, .nil⟩
    | cons d1 r1 =>
      have : t = false := by
        unfold kindOf at hk
        split at hk
        · cases hk
        · cases hk; rfl
        · rename_i h; cases h
        · rename_i h; cases h
        · cases hk
      subst this
      exact ⟨o, _, e, .cons d1 r1⟩
  · cases r with
    | cons d1 r1 => cases hk; exact ⟨o, _, e, .cons d1 r1⟩
  · subst e
    cases hk
  · subst e
    cases hk
theorem slotD_at (R : Rs K B F H σ ρ) (h : slotD i ρ = some (t, kvs)) : ∃ a, σ[i]? = some (some (.ref a)) ∧ DRd K F H t a kvs := by
  unfold slotD at h
  split at h
  · rename_i t' kvs' hs
    cases h
    have q := R.at_ i _ hs
    generalize hσ : σ[i]? = x at q
    cases q with
    | od f h0 h1 => exact ⟨_, rfl, h1.rd⟩
  · rename_i kvs' hs
    obtain ⟨t', e1, e2⟩ := Option.map_eq_some_iff.mp h
    cases e2
    have q := R.at_ i _ hs
    generalize hσ : σ[i]? = x at q
    cases q with
    | v d =>
      obtain ⟨a, rfl, hd⟩ := Dp.lk d e1
      exact ⟨a, rfl, hd.rd R.sub⟩
  · cases h
theorem ownD_at (R : Rs K B F H σ ρ) (h : ρ[i]? = some (.od t kvs)) : ∃ a, σ[i]? = some (some (.ref a)) ∧ DAt K F H t a kvs := by
  have q := R.at_ i _ h
  generalize hσ : σ[i]? = x at q
  cases q with
  | od f h0 h1 => exact ⟨_, rfl, h1⟩
theorem map_kV (ns : List Int) : (ns.map (Sum.inl (β := Str))).map kV = ns.map V.int := by rw [List.map_map]; rfl
theorem key_at {y : V} {k : D} (d : Dp K F y k) (hk : kindOk true k = true) : ∃ (ns : List Int) (b : Addr), k = .tuple (ns.map .int) ∧ y = .ref b ∧ F b = some (.tup ((ns.map (Sum.inl (β := Str))).map kV)) := by
  unfold kindOk at hk
  split at hk
  · rename_i h; cases h
  · rename_i xs h
    obtain ⟨ns, e⟩ := Option.isSome_iff_exists.mp hk
    have e' := intsD_some e
    subst e'
    obtain ⟨b, vs, rfl, s, r⟩ := Dp.inv_tupX d fun z hz => by
      obtain ⟨n, _, e⟩ := List.mem_map.mp hz
      cases e
    rw [dpAll_ints ns r, ← map_kV] at s
    exact ⟨ns, b, rfl, rfl, s⟩
  · cases hk
theorem dput_at {a : Addr} {y v : V} {k p : D} (h : DAt K F H t a kvs) (d : Dp K F y k) (dv : Dp K F v p) (s : Same F H) (hk : kindOk t k = true) (hl : kvs.length < sizeLine) : ∃ o, DPut H a y v (upd H a o) ∧ Holds K F o (.od t (putD kvs k p)) := by
  cases t with
  | false =>
    obtain ⟨es, e, r⟩ := h
    unfold kindOk at hk
    split at hk
    · rename_i n _
      cases (Dp.inv_int d)
      exact ⟨_, DPut.k (k := .inl n) e (by rw [r.len]; exact hl), _, rfl, r.put n dv⟩
    · rename_i h' ; cases h'
    · cases hk
  | true =>
    obtain ⟨es, e, r⟩ := h
    obtain ⟨ns, b, rfl, rfl, hb⟩ := key_at d hk
    exact ⟨_, DPut.t e (s _ _ hb) (by rw [r.len]; exact hl), _, rfl, r.put ns dv⟩
end
end L2.P


set_option Elab.async false
set_option linter.all false
set_option maxRecDepth 100000
set_option maxHeartbeats 4000000
namespace L2.P
open PySem PySem.Spec PyProof.Rows L2
section
variable {X : Cx} {k v e : Expr} {pos : Pos} {i : Nat} {x : Str} {px : Pos}
theorem nd_nilT : NDF X (.Dict [] [] pos) true (fun _ => some []) := ⟨fW_mono, pe_dnewT.imp fun σ H Q ⟨B, F, ρ, R, z, e, q⟩ p hp => by
  cases e
  exact q F H p _ R (Same.refl _) hp ⟨_, rfl, .nil⟩⟩
def wSetD (i : Nat) (t : Bool) (T : Rho → (List (D × D) → Prop) → Prop) : TSt := fun ρ K => T ρ fun p => K (.nx (ρ.set i (.od t p)))
def sSetD (i : Nat) (t : Bool) (f : Rho → Option (List (D × D))) : Rho → Option Fl := fun ρ => (f ρ).map fun p => .nx (ρ.set i (.od t p))
theorem sw_setD {t : Bool} {T : Rho → (List (D × D) → Prop) → Prop} {p' : Pos} (hN : X.N.Nodup) (hi : X.N[i]? = some x) (hx : Loc X.env.scope x) (h : ND X e t T) (hs : swapsWith e (some (.Name x p')) pos.line X.env = pure false := by rfl)
    (hf : X.fn x = true ∨ X.env.scope.names.lookup x = some .local := by first | exact .inl rfl | exact .inr rfl | assumption) : SW X (.Assign [.Name x p'] e pos) (wSetD i t T) :=
  ⟨fun ρ K K' k q => h.mono _ _ _ (fun p => k _) q, (ps_set hN hi hx h.pe hs hf).imp fun En σ H ⟨B, F, ρ, R, q⟩ => ⟨B, F, ρ, R, h.mono _ _ _ (fun p k F' H' a o R' s n hh => k F' _ _ (R'.putG n hh) s) q⟩⟩
theorem sf_setD {t : Bool} {f : Rho → Option (List (D × D))} {p' : Pos} (hN : X.N.Nodup) (hi : X.N[i]? = some x) (hx : Loc X.env.scope x) (h : NDF X e t f) (hs : swapsWith e (some (.Name x p')) pos.line X.env = pure false := by rfl)
    (hf : X.fn x = true ∨ X.env.scope.names.lookup x = some .local := by first | exact .inl rfl | exact .inr rfl | assumption) : SF X (.Assign [.Name x p'] e pos) (sSetD i t f) := (sw_setD hN hi hx h hs hf).imp fW_mono fun ρ K ⟨p, e, k⟩ => by
  obtain ⟨q, e1, rfl⟩ := Option.map_eq_some_iff.mp e
  exact ⟨q, e1, k⟩
def wPutD (i : Nat) (T U : TW) : TSt := fun ρ K => T ρ fun p => ∃ t kvs, ρ[i]? = some (.od t kvs) ∧ U ρ fun k => kindOk t k = true ∧ kvs.length < sizeLine ∧ K (.nx (ρ.set i (.od t (putD kvs k p))))
theorem sw_putD {T U : TW} {p1 p2 : Pos} (hu : Rm X) (hN : X.N[i]? = some x) (hv : Vis X.env.scope x) (h : EW X v T) (hk : EW X k U) (hs : swapsWith v (some (.Subscript (.Name x p1) k p2)) pos.line X.env = pure false := by rfl) (hd : (x == ("__debug__" : Str)) = false := by decide) (hcd : (x == ("__classdict__" : Str)) = false := by decide) : SW X (.Assign [.Subscript (.Name x p1) k p2] v pos) (wPutD i T U) :=
  ⟨fun ρ K K' kk q => h.mono _ _ _ (fun p ⟨t, kvs, a, z⟩ => ⟨t, kvs, a, hk.mono _ _ _ (fun y ⟨b, c, d⟩ => ⟨b, c, kk _ d⟩) z⟩) q, (ps_dput (by unfold Rm at hu; omega) (pe_var hN hv hd hcd) hk.pe h.pe hs).imp fun En σ H ⟨B, F, ρ, R, q⟩ => ⟨B, F, ρ, R, h.mono _ _ _ (fun p ⟨t, kvs, e0, kp⟩ F1 H1 u R1 s1 d1 => by
    obtain ⟨a, o, hσ, _⟩ := R1.ownG e0 rfl (fun z => by cases z)
    refine ⟨.ref a, hσ, B, F1, ρ, R1, hk.mono _ _ _ (fun y ⟨hkind, hl, kk⟩ F2 H2 w R2 s2 d2 => ?_) kp⟩
    obtain ⟨c, hσ2, hdat⟩ := ownD_at (i := i) R2 e0
    rw [hσ] at hσ2; cases hσ2
    obtain ⟨o', hput, hold⟩ := dput_at hdat d2 (d1.same s2) R2.sub hkind hl
    exact ⟨a, _, rfl, hput, kk F2 _ σ (R2.setG e0 rfl (fun z => by cases z) hσ hold) (s1.trans s2)⟩) q⟩⟩
/-- tuples that stand are frozen -/
theorem Rs.frzT {K : Fg} {B : Bs} {F H : Hp} {σ : St} {ρ : Rho} {b : Addr} {xs : List V} (R : Rs K B F H σ ρ) (h : H b = some (.tup xs)) : ∃ F', Rs K B F' H σ ρ ∧ Same F F' ∧ F' b = some (.tup xs) := by
  cases hF : F b with
  | some o =>
    have := R.sub _ _ hF
    rw [h] at this
    exact ⟨F, R, Same.refl _, by rw [hF]; exact this.symm⟩
  | none =>
    have s : Same F (upd F b (.tup xs)) := same_upd hF
    refine ⟨upd F b (.tup xs), ⟨fun c x e => ?_, fun c x e => s c x (R.ext c x e), fun c h2 h3 => ?_, R.old, fun r hr => ?_, R.hr2, R.len, fun j t ht => ?_, R.apart, R.tb.frz h (not_te rfl), R.tbh⟩, s, upd_same⟩
    · by_cases q : c = b
      · subst q; rw [upd_same] at e; rw [h]; exact e
      · rw [upd_ne q] at e; exact R.sub c x e
    · by_cases q : c = b
      · subst q; exact R.fz (.inr ⟨xs, h⟩)
      · rw [upd_ne q] at h3; exact R.new c h2 h3
    · obtain ⟨g1, g2⟩ := R.hrow r hr
      obtain ⟨u, hu, nt⟩ := g2.thereN
      have ne : r ≠ b := fun e => by subst e; rw [h] at hu; exact nt xs (Option.some.inj hu).symm
      exact ⟨by rw [upd_ne ne]; exact g1, g2.mono s fun o e => e⟩
    · exact (R.at_ j t ht).mono s (fun a f ⟨o, q, nt⟩ => by
        have ne : a ≠ b := fun e => by subst e; rw [h] at q; exact nt xs (Option.some.inj q).symm
        rw [upd_ne ne]; exact f) (fun a o f q => q)
theorem Rs.frzKs {K : Fg} {B : Bs} {H : Hp} {σ : St} {ρ : Rho} : ∀ {F : Hp} {es : List (List Key × V)} {kvs : List (D × D)} {bs : List Addr}, Rs K B F H σ ρ → DtAll K F es kvs → IsKeys H es bs → ∃ F', Rs K B F' H σ ρ ∧ Same F F' ∧ DpAll K F' (bs.map V.ref) (kvs.map (·.1))
  | F, _, _, _, R, .nil, .nil => ⟨F, R, Same.refl _, .nil⟩
  | F, _, _, _, R, .cons (ks := ks) (es := es) d r, .cons (b := b) hb hr => by
    obtain ⟨F1, R1, s1, h1⟩ := R.frzT hb
    obtain ⟨F2, R2, s2, h2⟩ := Rs.frzKs R1 (r.same s1) hr
    refine ⟨F2, R2, s1.trans s2, .cons (.tup (s2 _ _ h1) ?_) h2⟩
    rw [map_kV]
    exact dpAll_of_ints ks
end
end L2.P


set_option Elab.async false
set_option linter.all false
set_option maxRecDepth 100000
set_option maxHeartbeats 4000000
namespace L2.P
open PySem PySem.Spec PyProof.Rows L2
section
variable {X : Cx} {e : Expr} {pos : Pos} {i : Nat} {x : Str} {px p : Pos}
def nKeysS (i : Nat) : Rho → Option (List D) := fun ρ => (slotD i ρ).map fun d => d.2.map (·.1)
theorem dkeys {K : Fg} {F : Hp} : ∀ {es : List (Key × V)} {kvs : List (D × D)}, DkAll K F es kvs → DpAll K F (es.map fun kv => kV kv.1) (kvs.map (·.1))
  | _, _, .nil => .nil
  | _, _, .cons (k := k) d r => .cons (.int k) (dkeys r)
theorem nf_keysD (bi : Bi X.mg) (hN : X.N[i]? = some x) (hv : Vis X.env.scope x) (hc : X.calm = true := by rfl) (hg : Gl X "list" := by rfl) (he : starEach [.Name x px] X.env = (false, eval (.Name x px) X.env) :: starEach [] X.env := by rfl) (hd : (x == ("__debug__" : Str)) = false := by decide) (hcd : (x == ("__classdict__" : Str)) = false := by decide) : NF X (.Call (.Name "list" p) [.Name x px] [] pos) (nKeysS i) :=
  ⟨fW_mono, (pe_callTy (CallR.or (call_listD hc) (call_list_dT hc)) hg bi.list bt_list (pa_cons (pe_var hN hv hd hcd) pa_nil he) (he := he) (hpl := rfl)).imp fun σ H Q ⟨B, F, ρ, R, z, e, q⟩ => by
    obtain ⟨⟨t, kvs⟩, e2, rfl⟩ := Option.map_eq_some_iff.mp e
    obtain ⟨c, hσ, hdat⟩ := slotD_at R e2
    refine ⟨.ref c, hσ, ?_⟩
    cases t with
    | false =>
      obtain ⟨es, he, r⟩ := hdat
      exact .inl ⟨c, es, rfl, he, fun l hl => q F H l _ R (Same.refl _) hl (dkeys r)⟩
    | true =>
      obtain ⟨es, he, r⟩ := hdat
      refine .inr ⟨c, es, rfl, he, fun l bs hl hk => ?_⟩
      obtain ⟨F', R', s', d'⟩ := R.frzKs r hk
      exact q F' H l _ R' s' hl d'⟩
end
end L2.P
namespace L2.P
open PySem PySem.Spec PyProof.Rows L2
section
variable {X : Cx} {k : Expr} {pos : Pos} {i : Nat} {x : Str} {px : Pos}
end
end L2.P


set_option Elab.async false
set_option linter.all false
set_option maxRecDepth 100000
set_option maxHeartbeats 4000000
namespace L2.P
open PySem PySem.Spec PyProof.Rows L2
section
variable {X : Cx} {a b e : Expr} {pos : Pos}
end
theorem kind_R (r : List Int) : kindOk true (tR r) = true := by
  show (intsD (r.map PyData.int)).isSome = true
  rw [intsD_map]; rfl
theorem le_tR : PySem.W.dataLe false tR = fun p q : List Int => decide (p ≤ q) := by
  have e : PySem.W.dataLe false tR = PySem.W.dataLe false (fun r : List Int => PyData.list (r.map .int)) := by
    funext p q
    unfold PySem.W.dataLe PySem.W.sortLe
    simp only [PySem.W.keyToks]
  rw [e]
  exact PySem.W.dataLe_rows id
theorem sortR_pw (rs : List (List Int)) : (sortR rs).Pairwise (· ≤ ·) := by
  have := List.pairwise_mergeSort (le := PySem.W.dataLe false tR) (fun a b c h1 h2 => by
    rw [le_tR] at *
    simp only [decide_eq_true_eq] at *
    exact List.le_trans h1 h2) (fun a b => by
    rw [le_tR]
    simp only [Bool.or_eq_true, decide_eq_true_eq]
    exact List.le_total a b) rs
  unfold sortR
  refine this.imp fun {a b} h => ?_
  rw [le_tR] at h
  simpa using h
theorem sortR_uniq {xs ys : List (List Int)} (hp : xs.Perm ys) (h : ys.Pairwise (· ≤ ·)) : sortR xs = ys :=
  ((sortR_perm xs).trans hp).eq_of_pairwise (fun a b _ _ h1 h2 => List.le_antisymm h1 h2) (sortR_pw xs) h
theorem sortR_congr {xs ys : List (List Int)} (hp : xs.Perm ys) : sortR xs = sortR ys := sortR_uniq (hp.trans (sortR_perm ys).symm) (sortR_pw ys)
end L2.P


set_option Elab.async false
set_option linter.all false
set_option maxRecDepth 100000
set_option maxHeartbeats 4000000
namespace L2.P
open PySem PySem.Spec PyProof.Rows L2
/-- s is reached from st by calls -/
def Rch (w : List (List Int)) (st s : List Int) : Prop := ∃ cs : List Int, s = cs.foldl (callM w) st
theorem Rch.refl (w : List (List Int)) (st : List Int) : Rch w st st := ⟨[], rfl⟩
theorem Rch.step {w : List (List Int)} {st s : List Int} (h : Rch w st s) (p : Int) : Rch w st (callM w s p) := by
  obtain ⟨cs, rfl⟩ := h
  exact ⟨cs ++ [p], by rw [List.foldl_append]; rfl⟩
theorem fold_sublist {w : List (List Int)} : ∀ (cs st : List Int), (cs.foldl (callM w) st).Sublist st
  | [], st => List.Sublist.refl _
  | c :: cs, st => (fold_sublist cs (callM w st c)).trans (callM_sub w st c)
theorem Rch.sub {w : List (List Int)} {st s : List Int} (h : Rch w st s) : s.Sublist st := by
  obtain ⟨cs, rfl⟩ := h
  exact fold_sublist cs st
theorem Rch.ppl {w : List (List Int)} {st s : List Int} {n : Nat} (h : Rch w st s) (hs : Ppl n st) : Ppl n s := hs.sub h.sub
theorem call_not {w : List (List Int)} {st : List Int} {p : Int} (h : p ∉ st) : callM w st p = st := by unfold callM; rw [if_neg h]
/-- all that s brings at once is in ks -/
def Cl (w : List (List Int)) (ks : List (List Int)) (s : List Int) : Prop := ∀ p ∈ moversM w s, callM w s p ∈ ks
theorem Cl.mono {w : List (List Int)} {ks ks' : List (List Int)} {s : List Int} (h : Cl w ks s) (hk : ∀ x ∈ ks, x ∈ ks') : Cl w ks' s := fun p hp => hk _ (h p hp)
theorem mem_movers {w : List (List Int)} {s : List Int} {p : Int} : p ∈ moversM w s ↔ p ∈ s ∧ callM w s p ≠ s := by
  unfold moversM
  rw [List.mem_filter]
  exact ⟨fun ⟨a, b⟩ => ⟨a, (movers_iff a).mpr b⟩, fun ⟨a, b⟩ => ⟨a, (movers_iff a).mp b⟩⟩
theorem closed_rch {w : List (List Int)} {ks : List (List Int)} {st : List Int} (h0 : st ∈ ks) (h : ∀ s ∈ ks, Cl w ks s) : ∀ s, Rch w st s → s ∈ ks := by
  rintro s ⟨cs, rfl⟩
  revert cs
  refine snoc_ind (by exact h0) fun cs c ih => ?_
  rw [List.foldl_append]
  show callM w (cs.foldl (callM w) st) c ∈ ks
  by_cases e : callM w (cs.foldl (callM w) st) c = cs.foldl (callM w) st
  · rw [e]; exact ih
  · refine h _ ih c (mem_movers.mpr ⟨?_, e⟩)
    apply Classical.byContradiction
    intro hn
    exact e (call_not hn)
theorem call_len {w : List (List Int)} {s : List Int} {p : Int} (h : p ∈ moversM w s) : (callM w s p).length < s.length := by
  have h1 := (mem_movers.mp h).2
  have h2 := callM_sub w s p
  rcases Nat.lt_or_ge (callM w s p).length s.length with h | h
  · exact h
  · exact absurd (h2.eq_of_length_le h) h1
theorem nodup_len {α : Type} [DecidableEq α] : ∀ {ks ls : List α}, ks.Nodup → (∀ x ∈ ks, x ∈ ls) → ks.length ≤ ls.length
  | [], _, _, _ => Nat.zero_le _
  | k :: ks, ls, hn, hs => by
    obtain ⟨h1, h2⟩ := List.nodup_cons.mp hn
    have hk := hs k List.mem_cons_self
    have := nodup_len (ks := ks) (ls := ls.erase k) h2 fun x hx => (List.mem_erase_of_ne (by rintro rfl; exact h1 hx)).mpr (hs x (List.mem_cons_of_mem _ hx))
    rw [List.length_erase_of_mem hk] at this
    have hp : 0 < ls.length := List.length_pos_of_mem hk
    rw [List.length_cons]
    omega
/-- in the midst of a round of a search: j states of last are done -/
structure Mid (w : List (List Int)) (st : List Int) (c : Nat) (last : List (List Int)) (j : Nat) (ks fresh : List (List Int)) : Prop where
  nd : ks.Nodup
  rch : ∀ s ∈ ks, Rch w st s
  beg : st ∈ ks
  fk : ∀ s ∈ fresh, s ∈ ks
  lk : ∀ s ∈ last, s ∈ ks
  cl : ∀ s ∈ ks, s ∉ fresh → s ∉ last ∨ s ∈ last.take j → Cl w ks s
  szl : ∀ s ∈ last, s.length + c ≤ st.length
  sz : ∀ s ∈ fresh, s.length + (c + 1) ≤ st.length
  fl : fresh.length ≤ ks.length
theorem Mid.len {w : List (List Int)} {st : List Int} {c : Nat} {last : List (List Int)} {j : Nat} {ks fresh : List (List Int)} (M : Mid w st c last j ks fresh) : ks.length ≤ 2 ^ st.length := by
  rw [← chM_len]
  exact nodup_len M.nd fun s hs => mem_chM.mpr (M.rch s hs).sub
/-- .. m of here's movers, too -/
structure Mid2 (w : List (List Int)) (st : List Int) (c : Nat) (last : List (List Int)) (j : Nat) (here : List Int) (m : Nat) (ks fresh : List (List Int)) : Prop extends Mid w st c last j ks fresh where
  mv : ∀ q ∈ (moversM w here).take m, callM w here q ∈ ks
theorem Mid.start {w : List (List Int)} {st : List Int} {c : Nat} {last : List (List Int)} {j : Nat} {ks fresh : List (List Int)} (M : Mid w st c last j ks fresh) (here : List Int) : Mid2 w st c last j here 0 ks fresh := ⟨M, fun q hq => by cases hq⟩
theorem Mid2.done {w : List (List Int)} {st : List Int} {c : Nat} {last : List (List Int)} {j : Nat} {here : List Int} {ks fresh : List (List Int)} (M : Mid2 w st c last j here (moversM w here).length ks fresh) (hj : last[j]? = some here) : Mid w st c last (j + 1) ks fresh := by
  refine ⟨M.nd, M.rch, M.beg, M.fk, M.lk, fun s hs hf ho => ?_, M.szl, M.sz, M.fl⟩
  rcases ho with ho | ho
  · exact M.cl s hs hf (.inl ho)
  · rw [List.take_add_one, hj] at ho
    rcases List.mem_append.mp ho with ho | ho
    · exact M.cl s hs hf (.inr ho)
    · have : s = here := by simpa using ho
      subst this
      intro q hq
      refine M.mv q ?_
      rw [List.take_length]
      exact hq
theorem Mid2.old {w : List (List Int)} {st : List Int} {c : Nat} {last : List (List Int)} {j m : Nat} {here : List Int} {q : Int} {ks fresh : List (List Int)} (M : Mid2 w st c last j here m ks fresh) (hq : (moversM w here)[m]? = some q) (hin : callM w here q ∈ ks) : Mid2 w st c last j here (m + 1) ks fresh := by
  refine ⟨M.toMid, fun r hr => ?_⟩
  rw [List.take_add_one, hq] at hr
  rcases List.mem_append.mp hr with hr | hr
  · exact M.mv r hr
  · have : r = q := by simpa using hr
    subst this; exact hin
theorem Mid2.new {w : List (List Int)} {st : List Int} {c : Nat} {last : List (List Int)} {j m : Nat} {here : List Int} {q : Int} {ks fresh : List (List Int)} (M : Mid2 w st c last j here m ks fresh) (hq : (moversM w here)[m]? = some q) (hh : here ∈ last) (hin : callM w here q ∉ ks) : Mid2 w st c last j here (m + 1) (ks ++ [callM w here q]) (fresh ++ [callM w here q]) := by
  have up : ∀ x ∈ ks, x ∈ ks ++ [callM w here q] := fun x hx => List.mem_append_left _ hx
  have hqm := List.mem_of_getElem? hq
  refine ⟨⟨?_, fun s hs => ?_, up _ M.beg, fun s hs => ?_, fun s hs => up _ (M.lk s hs), fun s hs hf ho => ?_, M.szl, fun s hs => ?_, ?_⟩, fun r hr => ?_⟩
  · rw [List.nodup_append]
    refine ⟨M.nd, by simp, fun a ha b hb e => ?_⟩
    rw [List.mem_singleton] at hb
    subst hb; subst e
    exact hin ha
  · rcases List.mem_append.mp hs with hs | hs
    · exact M.rch s hs
    · rw [List.mem_singleton] at hs
      subst hs
      exact (M.rch here (M.lk here hh)).step q
  · rcases List.mem_append.mp hs with hs | hs
    · exact up _ (M.fk s hs)
    · exact List.mem_append_right _ hs
  · have hf' : s ∉ fresh := fun z => hf (List.mem_append_left _ z)
    rcases List.mem_append.mp hs with hs | hs
    · exact (M.cl s hs hf' ho).mono up
    · exact absurd (List.mem_append_right _ hs) hf
  · rcases List.mem_append.mp hs with hs | hs
    · exact M.sz s hs
    · rw [List.mem_singleton] at hs
      subst hs
      have a := call_len hqm
      have b := M.szl here hh
      omega
  · rw [List.length_append, List.length_append]
    have := M.fl
    simp only [List.length_singleton]; omega
  · rw [List.take_add_one, hq] at hr
    rcases List.mem_append.mp hr with hr | hr
    · exact up _ (M.mv r hr)
    · have : r = q := by simpa using hr
      subst this
      exact List.mem_append_right _ (List.mem_singleton.mpr rfl)
/-- ahead of a round -/
structure Rnd (w : List (List Int)) (st : List Int) (c : Nat) (ks last : List (List Int)) : Prop where
  nd : ks.Nodup
  rch : ∀ s ∈ ks, Rch w st s
  beg : st ∈ ks
  lk : ∀ s ∈ last, s ∈ ks
  cl : ∀ s ∈ ks, s ∉ last → Cl w ks s
  sz : ∀ s ∈ last, s.length + c ≤ st.length
  ll : last.length ≤ ks.length
theorem Rnd.start (w : List (List Int)) (st : List Int) : Rnd w st 0 [st] [st] :=
  ⟨by simp, fun s hs => by rw [List.mem_singleton] at hs; subst hs; exact Rch.refl _ _, List.mem_singleton.mpr rfl, fun s hs => hs, fun s hs hn => absurd hs hn, fun s hs => by rw [List.mem_singleton] at hs; subst hs; omega, Nat.le_refl _⟩
theorem Rnd.mid {w : List (List Int)} {st : List Int} {c : Nat} {ks last : List (List Int)} (R : Rnd w st c ks last) : Mid w st c last 0 ks [] := by
  refine ⟨R.nd, R.rch, R.beg, fun s hs => (by cases hs), R.lk, fun s hs _ ho => ?_, R.sz, fun s hs => (by cases hs), Nat.zero_le _⟩
  rcases ho with ho | ho
  · exact R.cl s hs ho
  · cases ho
theorem Rnd.full {w : List (List Int)} {st : List Int} {c : Nat} {ks : List (List Int)} (R : Rnd w st c ks []) (s : List Int) : s ∈ ks ↔ Rch w st s :=
  ⟨R.rch s, closed_rch R.beg (fun s hs => R.cl s hs (by simp)) s⟩
theorem Rnd.len {w : List (List Int)} {st : List Int} {c : Nat} {ks last : List (List Int)} (R : Rnd w st c ks last) : ks.length ≤ 2 ^ st.length := R.mid.len
theorem neT (r s : List Int) : dNe (tR r) (tR s) = some (.bool (!decide (r = s))) := encInt.tup.ne r s
end L2.P


set_option Elab.async false
set_option linter.all false
set_option maxRecDepth 100000
set_option maxHeartbeats 4000000
namespace L2.P
open PySem PySem.Spec PyProof.Rows L2
/-- the order of pairs -/
def LtP (a b : Int × List Int) : Prop := a.1 < b.1 ∨ (a.1 = b.1 ∧ a.2 < b.2)
theorem LtP.trans {a b c : Int × List Int} (h1 : LtP a b) (h2 : LtP b c) : LtP a c := by
  rcases h1 with h1 | ⟨h1, h1'⟩ <;> rcases h2 with h2 | ⟨h2, h2'⟩
  · exact .inl (by omega)
  · exact .inl (by omega)
  · exact .inl (by omega)
  · exact .inr ⟨by omega, List.lt_trans h1' h2'⟩
theorem max_ints {ns : List Int} (hne : ns ≠ []) : ∃ M ∈ ns, gMax [.list (ns.map .int)] = some (.int M) ∧ ∀ n ∈ ns, n ≤ M := by
  cases ns with
  | nil => exact absurd rfl hne
  | cons n ns =>
    have key : ∀ (ns : List Int) (n : Int), ns.foldl max n ∈ n :: ns ∧ ∀ k ∈ n :: ns, k ≤ ns.foldl max n := fun ns => by
      induction ns with
      | nil => intro n; simp
      | cons k ns ih =>
        intro n
        obtain ⟨a, b⟩ := ih (max n k)
        rw [List.foldl_cons]
        refine ⟨?_, fun x hx => ?_⟩
        · rcases List.mem_cons.mp a with e | a
          · rw [e]
            by_cases c : n ≤ k
            · rw [Int.max_eq_right c]; simp
            · rw [Int.max_eq_left (by omega)]; simp
          · exact List.mem_cons_of_mem _ (List.mem_cons_of_mem _ a)
        · have b0 := b (max n k) List.mem_cons_self
          rcases List.mem_cons.mp hx with rfl | hx
          · omega
          · rcases List.mem_cons.mp hx with rfl | hx
            · omega
            · exact b x (List.mem_cons_of_mem _ hx)
    obtain ⟨a, b⟩ := key ns n
    refine ⟨_, a, ?_, b⟩
    show (if okM _ = true then some (PySem.W.maxD _ _) else none) = _
    have ok := okM_I (n :: ns)
    rw [List.map_cons] at ok
    rw [if_pos (by exact ok), PySem.W.maxD_ints]
end L2.P


set_option Elab.async false
set_option linter.all false
set_option maxRecDepth 100000
set_option maxHeartbeats 4000000
namespace L2.P
open PySem PySem.Spec PyProof.Rows L2
theorem al_RsT {n : Nat} (rs : List (List Int)) (h : rs.length ≤ 1000) (hr : ∀ r ∈ rs, r.length ≤ 1000) : Al (n + 3) (.tuple (rs.map tR)) := .tup (by rw [List.length_map]; omega) fun x hx => by
  obtain ⟨r, hr', rfl⟩ := List.mem_map.mp hx
  exact al_R _ (by have := hr r hr'; omega)
theorem Ppl.row {n : Nat} {st : List Int} (h : Ppl n st) : Row n st := fun k hk => h.inn k hk
theorem sub_ppl {n : Nat} {st r : List Int} (hs : Ppl n st) : r.Sublist st ↔ Ppl n r ∧ ∀ k ∈ r, k ∈ st :=
  ⟨fun h => ⟨hs.sub h, fun k hk => h.subset hk⟩, fun h => sub_of_mem h.1.up hs.up h.2⟩
section
variable {κ β : Type} [DecidableEq κ]
def encK (ek : κ → D) (ev : β → D) (e : κ × β) : D × D := (ek e.1, ev e.2)
def EqK (ek : κ → D) : Prop := ∀ a b, PyData.eqv (ek a) (ek b) = decide (a = b)
theorem eqK_R : EqK tR := fun a b => eqv_ints a b
def putM (kvs : List (κ × β)) (k : κ) (b : β) : List (κ × β) := if k ∈ kvs.map (·.1) then kvs.map (fun e => if e.1 = k then (e.1, b) else e) else kvs ++ [(k, b)]
def getM (kvs : List (κ × β)) (k : κ) : Option β := (kvs.find? fun e => decide (e.1 = k)).map (·.2)
theorem keys_putM {kvs : List (κ × β)} {k : κ} {b : β} : (putM kvs k b).map (·.1) = if k ∈ kvs.map (·.1) then kvs.map (·.1) else kvs.map (·.1) ++ [k] := by
  unfold putM
  split
  · rw [List.map_map]
    refine List.map_congr_left fun e he => ?_
    show (if e.1 = k then (e.1, b) else e).1 = e.1
    split <;> rfl
  · rw [List.map_append]; rfl
theorem getM_isSome {kvs : List (κ × β)} {k : κ} : (getM kvs k).isSome = decide (k ∈ kvs.map (·.1)) := by
  unfold getM
  rw [Option.isSome_map, Bool.eq_iff_iff, List.find?_isSome]
  simp
theorem putK {ek : κ → D} (he : EqK ek) (ev : β → D) (k : κ) (b : β) (kvs : List (κ × β)) : putD (kvs.map (encK ek ev)) (ek k) (ev b) = (putM kvs k b).map (encK ek ev) := by
  unfold putD putM
  have hc : ((kvs.map (encK ek ev)).any fun e => PyData.eqv e.1 (ek k)) = decide (k ∈ kvs.map (·.1)) := by
    rw [List.any_map, Bool.eq_iff_iff, List.any_eq_true]
    simp only [decide_eq_true_eq, List.mem_map]
    constructor
    · rintro ⟨e, h1, h2⟩
      refine ⟨e, h1, ?_⟩
      have : PyData.eqv (ek e.1) (ek k) = true := h2
      rw [he] at this
      exact of_decide_eq_true this
    · rintro ⟨e, h1, rfl⟩
      exact ⟨e, h1, (he _ _).trans (by simp)⟩
  rw [hc]
  by_cases h : k ∈ kvs.map (·.1)
  · rw [if_pos (by simpa using h), if_pos h, List.map_map, List.map_map]
    refine List.map_congr_left fun e _ => ?_
    show (if PyData.eqv (ek e.1) (ek k) = true then (ek e.1, ev b) else (ek e.1, ev e.2)) = encK ek ev (if e.1 = k then (e.1, b) else e)
    rw [he]
    by_cases h2 : e.1 = k
    · rw [if_pos (by simpa using h2), if_pos h2]; rfl
    · rw [if_neg (by simpa using h2), if_neg h2]; rfl
  · rw [if_neg (by simpa using h), if_neg h, List.map_append]; rfl
theorem keysK (ek : κ → D) (ev : β → D) (kvs : List (κ × β)) : (kvs.map (encK ek ev)).map (·.1) = (kvs.map (·.1)).map ek := by rw [List.map_map, List.map_map]; rfl
theorem putM_nodup {kvs : List (κ × β)} {k : κ} {b : β} (h : (kvs.map (·.1)).Nodup) : ((putM kvs k b).map (·.1)).Nodup := by
  rw [keys_putM]
  split
  · exact h
  · rename_i hk
    exact List.nodup_append.mpr ⟨h, by simp, fun a ha b hb e => hk (by
      have : b = k := by simpa using hb
      rw [← this, ← e]; exact ha)⟩
theorem mem_keys_putM {kvs : List (κ × β)} {k s : κ} {b : β} : s ∈ (putM kvs k b).map (·.1) ↔ s ∈ kvs.map (·.1) ∨ s = k := by
  rw [keys_putM]
  split
  · rename_i h
    exact ⟨.inl, fun z => z.elim id fun e => e ▸ h⟩
  · rw [List.mem_append, List.mem_singleton]
theorem putM_len {kvs : List (κ × β)} {k : κ} {b : β} : (putM kvs k b).length ≤ kvs.length + 1 := by
  unfold putM
  split
  · rw [List.length_map]; omega
  · rw [List.length_append]; simp
theorem getM_put {kvs : List (κ × β)} {k s : κ} {b : β} : getM (putM kvs k b) s = if k = s then some b else getM kvs s := by
  unfold putM
  split
  · rename_i hk
    induction kvs with
    | nil => cases hk
    | cons e kvs ih =>
      rw [List.map_cons]
      unfold getM
      rw [List.find?_cons, List.find?_cons]
      by_cases h1 : e.1 = k
      · rw [if_pos h1]
        by_cases h2 : k = s
        · rw [if_pos h2]
          simp [h1, h2]
        · rw [if_neg h2]
          have h3 : ¬ e.1 = s := fun z => h2 (h1 ▸ z)
          simp only [decide_eq_false h3]
          by_cases h4 : k ∈ kvs.map (·.1)
          · have := ih h4
            rw [if_neg h2] at this
            exact this
          · have : kvs.map (fun e => if e.1 = k then (e.1, b) else e) = kvs := by
              rw [List.map_congr_left (g := id), List.map_id]
              intro x hx
              rw [if_neg fun z => h4 (List.mem_map.mpr ⟨x, hx, z⟩)]; rfl
            rw [this]
      · rw [if_neg h1]
        have h4 : k ∈ kvs.map (·.1) := by
          rw [List.map_cons] at hk
          rcases List.mem_cons.mp hk with z | z
          · exact absurd z.symm h1
          · exact z
        by_cases h3 : e.1 = s
        · have h2 : ¬ k = s := fun z => h1 (h3.trans z.symm)
          rw [if_neg h2]
          simp [h3]
        · simp only [decide_eq_false h3]
          exact ih h4
  · rename_i hk
    unfold getM
    rw [List.find?_append]
    by_cases h2 : k = s
    · subst h2
      rw [if_pos rfl]
      have : kvs.find? (fun e => decide (e.1 = k)) = none := by
        rw [List.find?_eq_none]
        intro x hx
        simp only [decide_eq_true_eq]
        intro z
        exact hk (List.mem_map.mpr ⟨x, hx, z⟩)
      rw [this]
      simp
    · rw [if_neg h2]
      simp [h2]
theorem getM_mem {kvs : List (κ × β)} {k : κ} {b : β} (h : getM kvs k = some b) : (k, b) ∈ kvs := by
  unfold getM at h
  obtain ⟨e, h1, rfl⟩ := Option.map_eq_some_iff.mp h
  have h2 := List.find?_some h1
  have : e.1 = k := of_decide_eq_true h2
  subst this
  exact List.mem_of_find?_eq_some h1
end
end L2.P


set_option Elab.async false
set_option linter.all false
set_option maxRecDepth 100000
set_option maxHeartbeats 4000000
namespace L2.P
open PySem PySem.Spec PyProof.Rows L2
theorem q_appf {α : Type} {tg : Tg} {u : Rho → Option (List D)} {t : Rho → Option Bool} {i : Nat} {e : Rho → Option D} {g : Rho → Option Fl} {ρ : Rho} {K : Fl → Prop} (st : List D → Option D → Rho) (xs : List α) (enc : α → D) (P : α → Bool) (E : α → D) (v0 : Option D)
    (hu : u ρ = some (xs.map enc)) (hρ : ρ = st [] v0) (hl : xs.length ≤ 1000)
    (hi : ∀ acc v, (st acc v)[i]? = some (.ol acc)) (hs : ∀ acc v acc', (st acc v).set i (.ol acc') = st acc' v)
    (h : ∀ (acc : List D) (v : Option D) (x : α), x ∈ xs → tg (enc x) (st acc v) = some (st acc (some (enc x))) ∧ t (st acc (some (enc x))) = some (P x) ∧ (P x = true → e (st acc (some (enc x))) = some (E x)))
    (k : ∀ v, fW g (st ((xs.filter P).map E) v) K) : fW (sSeq (sFor tg u (sIf t (sApp i e) sNil)) g) ρ K := by
  have hlen := List.length_filter_le P xs
  refine q_app st xs enc (fun x => if P x = true then [E x] else []) 1000 [] v0 hu hρ ?_ (fun acc v x hx hN => ?_) fun v => ?_
  · rw [flatMap_if, List.length_map]
    simp only [List.length_nil]; omega
  · obtain ⟨h1, h2, h3⟩ := h acc v x hx
    refine ⟨_, h1, s_if (P x) h2 (fun c => ?_) fun c => ?_⟩
    · rw [if_pos c] at hN ⊢
      refine s_app1 (E x) (hi _ _) (h3 c) (by have : acc.length + 1 ≤ 1000 := hN; rw [sizeLine_eq]; omega) ⟨some (enc x), by rw [hs]⟩
    · rw [if_neg (by rw [c]; simp)]
      exact s_nil ⟨some (enc x), by rw [List.append_nil]⟩
  · rw [flatMap_if]
    exact k v
end L2.P


set_option Elab.async false
set_option linter.all false
set_option maxRecDepth 100000
set_option maxHeartbeats 3200000
namespace L2.PS
open PySem PySem.Calls PySem.SeqAt PySem.W PyProof.Rows L2
section
variable {P : Program} {w : World} {A : Around} {E : Value → Shared → Prop} {s : Shared}
abbrev set0 (w : World) : Obj := { cls := .type "set", dict := none, data := .set #[] 0 (.fresh 0 0 (!w.params.followText "set-order")) }
theorem call_set_listR {l : Addr} {items : Array Value} (ns : List Int) {Q : Value → Shared → Prop} (hh : A.handled = none) (hl : s.heap.IsList l items) (hit : IntsAre items.toList ns) (hb : ns.length + 1 < scanBound)
    (h : ∀ (h' : Heap) (tk c : Nat), SetR w h' s.heap.objs.size (fun j => decide (j ∈ ns)) c → c ≤ ns.length → (∀ b o, s.heap.get? b = some o → h'.get? b = some o) → Q (.ref s.heap.objs.size) { s with heap := h', toks := tk }) :
    wpAny (model P w) A (call (.type "set") [.ref l]) Q E s := by
  have hlen : items.size = ns.length := by rw [← Array.length_toList]; exact IntsAre.length hit
  have hlS : l < s.heap.objs.size := by obtain ⟨o, ho, _⟩ := id hl; exact Heap.lt_size ho
  have hS : (s.heap.push (set0 w)).get? s.heap.objs.size = some (set0 w) := Heap.get?_push_size _ rfl
  have hsz : (s.heap.push (set0 w)).objs.size = s.heap.objs.size + 1 := Heap.size_push ..
  obtain ⟨c, tl, hmro⟩ := F.called_set.mro
  have hmade := F.called_set.made
  have hsub := F.called_set.sub
  have h1 := F.called_set.notType
  have h2 := F.called_set.canCreate
  have hct := F.typeCall_set_1 (.ref l)
  have hli := F.called_set.init.lookup
  have hbi := F.called_set.init.bind (.ref s.heap.objs.size)
  have hT : Shared.TypeIs { s with heap := s.heap.push (set0 w) } (.ref s.heap.objs.size) "set" := ⟨_, hS, rfl⟩
  refine wpAny_call (codeAny_of_tree ?_)
  show wpAny _ _ (callAny (.type "set") _) _ _ _
  refine wpAny_pure ⟨Code.quiet_builtin _ (by decide +kernel), codeAny_builtin F.entry_type_call ?_⟩
  rw [Around.under_plain (weight_type_call_type "set" [.ref l] []) rfl]
  repeat (any_goals (first | assumption | wp_step))
  refine codeAny_mono (code_set_led1 (.ref l) (E := E) (Q₁ := fun obj s₁ => obj = .ref s.heap.objs.size ∧ s₁ = { s with heap := s.heap.push (set0 w) }) ⟨rfl, rfl⟩) fun r s₁ hr => ?_
  cases r with
  | error e => exact hr
  | ok fl =>
    cases fl with
    | ret obj =>
      obtain ⟨rfl, rfl⟩ := hr
      repeat (any_goals (first | assumption | wp_step))
      refine codeAny_mono (codeAny_call_builtin (R := wants (fun r s₂ => r = .none ∧ ∃ h' tk c, s₂ = { s with heap := h', toks := tk } ∧ SetR w h' s.heap.objs.size (fun j => decide (j ∈ ns)) c ∧ c ≤ ns.length ∧ (∀ b o, s.heap.get? b = some o → h'.get? b = some o)) E) F.called_set.init.plain F.entry_set_init (check_set_init_1 hT ?_)) fun r₂ s₂ hr₂ => ?_
      · obtain ⟨⟨ocls, odict, odata, oslots⟩, hol, hcl, nl, hdl⟩ := id hl
        simp only at hcl hdl
        subst hcl hdl
        have hol' : (s.heap.push (set0 w)).get? l = some { cls := .type "list", dict := odict, data := .seq items nl, slots := oslots } := Heap.get?_push_of_some _ hol
        have hsls := F.sub_list_set
        have hslf := F.sub_list_frozenset
        have hne : (Value.type "list" == Value.type "dict") = false := by decide
        have hl1 : (s.heap.push (set0 w)).IsList l items := ⟨_, hol', rfl, nl, rfl⟩
        unfold Builtin.«set.__init__» noKeywords Builtin.Frozenset.updateFrom
        generalize hPI : pyIter = PI
        wp_walk
        subst hPI
        refine wpAny_pyIter_list hl1 (wpAny_bind (wpAny_runValue ?_))
        have hh3 : A.in1.in1.in1.handled = none := by simp [hh]
        have hneI : l ≠ (s.heap.push (set0 w)).objs.size := Nat.ne_of_lt (hsz ▸ Nat.lt_succ_of_lt hlS)
        have hval : ∀ (i : Nat) (v : Value), items[i]? = some v → ∃ k t, ns[i]? = some k ∧ v = .int k t := fun i v hv => by
          have hi : i < ns.length := by rw [← hlen]; exact (Array.getElem?_eq_some_iff.mp hv).1
          obtain ⟨t, e⟩ := IntsAre.int_at hit i v (by rw [Array.getElem?_toList]; exact hv)
          exact ⟨ns[i], t, List.getElem?_eq_getElem hi, by rw [e, List.getD_eq_getElem?_getD, List.getElem?_eq_getElem hi]; rfl⟩
        refine set_update_ints (Walks.list hh3 _ l hneI items).toS s.heap.objs.size (by simp only [List.mem_cons, List.not_mem_nil, or_false, not_or]; exact ⟨Nat.ne_of_lt (hsz ▸ Nat.lt_succ_self _), Nat.ne_of_gt hlS⟩) ns hlen hb hval (items.size - 0) 0 _ (by omega) (Nat.zero_le _) ⟨⟨_, Heap.get?_push_size _ rfl, rfl, rfl⟩, hl1.push _⟩
          ⟨0, Nat.le_refl 0, setR_new_at (Heap.get?_push_of_some _ hS)⟩ fun s' c' hm hc' hS' => ?_
        obtain ⟨h', g2, d', tk', os'⟩ := s'
        have eg : g2 = s.gens := hm.gens
        have ed : d' = s.drawn := hm.drawn
        have eo : os' = s.os := hm.os
        subst eg ed eo
        show wpAny _ _ _ _ _ _
        refine wpAny_pure ?_
        show wpAny _ _ (ret Value.none) _ _ _
        refine wpAny_pure ⟨rfl, h', tk', c', rfl, hS', by omega, fun b o e => ?_⟩
        have hb0 : b < s.heap.objs.size := Heap.lt_size e
        exact hm.heap b o (by simp only [List.mem_cons, List.not_mem_nil, or_false, not_or]; exact ⟨Nat.ne_of_lt hb0, Nat.ne_of_lt (hsz ▸ Nat.lt_succ_of_lt hb0)⟩) (Heap.get?_push_of_some _ (Heap.get?_push_of_some _ e))
      · cases r₂ with
        | error e => exact hr₂
        | ok fl₂ =>
          cases fl₂ with
          | ret r =>
            obtain ⟨rfl, h', tk, c', rfl, hS', hc', hk'⟩ := hr₂
            repeat (any_goals (first | assumption | wp_step))
            exact h _ _ _ hS' hc' hk'
          | _ => exact hr₂.elim
    | _ => exact hr.elim
end
end L2.PS
namespace L2.P
open PySem PySem.Spec PyProof.Rows L2
variable {X : Cx}
def rSetL (w : World) (K : Fg) : List V → Hp → VK → Prop := fun xs H Q => ∃ (a : Addr) (ns : List Int), xs = [.ref a] ∧ SqL K H a (ns.map V.int) ∧ ns.length ≤ 1000 ∧
  ∀ (p : Addr), H p = none → Q (.ref p) (upd H p (SetO w p (fun j => decide (j ∈ ns)) (sortD ns).length))
theorem setR_len {w : World} {h : Heap} {a : Addr} {ns : List Int} {c : Nat} (R : SetR w h a (fun j => decide (j ∈ ns)) c) : c = (sortD ns).length := by
  obtain ⟨o, es, ep, t, _, _, _, g, nd, hm, _, _, hn, _⟩ := R
  have p : (es.toList.map keyOf).Perm (sortD ns) := (List.perm_ext_iff_of_nodup nd (pw_nodup (pw_sortD ns))).mpr fun k => by rw [← hm k, mem_sortD]; simp
  have := p.length_eq
  rw [List.length_map, Array.length_toList] at this
  omega
theorem cr_setL (hc : X.calm = true) : CallR X (.type "set") (rSetL X.w X.K) := by
  intro pins s σ H xs us Q I r h
  obtain ⟨a, ns, rfl, hs, hl, q⟩ := h
  obtain ⟨its, rv, pl, hz⟩ := I.list hs
  rw [Vals.ref1 r]
  have hsb : ns.length + 1 < scanBound := Nat.lt_of_le_of_lt (Nat.add_le_add_right hl 1) (by decide)
  refine PS.call_set_listR ns (I.ok.hd hc) pl.isList (by simpa using rv.ints) hsb fun h' tk c R hcl hk => ?_
  have hc := setR_len R
  subst hc
  exact ⟨.ref _, upd H s.heap.objs.size (SetO X.w s.heap.objs.size (fun j => decide (j ∈ ns)) (sortD ns).length), I.laid (t' := tk) hk (Nat.le_refl _) (setO_new R), rfl, q _ (I.hok.fresh (Nat.le_refl _))⟩
end L2.P
namespace L2.PS
open PySem PySem.Calls PySem.SeqAt PySem.W PyProof.Rows L2
theorem perm_map_inv {α β : Type} {f : α → β} : ∀ {vs ys : List β}, vs.Perm ys → ∀ {L : List α}, ys = L.map f → ∃ L1 : List α, L1.Perm L ∧ vs = L1.map f := by
  intro vs ys h
  induction h with
  | nil => intro L e; cases L with
    | nil => exact ⟨[], .nil, rfl⟩
    | cons _ _ => cases e
  | cons x _ ih => intro L e; cases L with
    | nil => cases e
    | cons y L =>
      rw [List.map_cons] at e
      injection e with e1 e2
      obtain ⟨L1, p, e3⟩ := ih e2
      exact ⟨y :: L1, p.cons y, by rw [List.map_cons, e1, e3]⟩
  | swap x y l => intro L e
                  match L, e with
                  | a :: b :: L, e =>
                    rw [List.map_cons, List.map_cons] at e
                    injection e with e1 e2
                    injection e2 with e2 e3
                    exact ⟨b :: a :: L, List.Perm.swap a b L, by rw [List.map_cons, List.map_cons, e1, e2, e3]⟩
  | trans _ _ ih1 ih2 => intro L e
                         obtain ⟨L2, p2, e2⟩ := ih2 e
                         obtain ⟨L1, p1, e1⟩ := ih1 e2
                         exact ⟨L1, p1.trans p2, e1⟩
theorem reads_ints {h : Heap} : ∀ {vs : List Value} {ns : List Int}, IntsAre vs ns → ∃ as, ReadsAll h vs (ns.map .int) as
  | _, _, .nil => ⟨_, .nil⟩
  | _, _, .cons n t r => by
    obtain ⟨as, q⟩ := reads_ints (h := h) r
    exact ⟨_, .cons (.int n t) q⟩
theorem each_refs {h : Heap} : ∀ {L : List (Addr × List Int)}, (∀ p ∈ L, TS.TupInts h (.ref p.1) p.2) → EachIs (fun (v : Value) (p : Addr × List Int) => ∃ as, Reads h v (L2.P.tR p.2) as) (L.map fun p => Value.ref p.1) L
  | [], _ => .nil
  | p :: L, hL => .cons (by
      obtain ⟨b, items, e, ⟨o, ho, hc, n, hd⟩, hi⟩ := hL p List.mem_cons_self
      injection e with e
      subst e
      obtain ⟨as, q⟩ := reads_ints (h := h) hi
      exact ⟨as, .tuple ho hc hd q⟩) (each_refs fun q hq => hL q (List.mem_cons_of_mem _ hq))
theorem each_self : ∀ (L : List (Addr × List Int)), EachIs (fun (v : Value) (p : Addr × List Int) => v = Value.ref p.1) (L.map fun p => Value.ref p.1) L
  | [] => .nil
  | p :: L => .cons rfl (each_self L)
theorem each_self_inv : ∀ {out : List Value} {L : List (Addr × List Int)}, EachIs (fun (v : Value) (p : Addr × List Int) => v = Value.ref p.1) out L → out = L.map fun p => Value.ref p.1
  | _, _, .nil => rfl
  | _, _, .cons e r => by rw [e, each_self_inv r]; rfl
section
variable {P : Program} {w : World} {A : Around} {E : Value → Shared → Prop} {s : Shared}
theorem sorted_setA {a : Addr} {L : List (Addr × List Int)} {es : Array (Int × Value)} {ep : Nat} {t : SetTable} {Q : Value → Shared → Prop} (R : SetTR P w s.heap a L es ep t) (hh : A.handled = none) (hu : A.units + 20 < cLine)
    (hQ : ∀ s' p (out : Array Value) (c : Nat) (L' : List (Addr × List Int)), (∀ b o, s.heap.get? b = some o → s'.heap.get? b = some o) → s'.gens = s.gens → s'.os = s.os → s.heap.objs.size ≤ p →
      s'.heap.get? p = some (seqObj "list" out c) → out.toList = L'.map (fun q => Value.ref q.1) → L'.Perm L → L'.map (·.2) = L2.P.sortR (L.map (·.2)) → Q (.ref p) s') :
    wpAny (model P w) A (call (.builtin "sorted") [.ref a]) Q E s := by
  obtain ⟨o, ho, hex, hd⟩ := R.ob
  have hsz := R.size
  have hfew := R.few
  refine call_function_entry_kw kind_sorted plain_sorted entry_sorted (args_sorted1 _) ?_
  unfold Builtin.«sorted»
  refine wpAny_bind (m := checkCount "sorted" 1 1 _) (wpAny_pure ?_)
  refine wpAny_bind (collect_set (A := A.in1) hh ⟨o, ho, hex.1, hd⟩ R.fits (by unfold scanBound; omega) R.tab.ris R.led fun s1 vs k1 hz g1 o1 pm => ?_)
  have hes : es.toList.map (·.2) = L.map fun q => Value.ref q.1 := by
    rw [R.rows]
    unfold rowsOf
    rw [List.map_map] <;> rfl
  obtain ⟨L1, hp1, rfl⟩ := perm_map_inv pm hes
  have hL1 : L1.length < 64 := by rw [hp1.length_eq]; exact hfew
  have hvl : (L1.map fun q => Value.ref q.1).length < 64 := by rw [List.length_map]; exact hL1
  generalize hvs : (L1.map fun q => Value.ref q.1) = vs at hvl
  refine wpAny_bind (wpAny_newList ?_ (by rw [sizeLine_eq]; omega))
  have hoL : (s1.heap.push (seqObj "list" vs.toArray 0)).get? s1.heap.objs.size = some (seqObj "list" vs.toArray 0) := Heap.get?_push_size _ rfl
  have tk : ∀ q ∈ L1, TS.TupInts (sortingHeap (s1.heap.push (seqObj "list" vs.toArray 0)) s1.heap.objs.size vs) (.ref q.1) q.2 := fun q hq => tupInts_of (P := P) (w := w) (isT_keep (R.tup q (hp1.mem_iff.mp hq)) fun b u e => by
    have e2 := k1 b u e
    exact sortingHeap_old (Nat.ne_of_lt (Heap.lt_size e2)) (Heap.get?_push_of_some _ e2))
  have er : EachIs (fun (v : Value) (p : Addr × List Int) => ∃ as, Reads (sortingHeap (s1.heap.push (seqObj "list" vs.toArray 0)) s1.heap.objs.size vs) v (L2.P.tR p.2) as) vs L1 := hvs ▸ each_refs (hvs.symm ▸ tk)
  have e0 : EachIs (fun (v : Value) (p : Addr × List Int) => v = Value.ref p.1) vs L1 := hvs ▸ each_self L1
  have hal : AllAlike (L1.map fun p => L2.P.tR p.2) := fun d hd d' hd' => by
    obtain ⟨p, _, rfl⟩ := List.mem_map.mp hd
    obtain ⟨q, _, rfl⟩ := List.mem_map.mp hd'
    exact L2.P.alike_tR _ _
  have hdep : ∀ d, d ∈ (L1.map fun p => L2.P.tR p.2) → d.depth ≤ 2 := fun d hd => by
    obtain ⟨p, _, rfl⟩ := List.mem_map.mp hd
    have : ∀ ns : List Int, PyData.depthAll (ns.map PyData.int) ≤ 1 := fun ns => by
      induction ns with
      | nil => simp [PyData.depthAll]
      | cons n ns ih =>
        rw [List.map_cons, PyData.depthAll]
        exact Nat.max_le.mpr ⟨by simp [PyData.depth], ih⟩
    show (PyData.tuple (p.2.map .int)).depth ≤ 2
    rw [PyData.depth]
    have := this p.2
    omega
  refine wpAny_bind (wpAny_holding (wpAny_call_entry_kw slot_list_sort ⟨_, hoL, rfl⟩ entry_list_sort ?body (args_list_sort _)))
  case body =>
    refine list_sort_vals (κ := dataKind (sortingHeap (s1.heap.push (seqObj "list" vs.toArray 0)) s1.heap.objs.size vs) (L1.map fun p => L2.P.tR p.2)) (s := { s1 with heap := s1.heap.push (seqObj "list" vs.toArray 0) }) hoL (SortsAt.any (each_map (R := fun v d => ∃ as, Reads (sortingHeap (s1.heap.push (seqObj "list" vs.toArray 0)) s1.heap.objs.size vs) v d as) (fun p : Addr × List Int => L2.P.tR p.2) er) hal (fun d hd z => by
        obtain ⟨p, _, rfl⟩ := List.mem_map.mp hd
        cases z) fun d hd => ?_) (by rw [sizeLine_eq]; omega) ?_
    · have := hdep d hd
      show A.in1.in1.units + d.depth < cLine
      have : A.in1.in1.units ≤ A.units + 2 := Nat.le_refl _
      omega
    · have so := sortVals_data (h' := sortingHeap (s1.heap.push (seqObj "list" vs.toArray 0)) s1.heap.objs.size vs) (R := fun (v : Value) (p : Addr × List Int) => v = Value.ref p.1) (enc := fun p : Addr × List Int => L2.P.tR p.2) false e0 er hal
      obtain ⟨c, hc⟩ := sortedHeap_at (vs := vs) (out := (sortVals (dataKind (sortingHeap (s1.heap.push (seqObj "list" vs.toArray 0)) s1.heap.objs.size vs) (L1.map fun p => L2.P.tR p.2)) false vs vs).toArray) hoL
      refine ⟨_, rfl, wpAny_pure ⟨_, rfl, hQ _ s1.heap.objs.size _ c (L1.mergeSort (dataLe false fun p : Addr × List Int => L2.P.tR p.2)) (fun b u e => ?_) g1 o1 hz hc (each_self_inv so) ((List.mergeSort_perm _ _).trans hp1) ?_⟩⟩
      · have q := k1 b u e
        have hlt := Heap.lt_size q
        show (sortedHeap (s1.heap.push (seqObj "list" vs.toArray 0)) s1.heap.objs.size vs _).get? b = some u
        rw [sortedHeap_old (Nat.ne_of_lt hlt) (by rw [size_push']; exact Nat.lt_succ_of_lt hlt)]
        exact Heap.get?_push_of_some _ q
      · have z := List.map_mergeSort (f := fun p : Addr × List Int => p.2) (r := dataLe false fun p : Addr × List Int => L2.P.tR p.2) (s := dataLe false L2.P.tR) (l := L1) (fun a _ b _ => rfl)
        rw [z]
        exact L2.P.sortR_congr (hp1.map _)
end
end L2.PS
namespace L2.P
open PySem PySem.Spec PyProof.Rows L2
section
variable {X : Cx}
def rSortedTA (K : Fg) (P : Program) (w : World) : List V → Hp → VK → Prop := fun vs H Q => ∃ (a : Addr) (L : List (Addr × List Int)), vs = [V.ref a] ∧ H a = some (SetTO P w a L) ∧ (∀ p ∈ L, SqT K H p.1 (p.2.map V.int)) ∧
  ∀ (L' : List (Addr × List Int)) (p : Addr), L'.Perm L → (L'.map (·.2)).Nodup → L'.length < 64 → L'.map (·.2) = sortR (L.map (·.2)) → H p = none → Q (.ref p) (upd H p (.lst (L'.map fun q => V.ref q.1)))
theorem cr_sortedTA (hc : X.calm = true) (hu : Rm X) : CallR X (.builtin "sorted") (rSortedTA X.K X.prog X.w) := by
  intro pins s σ H vs us Q I r h
  obtain ⟨a, L, rfl, ha, hk, q⟩ := h
  have R0 : SetT0 X.prog X.w s.heap a L := (I.hok a _ ha).1
  obtain ⟨es, ep, t, R⟩ := R0.full fun p hp => I.isT (hk p hp)
  rw [Vals.ref1 r]
  refine PS.sorted_setA R (I.ok.hd hc) (by unfold Rm at hu; omega) fun s' p out c L' k g o hp hg hout pm pw => ?_
  have hfew : L'.length < 64 := by rw [pm.length_eq]; exact R.few
  have hlen : (L'.map fun q => V.ref q.1).length ≤ sizeLine := by rw [List.length_map, sizeLine_eq]; omega
  have hn : H p = none := I.hok.fresh hp
  have hv : Vals (L'.map fun q => V.ref q.1) out.toList := by rw [hout]; exact vals_of_refs L'
  have J : Inv X pins σ (upd H p (.lst (L'.map fun q => V.ref q.1))) { s with heap := s'.heap, gens := s'.gens, drawn := s'.drawn, toks := s'.toks } :=
    I.call (ch := []) (Un.laid k hp hn) (I.hok.laid k hp ⟨hlen, out.toList, c, hv, hg⟩) (by rw [g]; exact I.bare) (fun _ z => nomatch z)
  have e : s' = { s with heap := s'.heap, gens := s'.gens, drawn := s'.drawn, toks := s'.toks } := by
    cases s'
    cases s
    cases o
    rfl
  rw [e]
  exact ⟨.ref p, _, J, rfl, q L' p pm ((pm.map (·.2)).nodup_iff.mpr R.nd) hfew pw hn⟩
/-- the tuples of ints of ps -/
def rowsD : List D → Option (List (List Int))
  | [] => some []
  | .tuple xs :: r => (intsD xs).bind fun ns => (rowsD r).map fun rs => ns :: rs
  | _ :: _ => none
theorem rowsD_some : ∀ {ps : List D} {rs : List (List Int)}, rowsD ps = some rs → ps = rs.map tR
  | [], _, h => by cases h; rfl
  | p :: ps, rs, h => by
    cases p with
    | tuple xs =>
      obtain ⟨ns, h1, h2⟩ := Option.bind_eq_some_iff.mp h
      obtain ⟨rs', h3, rfl⟩ := Option.map_eq_some_iff.mp h2
      rw [List.map_cons, ← rowsD_some h3, intsD_some h1]
    | _ => cases h
theorem rowsD_map : ∀ (rs : List (List Int)), rowsD (rs.map tR) = some rs
  | [] => rfl
  | r :: rs => by
    show (intsD (r.map .int)).bind _ = _
    rw [intsD_map, Option.bind_some, rowsD_map rs]; rfl
/-- each once -/
def dedR : List (List Int) → List (List Int)
  | [] => []
  | r :: rs => if r ∈ rs then dedR rs else r :: dedR rs
theorem mem_dedR {x : List Int} : ∀ {rs : List (List Int)}, x ∈ dedR rs ↔ x ∈ rs
  | [] => Iff.rfl
  | r :: rs => by
    unfold dedR
    split
    · rename_i h
      rw [mem_dedR, List.mem_cons]
      exact ⟨.inr, fun z => z.elim (fun e => e ▸ h) id⟩
    · rw [List.mem_cons, List.mem_cons, mem_dedR]
theorem nodup_dedR : ∀ (rs : List (List Int)), (dedR rs).Nodup
  | [] => List.nodup_nil
  | r :: rs => by
    unfold dedR
    split
    · exact nodup_dedR rs
    · rename_i h
      exact List.nodup_cons.mpr ⟨fun z => h (mem_dedR.mp z), nodup_dedR rs⟩
def dSortAll : D → Option (List D)
  | .tuple xs => (intsD xs).bind fun ns => if ns.length < 64 then some ((sortD ns).map PyData.int) else none
  | .list xs => match intsD xs with
    | some ns => if ns.length ≤ 1000 ∧ (sortD ns).length < 64 then some ((sortD ns).map PyData.int) else none
    | none => (rowsD xs).bind fun rs => if rs.length < 64 then some ((sortR (dedR rs)).map tR) else none
  | _ => none
theorem sort_all_R {rs : List (List Int)} (h : rs.length < 64) : dSortAll (.list (rs.map tR)) = some ((sortR (dedR rs)).map tR) := by
  cases rs with
  | nil =>
    have e : sortR (dedR []) = [] := by simp [sortR, dedR]
    rw [e]; rfl
  | cons r rs =>
    show (rowsD ((r :: rs).map tR)).bind _ = _
    rw [rowsD_map]
    exact if_pos h
def nSortAll (f : Rho → Option D) : Rho → Option (List D) := fun ρ => (f ρ).bind dSortAll
theorem dpAll_rows {K : Fg} {F : Hp} : ∀ {vs : List V} {rs : List (List Int)}, DpAll K F vs (rs.map tR) → ∃ ks : List (Addr × List Int), vs = ks.map (fun p => V.ref p.1) ∧ ks.map (·.2) = rs ∧ ∀ p ∈ ks, SqT K F p.1 (p.2.map V.int) ∧ Dp K F (.ref p.1) (tR p.2)
  | _, [], .nil => ⟨[], rfl, rfl, fun p hp => by cases hp⟩
  | _, r :: rs, .cons a b => by
    obtain ⟨ks, rfl, rfl, h⟩ := dpAll_rows b
    obtain ⟨p, xs, rfl, s, d⟩ := Dp.inv_tup a
    rw [dpAll_ints r d] at s
    refine ⟨(p, r) :: ks, rfl, rfl, fun q hq => ?_⟩
    rcases List.mem_cons.mp hq with rfl | hq
    · exact ⟨s, a⟩
    · exact h q hq
theorem dpAll_refs {K : Fg} {F : Hp} : ∀ {ks : List (Addr × List Int)}, (∀ p ∈ ks, Dp K F (.ref p.1) (tR p.2)) → DpAll K F (ks.map fun p => V.ref p.1) ((ks.map (·.2)).map tR)
  | [], _ => .nil
  | p :: ks, h => .cons (h p List.mem_cons_self) (dpAll_refs fun q hq => h q (List.mem_cons_of_mem _ hq))
theorem n_sortAll {e : Expr} {f : Rho → Option D} {p p2 pos pos2 : Pos} (bi : Bi X.mg) (hu : Rm X) (h : XF X e f) (hc : X.calm = true := by rfl) (hg : Gl X "sorted" := by rfl) (hg2 : Gl X "set" := by rfl)
    (he2 : starEach [e] X.env = (false, eval e X.env) :: starEach [] X.env := by rfl) (he : starEach [.Call (.Name "set" p2) [e] [] pos2] X.env = (false, eval (.Call (.Name "set" p2) [e] [] pos2) X.env) :: starEach [] X.env := by rfl) :
    NF X (.Call (.Name "sorted" p) [.Call (.Name "set" p2) [e] [] pos2] [] pos) (nSortAll f) :=
  ⟨fW_mono, (pe_callB (CallR.or (cr_sortedSet hc) (cr_sortedTA hc hu)) hg bi.sorted bt_sorted (pa_cons (pe_callTy (CallR.or (CallR.or (cr_setT hc) (cr_setL hc)) (cr_setOfT hc (by unfold Rm at hu; omega))) hg2 bi.set bt_set (pa_cons h.pe pa_nil he2) (he := he2) (hpl := rfl)) pa_nil he) (he := he) (hpl := rfl)).imp fun σ H Q ⟨B, F, ρ, R, ps, e, k⟩ => by
    obtain ⟨x, e1, e2⟩ := Option.bind_eq_some_iff.mp e
    unfold dSortAll at e2
    split at e2
    · obtain ⟨ns, e3, e4⟩ := Option.bind_eq_some_iff.mp e2
      split at e4
      · rename_i h64
        cases e4
        refine ⟨B, F, ρ, R, _, e1, fun F' H' v R' s' d => ?_⟩
        obtain ⟨a, xs, rfl, s, r⟩ := Dp.inv_tup (d.dp (Same.refl _) R')
        rw [intsD_some e3] at r
        rw [dpAll_ints ns r] at s
        refine .inl (.inl ⟨a, ns, rfl, s, by omega, fun q c hq hcl => ?_⟩)
        refine .inl ⟨q, _, c, rfl, upd_same, by omega, fun ms l hp hm hl hn => ?_⟩
        have em : ms = sortD ns := pw_unique hp (pw_sortD ns) fun z => by rw [hm z, mem_sortD]; simp
        subst em
        exact k F' _ l _ (R'.lay hq) s' hn (dpAll_of_ints _)
      · cases e4
    · split at e2
      · rename_i ns e3
        split at e2
        · rename_i h64
          cases e2
          refine ⟨B, F, ρ, R, _, e1, fun F' H' v R' s' d => ?_⟩
          obtain ⟨a, xs, rfl, r, sq⟩ := pk_items R' d rfl
          have s : SqL X.K H' a xs := by
            rcases sq with ⟨_, s⟩ | ⟨z, _⟩
            · exact s
            · cases z
          rw [intsD_some e3] at r
          rw [dpAll_ints ns r] at s
          refine .inl (.inr ⟨a, ns, rfl, s, h64.1, fun q hq => ?_⟩)
          refine .inl ⟨q, _, _, rfl, upd_same, h64.2, fun ms l hp hm hl hn => ?_⟩
          have em : ms = sortD ns := pw_unique hp (pw_sortD ns) fun z => by rw [hm z, mem_sortD]; simp
          subst em
          exact k F' _ l _ (R'.lay hq) s' hn (dpAll_of_ints _)
        · cases e2
      · obtain ⟨rs, e3, e4⟩ := Option.bind_eq_some_iff.mp e2
        split at e4
        · rename_i h64
          cases e4
          refine ⟨B, F, ρ, R, _, e1, fun F' H' v R' s' d => ?_⟩
          obtain ⟨a, xs, rfl, r, sq⟩ := pk_items R' d rfl
          have s : SqL X.K H' a xs := by
            rcases sq with ⟨_, s⟩ | ⟨z, _⟩
            · exact s
            · cases z
          rw [rowsD_some e3] at r
          obtain ⟨ks, rfl, rfl, hks⟩ := dpAll_rows r
          refine .inr ⟨a, ks, rfl, s, fun p hp => sqT_same R'.sub (hks p hp).1, by rw [List.length_map] at h64; exact h64, fun q L hq hL1 hL2 => ?_⟩
          refine .inr ⟨q, L, rfl, upd_same, fun p hp => ?_, fun L' l hpm hnd hlt hso hn => ?_⟩
          · exact sqT_same (same_upd hq) (sqT_same R'.sub (hks p (hL1 p hp)).1)
          · have hmem : ∀ x, x ∈ L'.map (·.2) ↔ x ∈ ks.map (·.2) := fun x => by
              rw [(hpm.map (·.2)).mem_iff]
              constructor
              · intro hx
                obtain ⟨p, hp, rfl⟩ := List.mem_map.mp hx
                exact List.mem_map_of_mem (hL1 p hp)
              · intro hx
                obtain ⟨p, hp, rfl⟩ := List.mem_map.mp hx
                exact hL2 p hp
            have em : L'.map (·.2) = sortR (dedR (ks.map (·.2))) := by
              rw [hso]
              refine sortR_congr ((hpm.map (·.2)).symm.trans ((List.perm_ext_iff_of_nodup hnd (nodup_dedR _)).mpr fun x => ?_))
              rw [hmem, mem_dedR]
            have hd : DpAll X.K F' (L'.map fun p => V.ref p.1) ((L'.map (·.2)).map tR) := dpAll_refs fun p hp => (hks p (hL1 p (hpm.mem_iff.mp hp))).2
            rw [em] at hd
            exact k F' _ l _ (R'.lay hq) s' hn hd
        · cases e4
    · cases e2⟩
end
end L2.P


set_option Elab.async false
set_option linter.all false
set_option maxRecDepth 100000
set_option maxHeartbeats 4000000
namespace L2.P
open PySem PySem.Spec PyProof.Rows L2
section
variable {o : G2} {A B : Rho → Option D} {ρ : Rho} {p q : D} {b c : Bool} {f g : Rho → Option Bool}
theorem b2_of (hA : A ρ = some p) (hB : B ρ = some q) : b2 o A B ρ = o p q := by simp [hA, hB]
theorem cmp_b (hA : A ρ = some p) (hB : B ρ = some q) (e : o p q = some (.bool b)) : bB (b2 o A B) ρ = some b := by
  rw [e_bB, b2_of hA hB, e]; rfl
theorem or_b (h1 : f ρ = some b) (h2 : b = false → g ρ = some c) : bOr f g ρ = some (b || c) := by
  rw [e_bOr, h1, Option.bind_some]
  cases b with
  | true => rfl
  | false => rw [if_neg (by simp), h2 rfl]; rfl
theorem or_no (h1 : f ρ = some false) (h2 : g ρ = some false) : bOr f g ρ = some false := or_b h1 fun _ => h2
theorem and_b (h1 : f ρ = some b) (h2 : b = true → g ρ = some c) : bAnd f g ρ = some (b && c) := by
  rw [e_bAnd, h1, Option.bind_some]
  cases b with
  | false => rfl
  | true => rw [if_pos rfl, h2 rfl]; rfl
theorem not_b (h : f ρ = some b) : bNot f ρ = some (!b) := by rw [e_bNot, h]; rfl
theorem bB_of (h : A ρ = some (.bool b)) : bB A ρ = some b := by rw [e_bB, h]; rfl
end
end L2.P
namespace L2.P
open PySem PySem.Spec PyProof.Rows L2
theorem it_L {A : Rho → Option D} {ρ : Rho} {ps : List D} (h : A ρ = some (.list ps)) : fItems A ρ = some ps := by simp [h]
theorem it_T {A : Rho → Option D} {ρ : Rho} {ps : List D} (h : A ρ = some (.tuple ps)) : fItems A ρ = some ps := by simp [h]
end L2.P


set_option Elab.async false
set_option linter.all false
set_option maxRecDepth 100000
set_option maxHeartbeats 4000000
namespace L2.P
open PySem PySem.Spec PyProof.Rows L2
section
variable {w : List (List Int)} {st s t : List Int}
end
end L2.P


set_option Elab.async false
set_option linter.all false
set_option maxRecDepth 100000
set_option maxHeartbeats 4000000
namespace L2.P
open PySem PySem.Spec PyProof.Rows L2
section
variable {X : Cx} {e : Expr} {lo hi : Option Expr} {pos p2 : Pos}
end
end L2.P
namespace L2.P
open PySem PySem.Spec PyProof.Rows L2
section
variable {X : Cx} {a b c : Expr} {pos : Pos}
end
end L2.P


set_option Elab.async false
set_option linter.all false
set_option maxRecDepth 100000
set_option maxHeartbeats 4000000
namespace L2.P
open PySem PySem.Spec PyProof.Rows L2
/-- weights of n people -/
structure Wts (n : Nat) (ws : List Int) : Prop where
  len : ws.length = n
  inn : ∀ k ∈ ws, 0 ≤ k ∧ k ≤ 99
def wtM (ws : List Int) (p : Int) : Int := ws.getD p.toNat 0
theorem Wts.get {n : Nat} {ws : List Int} (h : Wts n ws) {p : Int} (h0 : 0 ≤ p) (h1 : p < n) : wtM ws p ∈ ws := by
  have hl := h.len
  unfold wtM
  rw [List.getD_eq_getElem?_getD, List.getElem?_eq_getElem (by omega)]
  exact List.getElem_mem _
theorem Wts.ix {n : Nat} {ws : List Int} (h : Wts n ws) {p : Int} (h0 : 0 ≤ p) (h1 : p < n) : dIx (tR ws) (.int p) = some (.int (wtM ws p)) := ix_ints h0 (by rw [h.len]; exact h1)
/-- the cheapest -/
def Chp (f : List Int → Int) (rs : List (List Int)) (e : List Int) : Prop := e ∈ rs ∧ ∀ y ∈ rs, f e < f y ∨ (f e = f y ∧ e ≤ y)
theorem Chp.le {f : List Int → Int} {rs : List (List Int)} {e y : List Int} (h : Chp f rs e) (hy : y ∈ rs) : f e ≤ f y := by
  rcases h.2 y hy with c | ⟨c, _⟩ <;> omega
end L2.P
namespace L2.P
open PySem PySem.Spec PyProof.Rows L2
end L2.P


set_option Elab.async false
set_option linter.all false
set_option maxRecDepth 100000
set_option maxHeartbeats 4000000
namespace L2.P
open PySem PySem.Spec PyProof.Rows L2
section
variable {X : Cx} {a b : Expr} {pos : Pos}
end
end L2.P


set_option Elab.async false
set_option linter.all false
set_option maxRecDepth 100000
set_option maxHeartbeats 4000000
namespace L2.P
open PySem PySem.Spec PyProof.Rows L2
section
variable {X : Cx} {pos : Pos} {i j : Nat} {x y : Str} {e k v : Expr} {px : Pos}
end
end L2.P


set_option Elab.async false
set_option linter.all false
set_option maxRecDepth 100000
set_option maxHeartbeats 4000000
namespace L2.PS
open PySem PyProof.Rows L2
section
variable {prog : Program} {w : World} {A : Around} {E : Value → Shared → Prop} {s : Shared} {l : Addr} {xs : Array (Int × Tok)} {its : List Value} {ns : List Int}
end
end L2.PS
namespace L2.P
open PySem PySem.Spec PyProof.Rows L2
end L2.P


set_option Elab.async false
set_option linter.all false
set_option maxRecDepth 100000
set_option maxHeartbeats 4000000
namespace L2.P
open PySem PySem.Spec PyProof.Rows L2
section
variable {X : Cx}
def rPickT (K : Fg) (g : D → List D → D) : List V → Hp → VK → Prop := fun vs H Q => ∃ (a : Addr) (ys : List V) (x : D) (xs : List D), vs = [.ref a] ∧ SqT K H a ys ∧ DpAll K H ys (x :: xs) ∧ okM (x :: xs) = true ∧
  ∀ (i : Nat) (u : V), ys[i]? = some u → (x :: xs)[i]? = some (g x xs) → Q u H
theorem cr_maxPT (hc : X.calm = true) (hu : Rm X) : CallR X (.builtin "max") (rPickT X.K PySem.W.maxD) := by
  intro pins s σ H vs us Q I r h
  obtain ⟨a, ys, x, xs, rfl, hs, hd, ok, q⟩ := h
  rw [Vals.ref1 r]
  obtain ⟨hpl, hdep⟩ := okDs_iff.mp (okM_oks ok)
  obtain ⟨its, rv, hl, _⟩ := I.tuple hs
  obtain ⟨as, hr⟩ := Dp.readsAll I _ ys its hd hpl rv
  exact PySem.W.max_tuple_data (I.ok.hd hc) hl hr (okM_alike ok) (by unfold Rm at hu; omega) fun i v h' tk bs hv r hk => pick_fin I rv hpl hr (maxD_mem x xs) q i v h' tk bs hv r hk
theorem pk_tup2 {K : Fg} {B : Bs} {F H : Hp} {σ : St} {ρ : Rho} {v : V} {ps : List D} (R : Rs K B F H σ ρ) (d : Pk K F σ ρ v (.tuple ps)) : ∃ a ys, v = .ref a ∧ SqT K H a ys ∧ DpAll K F ys ps := by
  rcases d with d | ⟨i, qs, h1, h2, e⟩
  · obtain ⟨a, xs, rfl, s, r⟩ := Dp.inv_tup d
    exact ⟨a, xs, rfl, sqT_same R.sub s, r⟩
  · cases e
def gMaxA : GA
  | [.list (x :: xs)] => if okM (x :: xs) = true then some (PySem.W.maxD x xs) else none
  | [.tuple (x :: xs)] => if okM (x :: xs) = true then some (PySem.W.maxD x xs) else none
  | _ => none
theorem cg_maxA (hc : X.calm = true) (hu : Rm X) : CallG X (.builtin "max") gMaxA := ⟨_, CallR.or (cr_maxP hc hu) (cr_maxPT hc hu), fun B F H σ ρ vs ps z Q R d e k => by
  unfold gMaxA at e
  split at e
  · rename_i x xs
    split at e
    · rename_i ok
      cases e
      cases d with
      | cons d t =>
        cases t
        obtain ⟨a, ys, rfl, hs, r⟩ := pk_lst R d
        refine .inl ⟨a, ys, x, xs, rfl, hs, r.same R.sub, ok, fun i u hu hp => ?_⟩
        obtain ⟨u', hu', du⟩ := r.get hp
        rw [hu] at hu'; cases hu'
        exact k F H u R (Same.refl _) du
    · cases e
  · rename_i x xs
    split at e
    · rename_i ok
      cases e
      cases d with
      | cons d t =>
        cases t
        obtain ⟨a, ys, rfl, hs, r⟩ := pk_tup2 R d
        refine .inr ⟨a, ys, x, xs, rfl, hs, r.same R.sub, ok, fun i u hu hp => ?_⟩
        obtain ⟨u', hu', du⟩ := r.get hp
        rw [hu] at hu'; cases hu'
        exact k F H u R (Same.refl _) du
    · cases e
  · cases e⟩
variable {a : Expr} {p pos : Pos}
theorem c_maxA {f : Rho → Option (List D)} (B : Bi X.mg) (hu : Rm X) (h : XAF X [a] f) (hc : X.calm = true := by rfl) (hg : Gl X "max" := by rfl) (he : starEach [a] X.env = (false, eval a X.env) :: starEach [] X.env := by rfl) : EF X (.Call (.Name "max" p) [a] [] pos) (aOf gMaxA f) := EW.f (ew_callB (cg_maxA hc hu) h hg B.max bt_max (he := he) (hpl := rfl))
end
theorem maxA_L (xs : List D) : gMaxA [.list xs] = gMax [.list xs] := by cases xs <;> rfl
theorem maxA_T (xs : List D) : gMaxA [.tuple xs] = gMax [.list xs] := by cases xs <;> rfl
theorem max_intsL {ns : List Int} (hne : ns ≠ []) : ∃ M ∈ ns, gMaxA [.list (ns.map .int)] = some (.int M) ∧ ∀ n ∈ ns, n ≤ M := by rw [maxA_L]; exact max_ints hne
theorem max_intsT {ns : List Int} (hne : ns ≠ []) : ∃ M ∈ ns, gMaxA [tR ns] = some (.int M) ∧ ∀ n ∈ ns, n ≤ M := by unfold tR; rw [maxA_T]; exact max_ints hne
end L2.P


set_option Elab.async false
set_option linter.all false
set_option maxRecDepth 100000
set_option maxHeartbeats 4000000
namespace L2.P
open PySem PySem.Spec PyProof.Rows L2
section
variable {X : Cx} {e : Expr} {pos : Pos}
end
section
variable {w : List (List Int)} {st goal : List Int}
end
end L2.P


set_option Elab.async false
set_option linter.all false
set_option maxRecDepth 100000
set_option maxHeartbeats 4000000
namespace L2.P
open PySem PySem.Spec PyProof.Rows L2
def LtE (a b : Int × Int) : Prop := a.1 < b.1 ∨ (a.1 = b.1 ∧ a.2 < b.2)
section
variable {w : List (List Int)} {st cs : List Int}
end
end L2.P


set_option Elab.async false
set_option linter.all false
set_option maxRecDepth 100000
set_option maxHeartbeats 4000000
namespace L2.P
open PySem PySem.Spec PyProof.Rows L2
section
variable {w : List (List Int)} {st cs : List Int}
end
end L2.P


set_option Elab.async false
set_option linter.all false
set_option maxRecDepth 100000
set_option maxHeartbeats 4000000
namespace L2.P
open PySem PySem.Spec PyProof.Rows L2
def modA (rows : List (List Int)) (i : Nat) (j : Int) : List (List Int) := rows.modify i (· ++ [j])
/-- the lists stand -/
structure GridL (H0 H : Hp) (L : Addr) (ds : List Addr) (rows : List (List Int)) : Prop where
  lst : H L = some (.lst (ds.map V.ref))
  nd : ds.Nodup
  nL : L ∉ ds
  len : rows.length = ds.length
  row : ∀ (i : Nat) (a : Addr) (r : List Int), ds[i]? = some a → rows[i]? = some r → H a = some (.lst (r.map V.int))
  old : ∀ b o, H0 b = some o → H b = some o
  fre : ∀ a ∈ ds, H0 a = none
  freL : H0 L = none
theorem GridL.put {H0 H : Hp} {L : Addr} {ds : List Addr} {rows : List (List Int)} (G : GridL H0 H L ds rows) {i : Nat} {a : Addr} {r : List Int} (ha : ds[i]? = some a) (hr : rows[i]? = some r) (j : Int) :
    GridL H0 (upd H a (.lst (r.map V.int ++ [V.int j]))) L ds (modA rows i j) where
  lst := by
    have ne : L ≠ a := fun e => G.nL (e ▸ List.mem_of_getElem? ha)
    rw [upd_ne ne]; exact G.lst
  nd := G.nd
  nL := G.nL
  len := by unfold modA; rw [List.length_modify]; exact G.len
  row := fun k b r' hb hr' => by
    unfold modA at hr'
    rw [List.getElem?_modify] at hr'
    by_cases e : i = k
    · subst e
      rw [ha] at hb; cases hb
      rw [hr] at hr'
      simp at hr'
      subst hr'
      rw [upd_same, List.map_append]; rfl
    · simp only [if_neg e] at hr'
      have ne : b ≠ a := fun q => by
        subst q
        exact e ((Grid.put.nodup_ix_addr G.nd ha hb))
      rw [upd_ne ne]
      exact G.row k b r' hb (by simpa using hr')
  old := fun b o e => by
    have ne : b ≠ a := fun q => by
      subst q
      rw [G.fre b (List.mem_of_getElem? ha)] at e; cases e
    rw [upd_ne ne]; exact G.old b o e
  fre := G.fre
  freL := G.freL
end L2.P


set_option Elab.async false
set_option linter.all false
set_option maxRecDepth 100000
set_option maxHeartbeats 4000000
namespace L2.P
open PySem PySem.Spec PyProof.Rows L2
section
variable {X : Cx}
end
end L2.P


set_option Elab.async false
set_option linter.all false
set_option maxRecDepth 100000
set_option maxHeartbeats 4000000
namespace L2.P
open PySem PySem.Spec PyProof.Rows L2
section
variable {prog : Program} {w : World} {A : Around} {E : Value → Shared → Prop} {s : Shared}
end
section
variable {X : Cx} {e : Expr} {pos : Pos}
end
end L2.P


set_option Elab.async false
set_option linter.all false
set_option maxRecDepth 100000
set_option maxHeartbeats 4000000
namespace L2.P
open PySem PySem.Spec PyProof.Rows L2
theorem DtAll.getV {K : Fg} {F : Hp} : ∀ {es : List (List Key × V)} {kvs : List (D × D)} {i : Nat} {k : List Key} {v : V}, DtAll K F es kvs → es[i]? = some (k, v) → ∃ q, kvs[i]? = some q ∧ Dp K F v q.2
  | _, _, _, _, _, .nil, h => by simp at h
  | _, _, 0, _, _, .cons a _, h => by
    simp at h
    obtain ⟨_, rfl⟩ := h
    exact ⟨_, rfl, a⟩
  | _, _, i + 1, _, _, .cons _ b, h => by simpa using DtAll.getV (i := i) b (by simpa using h)
theorem DkAll.getV {K : Fg} {F : Hp} : ∀ {es : List (Key × V)} {kvs : List (D × D)} {i : Nat} {k : Key} {v : V}, DkAll K F es kvs → es[i]? = some (k, v) → ∃ n q, k = .inl n ∧ kvs[i]? = some (.int n, q) ∧ Dp K F v q
  | _, _, _, _, _, .nil, h => by simp at h
  | _, _, 0, _, _, .cons (k := n) (p := p) a _, h => by
    simp at h
    obtain ⟨rfl, rfl⟩ := h
    exact ⟨n, p, rfl, rfl, a⟩
  | _, _, i + 1, _, _, .cons _ b, h => by simpa using DkAll.getV (i := i) b (by simpa using h)
/-- the dict that a value is -/
def dictT : D → Option (List (D × D))
  | .dict kvs => if (kindOf kvs).isSome = true then some kvs else none
  | _ => none
def hD (f : Rho → Option D) : Rho → Option (List (D × D)) := fun ρ => (f ρ).bind dictT
section
variable {X : Cx} {e : Expr}
end
end L2.P
namespace L2.P
open PySem PySem.Spec PyProof.Rows L2
section
variable {P : Program} {w : World} {K : PySem.W.Frag} {tg : Expr} {d : Addr} {o : Obj} {es : Array DictEntry} {ep : Nat}
end
section
variable {X : Cx} {tg e : Expr} {td : TE} {apos cpos : Pos}
theorem _root_.L2.PI.or {tg e : Expr} {t t' : TI} (h : PI X tg e t) (h' : PI X tg e t') : PI X tg e (fun σ H R => t σ H R ∨ t' σ H R) := ⟨fun pins s σ H R I hw => by
  rcases hw with hw | hw
  · exact h.run pins s σ H R I hw
  · exact h'.run pins s σ H R I hw⟩
end
section
end
section
variable {X : Cx} {tg e : Expr} {apos cpos : Pos}
end
end L2.P


set_option Elab.async false
set_option linter.all false
set_option maxRecDepth 100000
set_option maxHeartbeats 4000000
namespace L2.P
open PySem PySem.Spec PyProof.Rows L2
section
variable {X : Cx} {a b : Expr} {p pos : Pos}
end
section
variable {X : Cx} {e : Expr} {td : TE} {p pos apos cpos : Pos}
variable {x : Str} {i : Nat} {px : Pos}
end
end L2.P


set_option Elab.async false
set_option linter.all false
set_option maxRecDepth 100000
set_option maxHeartbeats 1000000
namespace L2.P
open PySem PySem.Spec PyProof.Rows L2
section
variable {X : Cx} {a b : Expr} {pos : Pos}
end
end L2.P


set_option Elab.async false
set_option linter.all false
set_option maxRecDepth 100000
set_option maxHeartbeats 4000000
namespace L2.P
open PySem PySem.Spec PyProof.Rows L2
section
variable {X : Cx}
variable {a b : Expr} {pos : Pos}
variable {p : Pos}
end
end L2.P


set_option Elab.async false
set_option linter.all false
set_option maxRecDepth 100000
set_option maxHeartbeats 4000000
namespace L2.PS
open PySem PySem.Spec PySem.Calls PySem.W PyProof.Rows L2
section
variable {prog : Program} {w : World} {A : Around} {E : Value → Shared → Prop} {s : Shared} {r d : Addr} {es : Array DictEntry} {ep : Nat}
end
end L2.PS
namespace L2.P
open PySem PySem.Spec PyProof.Rows L2
/-- what stands in the tuples of the items -/
def cont (bs : List Addr) (es : List (List Key × V)) : List (List V) := (bs.zip es).map fun p => [.ref p.1, p.2.2]
section
variable {X : Cx} {e : Expr} {te : TE} {p apos cpos pos : Pos}
theorem vals_refs' : ∀ as : List Addr, Vals (as.map V.ref) (as.map Value.ref)
  | [] => .nil
  | _ :: as => .cons rfl (vals_refs' as)
end
section
variable {X : Cx} {e : Expr} {p apos cpos pos : Pos}
/-- a locked dict whose keys are tuples -/
def hT (h : Rho → Option (List (D × D))) : Rho → Option (List (D × D)) := fun ρ => (h ρ).bind fun kvs => if kindOf kvs = some true then some kvs else none
end
end L2.P


set_option Elab.async false
set_option linter.all false
set_option maxRecDepth 100000
set_option maxHeartbeats 4000000
namespace L2.P
open PySem PySem.Spec PyProof.Rows L2
theorem Rs.drop {K : Fg} {B : Bs} {F H : Hp} {σ : St} {ρ : Rho} (R : Rs K B F H σ ρ) (j : Nat) : Rs K B F H σ (ρ.set j .no) where
  sub := R.sub
  ext := R.ext
  new := R.new
  old := R.old
  hrow := R.hrow
  hr2 := R.hr2
  tb := R.tb
  tbh := R.tbh
  len := by rw [List.length_set]; exact R.len
  at_ := fun k t ht => by
    rcases set_some ht with ⟨rfl, hl, rfl⟩ | ⟨ne, ht⟩
    · exact .no
    · exact R.at_ k t ht
  apart := fun k l c t u hkl h1 h2 o1 o2 e1 e2 => by
    rcases set_some h1 with ⟨rfl, hl, rfl⟩ | ⟨ne, h1⟩
    · cases o1
    · rcases set_some h2 with ⟨rfl, hl, rfl⟩ | ⟨ne2, h2⟩
      · cases o2
      · exact R.apart k l c t u hkl h1 h2 o1 o2 e1 e2
section
variable {X : Cx} {x y : Str} {i j : Nat} {py p' pos : Pos}
end
section
variable {X : Cx}
end
end L2.P


set_option Elab.async false
set_option linter.all false
set_option maxRecDepth 100000
set_option maxHeartbeats 4000000
namespace L2.P
open PySem PySem.Spec PyProof.Rows L2
end L2.P


set_option Elab.async false
set_option linter.all false
set_option maxRecDepth 100000
set_option maxHeartbeats 4000000
namespace L2.P
open PySem PySem.Spec PyProof.Rows L2 NdefX LamX
def cut (H : Hp) (C : List Addr) : Hp := fun b => if b ∈ C then none else H b
def gain (H0 H : Hp) (C : List Addr) : Hp := fun b => if b ∈ C then H0 b else H b
theorem cut_in {H : Hp} {C : List Addr} {b : Addr} (h : b ∈ C) : cut H C b = none := if_pos h
theorem cut_out {H : Hp} {C : List Addr} {b : Addr} (h : b ∉ C) : cut H C b = H b := if_neg h
theorem cut_none {H : Hp} {C : List Addr} {b : Addr} (h : H b = none) : cut H C b = none := by
  unfold cut
  split
  · rfl
  · exact h
theorem gain_in {H0 H : Hp} {C : List Addr} {b : Addr} (h : b ∈ C) : gain H0 H C b = H0 b := if_pos h
theorem gain_out {H0 H : Hp} {C : List Addr} {b : Addr} (h : b ∉ C) : gain H0 H C b = H b := if_neg h
section
variable {P : Program} {w : World} {H H' H0 : Hp} {h h' : Heap} {C : List Addr}
theorem cut_ok (ok : HOk P w H h) (he : ∀ c ∈ C, ∃ φ, H c = some (.ext φ)) : HOk P w (cut H C) h := fun b u e => by
  have nb : b ∉ C := fun z => by rw [cut_in z] at e; cases e
  rw [cut_out nb] at e
  refine (ok b u e).stay (fun c v _ q => q) (fun d q => ?_) fun d xs q => ?_
  · rw [cut_out (fun z => by obtain ⟨φ, e2⟩ := he d z; rw [q] at e2; cases e2)]; exact q
  · rw [cut_out (fun z => by obtain ⟨φ, e2⟩ := he d z; rw [q] at e2; cases e2)]; exact q
/-- behind a piece that ran without them -/
theorem gain_un {fs : List Addr} (un : Un fs [] (cut H C) H' h h') (hs : ∀ c ∈ C, ∃ o, H c = some (exO c o)) : Un fs [] H (gain H H' C) h h' where
  keep := fun b o e n hf hx => un.keep b o e (cut_none n) hf hx
  slot := fun b o e n hf hx => un.slot b o e (cut_none n) hf hx
  free := fun b o e n hx => by
    rw [gain_out (fun z => by obtain ⟨o, e2⟩ := hs b z; rw [n] at e2; cases e2)]
    exact un.free b o e (cut_none n) hx
  there := un.there
  tups := fun b xs e => by
    have nb : b ∉ C := fun z => by obtain ⟨o, e2⟩ := hs b z; rw [e] at e2; cases e2
    rw [gain_out nb]; exact un.tups b xs (by rw [cut_out nb]; exact e)
  frzs := fun b o u e => by
    have nb : b ∉ C := fun z => by obtain ⟨o, e2⟩ := hs b z; rw [e] at e2; cases e2
    rw [gain_out nb]; exact un.frzs b o u (by rw [cut_out nb]; exact e)
  tbls := fun b ps e => by
    have nb : b ∉ C := fun z => by obtain ⟨o, e2⟩ := hs b z; rw [e] at e2; cases e2
    rw [gain_out nb]; exact un.tbls b ps (by rw [cut_out nb]; exact e)
theorem gain_free {fs : List Addr} (ok : HOk P w H h) (un : Un fs [] (cut H C) H' h h') (hs : ∀ c ∈ C, ∃ o, H c = some (exO c o)) {c : Addr} (hc : c ∈ C) : H' c = none := by
  obtain ⟨o, e⟩ := hs c hc
  obtain ⟨e1, _⟩ := ok c _ e
  exact un.free c o e1 (cut_in hc) (by simp)
theorem gain_ok {fs : List Addr} (ok : HOk P w H h) (un : Un fs [] (cut H C) H' h h') (ok' : HOk P w H' h') (hs : ∀ c ∈ C, ∃ o, H c = some (exO c o)) (hf : ∀ b ∈ fs, H b = none) : HOk P w (gain H H' C) h' := fun b u e => by
  by_cases hb : b ∈ C
  · rw [gain_in hb] at e
    obtain ⟨o, e2⟩ := hs b hb
    rw [e2] at e
    cases e
    obtain ⟨e1, _⟩ := ok b _ e2
    have e3 := un.keep b o e1 (cut_in hb) (fun z => by rw [hf b z] at e2; cases e2) (by simp)
    exact ⟨e3, ⟨o, e3⟩, fun h1 h2 q st => st _ q⟩
  · rw [gain_out hb] at e
    refine (ok' b u e).stay (fun c v _ q => q) (fun d q => ?_) fun d xs q => ?_
    · rw [gain_out (fun z => by rw [gain_free ok un hs z] at q; cases q)]; exact q
    · rw [gain_out (fun z => by rw [gain_free ok un hs z] at q; cases q)]; exact q
end
abbrev lamF (q : Str) (L : LamD) (cl : List (Str × Addr)) (c' : Addr) : NdefX.NF := ⟨"<lambda>", lamQ q, L.params, [], L.scope, cl, c'⟩
def cellsOf (cl : List (Str × Addr)) : List Addr := cl.filterMap fun p => cl.lookup p.1
theorem cells_look {cl : List (Str × Addr)} {c : Addr} (h : c ∈ cellsOf cl) : ∃ y, cl.lookup y = some c := by
  obtain ⟨p, hp, e⟩ := List.mem_filterMap.mp h
  exact ⟨p.1, e⟩
theorem look_cells {cl : List (Str × Addr)} {y : Str} {c : Addr} (h : cl.lookup y = some c) : c ∈ cellsOf cl := List.mem_filterMap.mpr ⟨(y, c), PySem.mem_of_lookup h, h⟩
/-- the slots of the comprehensions in q's lambda -/
def lamX (q : Str) : List Str := if q = "calls_to_sit_all" then ["person"] else if q = "calls_to_alone" then ["one"] else []
/-- a lambda's scope: one parameter (a local name or an own cell), captured names, slots of comprehensions -/
structure LScope (N : List Str) (z : Str) (fr : List Str) (sc : Scope) : Prop where
  kind : sc.kind = .function
  co : sc.isCoroutine = false
  gen : sc.isGenerator = false
  nd : N.Nodup
  pre : N.take ([z].length + fr.length) = [z] ++ fr
  own : (sc.names.lookup z = some .local ∧ ∀ y ∈ sc.names, y.2 ≠ .cell) ∨ ∃ rest, sc.names = (z, .cell) :: rest ∧ ∀ y ∈ rest, y.2 ≠ .cell
  free : ∀ y ∈ sc.names, y.2 = .free → y.1 ∈ fr
  frk : ∀ x ∈ fr, sc.names.lookup x = some .free
def lscB (N : List Str) (z : Str) (fr : List Str) (sc : Scope) : Bool :=
  decide (sc.kind = .function) && !sc.isCoroutine && !sc.isGenerator && decide N.Nodup && decide (N.take ([z].length + fr.length) = [z] ++ fr) &&
  ((decide (sc.names.lookup z = some .local) && sc.names.all (fun y => !decide (y.2 = .cell))) || (match sc.names with | (n, k) :: rest => decide (n = z) && decide (k = .cell) && rest.all (fun y => !decide (y.2 = .cell)) | [] => false)) &&
  sc.names.all (fun y => !decide (y.2 = .free) || decide (y.1 ∈ fr)) && fr.all (fun x => decide (sc.names.lookup x = some .free))
theorem lscope_by {N : List Str} {z : Str} {fr : List Str} {sc : Scope} (h : lscB N z fr sc = true) : LScope N z fr sc := by
  unfold lscB at h
  rw [Bool.and_eq_true, Bool.and_eq_true, Bool.and_eq_true, Bool.and_eq_true, Bool.and_eq_true, Bool.and_eq_true, Bool.and_eq_true] at h
  obtain ⟨⟨⟨⟨⟨⟨⟨h1, h2⟩, h3⟩, h4⟩, h5⟩, h6⟩, h8⟩, h9⟩ := h
  refine ⟨of_decide_eq_true h1, by simpa using h2, by simpa using h3, of_decide_eq_true h4, of_decide_eq_true h5, ?_, fun y hy e => ?_, fun x hx => of_decide_eq_true (List.all_eq_true.mp h9 x hx)⟩
  · rw [Bool.or_eq_true] at h6
    rcases h6 with h6 | h6
    · rw [Bool.and_eq_true] at h6
      exact .inl ⟨of_decide_eq_true h6.1, fun y hy => by simpa using List.all_eq_true.mp h6.2 y hy⟩
    · split at h6
      · rename_i n k rest e
        rw [Bool.and_eq_true, Bool.and_eq_true] at h6
        refine .inr ⟨rest, ?_, fun y hy => by simpa using List.all_eq_true.mp h6.2 y hy⟩
        rw [e, of_decide_eq_true h6.1.1, of_decide_eq_true h6.1.2]
      · cases h6
  · have := List.all_eq_true.mp h8 y hy
    rw [Bool.or_eq_true] at this
    rcases this with q | q
    · rw [decide_eq_true e] at q; cases q
    · exact of_decide_eq_true q
theorem cells_none : ∀ (names : List (Str × NameKind)) (n : Nat) (cl : List (Str × Addr)), (∀ y ∈ names, y.2 ≠ .cell) → cellsFrom n names cl = cl
  | [], _, _, _ => rfl
  | (x, k) :: r, n, cl, h => by
    unfold cellsFrom
    rw [if_neg (fun z => h (x, k) List.mem_cons_self (by simpa using z)), cells_none r n cl fun y hy => h y (List.mem_cons_of_mem _ hy)]
theorem push_none : ∀ (names : List (Str × NameKind)) (h : Heap), (∀ y ∈ names, y.2 ≠ .cell) → pushCells h names = h
  | [], _, _ => rfl
  | (x, k) :: r, g, h => by
    unfold pushCells
    rw [if_neg (fun z => h (x, k) List.mem_cons_self (by simpa using z)), push_none r g fun y hy => h y (List.mem_cons_of_mem _ hy)]
/-- the names' cells of a lambda's body -/
abbrev lamC (L : LamD) (s : Shared) (cl : List (Str × Addr)) : List (Str × Addr) := cellsFrom (s.heap.objs.size + 1) L.scope.names cl
/-- the context of a lambda's body -/
abbrev lamCx (X : Cx) (N : List Str) (q : Str) (L : LamD) (cl : List (Str × Addr)) (c' f : Addr) (s : Shared) (H : Hp) : Cx := ncx CX0 X.prog X.w X.K X.mg X.base N (lamF q L (lamC L s cl) c') f X.A X.stack s H E0
theorem lk_self {α : Type} {z : Str} {c : α} {cl : List (Str × α)} : ((z, c) :: cl).lookup z = some c := by rw [List.lookup_cons, beq_self_eq_true]
/-- a frame whose one parameter lies in an own cell -/
theorem wpAny_newEnv_own {M : Model} {A : Around} {E : Value → Shared → Prop} {s : Shared} {scope : Scope} {globals : Addr} {cl : List (Str × Addr)} {z : Str} {u : Value} {rest : List (Str × NameKind)} {qual : Str} {func : Option Addr} {code : Value} {builtins : Addr} {Q : Env → Shared → Prop}
    (hk : scope.kind = .function) (hn : scope.names = (z, .cell) :: rest) (hr : ∀ y ∈ rest, y.2 ≠ .cell)
    (hQ : ∀ h' : Heap, h'.Ns s.heap.objs.size (fun _ => none) → h'.IsCell (s.heap.objs.size + 1) (some u) → (∀ b o, s.heap.get? b = some o → h'.get? b = some o) →
      Q (newEnv scope s.heap.objs.size globals (cellsFrom (s.heap.objs.size + 1) scope.names cl) qual func code none builtins) { s with heap := h' }) :
    wpAny M A (newFunctionEnv scope globals cl [(z, u)] qual func code none builtins) Q E s := by
  simp only [newFunctionEnv, Option.isSome_none, Bool.false_eq_true, if_false]
  refine wpAny_bind (wpAny_alloc ?_)
  refine wpAny_bind (wpAny_layCells _ (fun name kind cells => by cases hkc : kind == NameKind.cell <;> simp [hkc]) _ _ _ _ ?_)
  rw [show ({ s with heap := s.heap.push { cls := .type "frame", data := .dict #[] } } : Shared).heap.objs.size = s.heap.objs.size + 1 from Heap.size_push ..]
  have ep : pushCells (s.heap.push { cls := .type "frame", data := .dict #[] }) scope.names = (s.heap.push { cls := .type "frame", data := .dict #[] }).push { cls := .type "cell", data := .cell none } := by
    rw [hn]
    unfold pushCells
    rw [if_pos (by rfl), push_none rest _ hr]
  have ec : cellsFrom (s.heap.objs.size + 1) scope.names cl = (z, s.heap.objs.size + 1) :: cl := by
    rw [hn]
    unfold cellsFrom
    rw [if_pos (by rfl), cells_none rest _ _ hr]
  have hsz : (s.heap.push { cls := .type "frame", data := .dict #[] }).objs.size = s.heap.objs.size + 1 := Heap.size_push ..
  have c0 : (pushCells (s.heap.push { cls := .type "frame", data := .dict #[] }) scope.names).IsCell (s.heap.objs.size + 1) none := by
    rw [ep, ← hsz]
    exact ⟨_, Heap.get?_push_size _ rfl, rfl⟩
  have hns := (Heap.Ns.new s.heap (.type "frame")).keeps (pushCells_keeps scope.names _)
  have hke : ∀ b o, s.heap.get? b = some o → (pushCells (s.heap.push { cls := .type "frame", data := .dict #[] }) scope.names).get? b = some o := fun b o e => pushCells_keeps _ _ b o (Heap.get?_push_of_some _ e)
  simp only [List.forIn_cons, List.forIn_nil]
  refine wpAny_bind (wpAny_bind (wpAny_bind (wpAny_storeName_cell (env := newEnv scope s.heap.objs.size globals (cellsFrom (s.heap.objs.size + 1) scope.names cl) qual func code none builtins) (c := s.heap.objs.size + 1) hk (by show scope.names.lookup z = _; rw [hn]; exact lk_self) (by show List.lookup z (cellsFrom _ _ _) = _; rw [ec]; exact lk_self) c0 fun h' hc' hs' => wpAny_pure (wpAny_pure (wpAny_pure (hQ h' ?_ hc' fun b o e => ?_))))))
  · exact hns.sameBut hs' (Nat.ne_of_lt (Nat.lt_succ_self _))
  · exact hs'.extBut b o (Nat.ne_of_lt (Nat.lt_succ_of_lt (Heap.lt_size e))) (hke b o e)
section
variable {CX : CXT} {P : Program} {w : World} {K : PySem.W.Frag} {mg : Str → Option Value} {base : Heap} {N fr : List Str} {F : NdefX.NF} {f : Addr} {A : Around} {outer : List Env} {s : Shared} {H : Hp} {E : XK} {u : Value} {v : V} {ws : List (Option V)} {z : Str} {cl : List (Str × Addr)} {rest : List (Str × NameKind)}
theorem inv_startO {h₁ : Heap} {tk : Nat} (S : LScope N z fr F.scope) (hn : F.scope.names = (z, .cell) :: rest) (hr : ∀ y ∈ rest, y.2 ≠ .cell) (hcl : F.cl = (z, s.heap.objs.size + 1) :: cl) (hd : A.handled = none) (e0 : Env0 P w K mg base A outer s H) (rv : RelV v u) (C : CellsAt cl fr ws s.heap H)
    (hns : h₁.Ns s.heap.objs.size fun _ => none) (hc1 : h₁.IsCell (s.heap.objs.size + 1) (some u)) (kp : ∀ b o, s.heap.get? b = some o → h₁.get? b = some o) : Inv (ncx CX P w K mg base N F f A outer s H E) [] (startF N [v] ws) H { s with heap := h₁, toks := tk } := by
  have hpl : 1 + fr.length ≤ N.length := by
    have q := congrArg List.length S.pre
    rw [List.length_take, List.length_append] at q
    simp only [List.length_cons, List.length_nil] at q
    omega
  have noA : ∀ b : Addr, b ∉ (ncx CX P w K mg base N F f A outer s H E).ex := fun b q => absurd (show b ∈ ([] : List Addr) from q) (by simp)
  have cellK : ∀ {c : Addr} {v : Option Value}, s.heap.IsCell c v → h₁.IsCell c v := fun {c v} ⟨o, ho, hd⟩ => ⟨o, kp _ _ ho, hd⟩
  have ltc : ∀ y c, cl.lookup y = some c → c < s.heap.objs.size := fun y c e => (C.all y c e).2.elim fun _ q => q.lt
  have hz0 : F.scope.names.lookup z = some .cell := by rw [hn]; exact lk_self
  have zfr : z ∉ fr := fun q => by have := S.frk z q; rw [hz0] at this; cases this
  have lz : ((z, s.heap.objs.size + 1) :: cl).lookup z = some (s.heap.objs.size + 1) := lk_self
  have ln : ∀ y, y ≠ z → ((z, s.heap.objs.size + 1) :: cl).lookup y = cl.lookup y := fun y hy => by
    rw [List.lookup_cons]
    have : (y == z) = false := beq_eq_false_iff_ne.mpr hy
    rw [this]
  have lk : ∀ y c, ((z, s.heap.objs.size + 1) :: cl).lookup y = some c → (y = z ∧ c = s.heap.objs.size + 1) ∨ (y ≠ z ∧ cl.lookup y = some c) := fun y c e => by
    by_cases hy : y = z
    · subst hy; rw [lz] at e; cases e; exact .inl ⟨rfl, rfl⟩
    · rw [ln y hy] at e; exact .inr ⟨hy, e⟩
  have onlyz : ∀ y, F.scope.names.lookup y = some .cell → y = z := fun y e => by
    have m := PySem.mem_of_lookup e
    rw [hn] at m
    rcases List.mem_cons.mp m with m | m
    · cases m; rfl
    · exact absurd rfl (hr _ m)
  have ec : (ncx CX P w K mg base N F f A outer s H E).env.cells = (z, s.heap.objs.size + 1) :: cl := hcl
  have clen := C.len
  refine ⟨⟨e0.mod, S.kind, rfl, rfl, Nat.le_refl _, fun x y c h1 h2 => ?_, fun y hy => ?_, fun y c q _ => ?_, fun _ => hd, Around.frames_deeper e0.frames, .inr ⟨rfl, rfl⟩, fun b q => absurd q (noA b), e0.bs, e0.bsz, fun b _ _ => noA b,
      fun b q => absurd q (noA b), e0.funs, e0.frf⟩,
    rfl, e0.bare, Un.kept kp, ⟨_, hns, fun i y v' e1 e2 e3 => ?_⟩, fun y c e => ?_, e0.hok.fresh (Nat.le_refl _), fun y c e => ?_, fun q hq => absurd (show q ∈ ([] : List (Addr × Obj)) ++ [] from hq) (by simp), e0.hok.kept kp, ?_⟩
  · rw [ec] at h1 h2
    rcases lk x c h1 with ⟨a1, a2⟩ | ⟨a1, a2⟩ <;> rcases lk y c h2 with ⟨b1, b2⟩ | ⟨b1, b2⟩
    · rw [a1, b1]
    · exact absurd (ltc y c b2) (by rw [a2]; exact Nat.not_lt.mpr (Nat.le_succ _))
    · exact absurd (ltc x c a2) (by rw [b2]; exact Nat.not_lt.mpr (Nat.le_succ _))
    · exact C.inj x y c a2 b2
  · have hy : F.scope.names.lookup y = some .cell ∨ F.scope.names.lookup y = some .free := hy
    rw [ec]
    rcases hy with hy | hy
    · rw [onlyz y hy]; exact ⟨_, lz⟩
    · obtain ⟨i, hi⟩ := List.mem_iff_getElem?.mp (S.free _ (PySem.mem_of_lookup hy) rfl)
      obtain ⟨c, hc, _⟩ := C.has i y hi
      exact ⟨c, by rw [ln y (fun q => by rw [q, hz0] at hy; cases hy)]; exact hc⟩
  · have q : false = true := q
    cases q
  · have e1 : N[i]? = some y := e1
    unfold startF at e2
    have e2 : ([v].map some ++ (ws ++ List.replicate (N.length - [v].length - ws.length) none))[i]? = some (some v') := e2
    cases i with
    | zero =>
      have hq : ([z] ++ fr)[0]? = some y := by rw [← S.pre, List.getElem?_take_of_lt (by simp; omega)]; exact e1
      have hq : some z = some y := hq
      cases hq
      have e2 : some (some v) = some (some v') := e2
      cases e2
      exact ⟨u, rv, .inr ⟨.inl hz0, _, by rw [ec]; exact lz, hc1⟩⟩
    | succ i =>
      have e2 : (ws ++ List.replicate (N.length - [v].length - ws.length) none)[i]? = some (some v') := e2
      by_cases h2 : i < fr.length
      · have hq : ([z] ++ fr)[i + 1]? = some y := by
          rw [← S.pre, List.getElem?_take_of_lt (by simp; omega)]
          exact e1
        have hq : fr[i]? = some y := hq
        rw [List.getElem?_append_left (by omega)] at e2
        obtain ⟨c, hc, hv⟩ := C.has i y hq
        obtain ⟨u', ru, hu⟩ := hv v' e2
        exact ⟨u', ru, .inr ⟨.inr (S.frk y (List.mem_of_getElem? hq)), c, by rw [ec, ln y (fun q => zfr (q ▸ List.mem_of_getElem? hq))]; exact hc, cellK hu⟩⟩
      · rw [List.getElem?_append_right (by omega), List.getElem?_replicate] at e2
        split at e2 <;> cases e2
  · rw [ec] at e
    rcases lk y c e with ⟨_, a2⟩ | ⟨_, a2⟩
    · exact ⟨_, a2 ▸ hc1⟩
    · obtain ⟨w', q⟩ := (C.all y c a2).2
      exact ⟨w', cellK q⟩
  · rw [ec] at e
    rcases lk y c e with ⟨_, a2⟩ | ⟨_, a2⟩
    · rw [a2]; exact e0.hok.fresh (Nat.le_succ _)
    · exact (C.all y c a2).1
  · unfold startF
    show _ = N.length
    simp only [List.length_append, List.length_map, List.length_replicate, List.length_cons, List.length_nil]
    omega
end
section
variable {X : Cx} {x : Str} {i k : Nat} {a : Expr} {ta : TA} {p pos : Pos}
/-- q's lambda, its body read: the names [z], then the captured ones, then those of its comprehensions -/
structure LamOk (X : Cx) (k : Nat) (q : Str) (L : LamD) (z : Str) (tb : TE) : Prop where
  sc : LScope (z :: (L.fr ++ lamX q)) z L.fr L.scope
  bind : ∀ (cl : List (Str × Addr)) (pm cv ctv u : Value), bindArgs (PySem.W.kla_fn "<lambda>" (lamQ q) L.params L.body L.scope cl pm cv ctv) ⟨[u], []⟩ = pure [(z, u)]
  body : ∀ (cl : List (Str × Addr)) (c' f : Addr) (s : Shared) (H : Hp), Room k (X.A.deeper (envF (lamF q L (lamC L s cl) c') f s.heap.objs.size)) → PE (lamCx X (z :: (L.fr ++ lamX q)) q L cl c' f s H) L.body tb
def tApp (K : Fg) (i : Nat) (ta : TA) (tb : Str → LamD → TE) : TE := fun σ H Q => ∃ f o fd, σ[i]? = some (some (.ref f)) ∧ H f = some (exO f o) ∧ o.data = .func fd ∧
  ta σ H fun us H1 => ∃ v q vs L cl c' pm ctv, us = [v] ∧ LamAt K H1 f q vs L cl c' pm ctv ∧ (∀ c ∈ cellsOf cl, ∃ o, H1 c = some (exO c o)) ∧
    tb q L (some v :: (vs.map some ++ List.replicate (lamX q).length none)) (cut H1 (cellsOf cl)) fun v' H2 => (∀ c ∈ cellsOf cl, H2 c = none) → Q v' (gain H1 H2 (cellsOf cl))
theorem pe_app {tb : Str → LamD → TE} (hok : ∀ q L, lamOf X.K q = some L → ∀ σ H Q, tb q L σ H Q → ∃ z, LamOk X k q L z (tb q L)) (hr : Room (k + 1) X.A) (hN : X.N[i]? = some x) (hv : Vis X.env.scope x) (ha : PA X [a] ta)
    (hd : (x == ("__debug__" : Str)) = false := by decide) (hcd : (x == ("__classdict__" : Str)) = false := by decide)
    (he : starEach [a] X.env = (false, eval a X.env) :: starEach [] X.env := by rfl) (hpl : (backTo pos (starEach [] X.env)).any (·.1) = false := by rfl) : PE X (.Call (.Name x p) [a] [] pos) (tApp X.K i ta tb) := by
  refine ⟨fun pins s σ H Q I h => ?_⟩
  obtain ⟨f, o, fd, hσ, hf, hfd, h⟩ := h
  refine wpAny_Call_Name_kw (thn ((pe_var (pos := p) hN hv hd hcd).run pins s σ H (fun v H1 => v = .ref f ∧ H1 = H) I ⟨.ref f, hσ, rfl, rfl⟩) fun u s1 ⟨v, H1, I1, r1, q1⟩ => ?_)
  obtain ⟨ev, eH⟩ := q1
  subst ev
  rw [eH] at I1
  obtain rfl : u = Value.ref f := r1
  have at1 : PySem.W.FnAt f s1.heap := by
    obtain ⟨e1, _⟩ := I1.hok f _ hf
    obtain ⟨a1, a2, a3, a4⟩ := o
    simp only at hfd
    subst hfd
    exact ⟨_, _, _, _, e1⟩
  refine PySem.W.callWith_F (first := []) at1 (thn (ha.run pos pins s1 σ H _ I1 h) fun us s2 ⟨vs0, H2, I2, r, q⟩ => ?_) he hpl
  obtain ⟨v, q, vs, L, cl, c', pm, ctv, rfl, la, hcs, ht⟩ := q
  obtain ⟨e2, _⟩ := I2.hok f _ la.obj
  have e2' : s2.heap.get? f = some (PySem.W.kla_obj "<lambda>" (lamQ q) L.params L.body L.scope cl pm c' ctv) := e2
  refine ⟨⟨_, _, _, _, e2'⟩, ?_⟩
  obtain ⟨z, ok⟩ := hok q L la.of _ _ _ ht
  obtain ⟨u, rfl, rx⟩ := r.one
  show wpAny _ _ (call (.ref f) [u]) _ _ _
  have hce : ∀ c ∈ cellsOf cl, ∃ φ, H2 c = some (.ext φ) := fun c hc => by
    obtain ⟨o, e⟩ := hcs c hc
    exact ⟨_, e⟩
  have e0 := I2.env0
  have e0c : Env0 X.prog X.w X.K X.mg X.base X.A X.stack s2 (cut H2 (cellsOf cl)) :=
    ⟨e0.frames, e0.mod, fun b o hb => ⟨(e0.bs b o hb).1, cut_none (e0.bs b o hb).2⟩, e0.bsz, e0.funs, fun b hb => cut_none (e0.frf b hb), cut_ok e0.hok hce, e0.bare⟩
  have C : CellsAt cl L.fr (vs.map some) s2.heap (cut H2 (cellsOf cl)) := by
    refine ⟨by rw [List.length_map]; exact la.len, fun y c hy => ⟨cut_in (look_cells hy), ?_⟩, la.inj, fun j y hy => ?_⟩
    · obtain ⟨o, v, e3, e4⟩ := la.cell y c hy
      obtain ⟨e5, _⟩ := I2.hok c _ e3
      exact ⟨v, o, e5, e4⟩
    · obtain ⟨c, o, u, v, e3, e4, e5, e6, e7⟩ := la.has j y hy
      obtain ⟨e8, _⟩ := I2.hok c _ e4
      refine ⟨c, e3, fun v' hv' => ?_⟩
      rw [List.getElem?_map, e6] at hv'
      cases hv'
      exact ⟨u, e7, o, e8, e5⟩
  have S := ok.sc
  have lim : s2.heap.NoLimit := I2.nolimit
  have hcr : s2.heap.CodeRec (.ref c') (lamQ q) := codeO_at I2.hok la.code
  have rc : codeAny (model X.prog X.w) X.A (.call (.ref f) ⟨[u], []⟩) (CR CX0 X.stack X.prog X.w (cut H2 (cellsOf cl)) s2 (fun v' H3 => (∀ c ∈ cellsOf cl, H3 c = none) → Q v' (gain H2 H3 (cellsOf cl))) E0) s2 := by
    refine PySem.W.kla_callFunE hr.depth e2' rfl S.co S.gen rfl hcr ?_
    rw [ok.bind]
    have est : startF (z :: (L.fr ++ lamX q)) [v] (vs.map some) = some v :: (vs.map some ++ List.replicate (lamX q).length none) := by
      unfold startF
      have : (z :: (L.fr ++ lamX q)).length - [v].length - (vs.map some).length = (lamX q).length := by
        rw [List.length_map, la.len]; simp
      rw [this]; simp
    have main : ∀ (h₁ : Heap) (tk : Nat), Inv (lamCx X (z :: (L.fr ++ lamX q)) q L cl c' f s2 (cut H2 (cellsOf cl))) [] (startF (z :: (L.fr ++ lamX q)) [v] (vs.map some)) (cut H2 (cellsOf cl)) { s2 with heap := h₁, toks := tk } →
        codeAny (model X.prog X.w) X.A (.expr L.body (envF (lamF q L (lamC L s2 cl) c') f s2.heap.objs.size)) (CR CX0 X.stack X.prog X.w (cut H2 (cellsOf cl)) s2 (fun v' H3 => (∀ c ∈ cellsOf cl, H3 c = none) → Q v' (gain H2 H3 (cellsOf cl))) E0) { s2 with heap := h₁, toks := tk } := fun h₁ tk J => by
      rw [est] at J
      refine PySem.W.kla_codeExpr (wpAny_mono ((ok.body cl c' f s2 _ (hr.deeper _)).run [] _ _ _ _ J ht) (fun v' s' hq => ?_) fun e s' hq => hq)
      obtain ⟨w', H', J', rv, q⟩ := hq
      exact ⟨w', H', J'.os, J'.bare, J'.base, J'.hok, rv, q⟩
    rcases S.own with ⟨hl, nc⟩ | ⟨rest, hnm, nc⟩
    · have ecl : lamC L s2 cl = cl := cells_none _ _ _ nc
      have S' : NScope (z :: (L.fr ++ lamX q)) [z] L.fr L.scope := ⟨S.kind, S.co, S.gen, S.nd, S.pre, fun y hy => by rw [List.mem_singleton.mp hy]; exact hl, nc, S.free, S.frk⟩
      refine wpAny_pure (wpAny_newFunctionEnv nc (fun y hy => ?_) (fun h₁ hns hsb => ⟨lim.fresh _ hsb, ?_⟩) S.kind)
      · have : y = (z, u) := by simpa using hy
        subst this
        exact hl
      have kp : ∀ b o, s2.heap.get? b = some o → h₁.get? b = some o := fun b o e => hsb.extBut b o (Nat.ne_of_lt (Heap.lt_size e)) (Heap.get?_push_of_some _ e)
      have m := main h₁ (s2.toks + [(z, u)].length) (inv_startN (F := lamF q L (lamC L s2 cl) c') (ps := [z]) (us := [u]) S' hr.hd e0c rfl (.cons rx .nil) (by rw [ecl]; exact C) hns kp)
      rw [ecl] at m
      exact m
    · have ecl : lamC L s2 cl = (z, s2.heap.objs.size + 1) :: cl := by
        unfold lamC
        rw [hnm]
        unfold cellsFrom
        rw [if_pos (by rfl), cells_none rest _ _ nc]
      refine wpAny_pure (wpAny_newEnv_own S.kind hnm nc fun h₁ hns hc1 kp => ⟨lim.keeps kp, ?_⟩)
      exact main h₁ s2.toks (inv_startO (F := lamF q L (lamC L s2 cl) c') S hnm nc ecl hr.hd e0c rx C hns hc1 kp)
  refine wpAny_call (codeAny_mono rc fun r s3 hq => ?_)
  cases r with
  | error e => exact (show False from hq).elim
  | ok fl =>
    cases fl with
    | ret u' =>
      obtain ⟨v', H3, os, bare, un, hok3, rv, q⟩ := hq
      exact I2.after ⟨v', gain H2 H3 (cellsOf cl), os, bare, gain_un un hcs, gain_ok I2.hok un hok3 hcs I2.stkFree, rv, q fun c hc => gain_free I2.hok un hcs hc⟩
    | next => exact False.elim hq
    | brk => exact False.elim hq
    | cont => exact False.elim hq
mutual
theorem Dp.keepE {K : Fg} {F F' : Hp} (e : ∀ b o, F b = some o → (∀ φ, o ≠ .ext φ) → F' b = some o) : ∀ {v : V} {p : D}, Dp K F v p → p.plain = true → Dp K F' v p
  | _, _, .non, _ => .non
  | _, _, .bl b, _ => .bl b
  | _, _, .int i, _ => .int i
  | _, _, .str i, _ => .str i
  | _, _, .tup s r, h => .tup (e _ _ s (fun _ z => by cases z)) (DpAll.keepE e r (by simpa [PyData.plain] using h))
  | _, _, .tupK a b c d f g r, h => .tupK a b c d f g (DpAll.keepE e r (by simpa [PyData.plain] using h))
  | _, _, .lst s r, h => .lst (by
      rcases s with (s | ⟨o, s⟩) | s
      · exact .inl (.inl (e _ _ s (fun _ z => by cases z)))
      · exact .inl (.inr ⟨o, e _ _ s (fun _ z => by cases z)⟩)
      · exact .inr s) (DpAll.keepE e r (by simpa [PyData.plain] using h))
  | _, _, .dk s r, h => by simp [PyData.plain] at h
  | _, _, .dt s r, h => by simp [PyData.plain] at h
  | _, _, .q a b c d f, _ => .q a b c d f
  | _, _, .fn _ _, h => by simp [fnD, PyData.plain] at h
  | _, _, .nd _ _ _, h => by simp [PyData.plain] at h
theorem DpAll.keepE {K : Fg} {F F' : Hp} (e : ∀ b o, F b = some o → (∀ φ, o ≠ .ext φ) → F' b = some o) : ∀ {vs : List V} {ps : List D}, DpAll K F vs ps → PyData.plainAll ps = true → DpAll K F' vs ps
  | _, _, .nil, _ => .nil
  | _, _, .cons a b, h => by
    rw [PyData.plainAll, Bool.and_eq_true] at h
    exact .cons (Dp.keepE e a h.1) (DpAll.keepE e b h.2)
end
/-- a cell is no code object -/
theorem cell_code {c : Addr} {o : Obj} {v : Option Value} {q : Str} (hd : o.data = .cell v) : exO c o ≠ CodeO c q := fun z => by
  have z2 : (fun h : Heap => h.get? c = some o) = fun h => ∃ (oc : Obj) (vs : Array Value) (t : Tok), h.get? c = some oc ∧ oc.data = .fields vs ∧ vs[1]? = some (.str q t) := HO.ext.inj z
  have hg : (⟨Array.replicate (c + 1) o, {}⟩ : Heap).get? c = some o := by
    unfold Heap.get?
    have : (Array.replicate (c + 1) o)[c]? = some o := by simp
    rw [this]
    obtain ⟨a1, a2, a3, a4⟩ := o
    simp only at hd
    subst hd
    rfl
  have := congrFun z2 ⟨Array.replicate (c + 1) o, {}⟩
  have h3 : ∃ (oc : Obj) (vs : Array Value) (t : Tok), (⟨Array.replicate (c + 1) o, {}⟩ : Heap).get? c = some oc ∧ oc.data = .fields vs ∧ vs[1]? = some (.str q t) := this ▸ hg
  obtain ⟨oc, vs, t, e1, e2, e3⟩ := h3
  rw [hg] at e1
  cases e1
  rw [hd] at e2
  cases e2
theorem rs_lam {K : Fg} {B : Bs} {F H : Hp} {σ : St} {ρ : Rho} {C : List Addr} {us : List V} {ds : List D} (n : Nat) (R : Rs K B F H σ ρ) (hC : ∀ c ∈ C, ∃ o v, H c = some (exO c o) ∧ o.data = .cell v) (d : DpAll K F us ds) (pl : PyData.plainAll ds = true) :
    Rs K ⟨cut F C, cut H C, none, none⟩ (cut F C) (cut H C) (us.map some ++ List.replicate n none) (ds.map .v ++ List.replicate n .no) where
  sub := fun b o e => by
    have nb : b ∉ C := fun z => by rw [cut_in z] at e; cases e
    rw [cut_out nb] at e ⊢
    exact R.sub b o e
  ext := Same.refl _
  new := fun b h1 h2 => absurd h1 h2
  old := SameX.refl _
  hrow := fun r h => by cases h
  hr2 := fun r h => by cases h
  len := by rw [List.length_append, List.length_append, List.length_map, List.length_map, List.length_replicate, List.length_replicate, d.length]
  at_ := fun i s hs => by
    by_cases hi : i < ds.length
    rotate_left
    · rw [List.getElem?_append_right (by rw [List.length_map]; omega), List.getElem?_replicate] at hs
      split at hs
      · cases hs; exact .no
      · cases hs
    rw [List.getElem?_append_left (by rw [List.length_map]; exact hi), List.getElem?_map] at hs
    rw [List.getElem?_append_left (by rw [List.length_map, d.length]; exact hi)]
    obtain ⟨p, hp, rfl⟩ := Option.map_eq_some_iff.mp hs
    have d' : DpAll K (cut F C) us ds := d.keepE (fun b o e nx => by
      have nb : b ∉ C := fun z => by
        obtain ⟨o', v, e1, _⟩ := hC b z
        have := R.sub b o e
        rw [e1] at this
        exact nx _ (Option.some.inj this).symm
      rw [cut_out nb]; exact e) pl
    obtain ⟨v, hv, dv⟩ := d'.get hp
    rw [List.getElem?_map, hv]
    exact .v dv
  apart := fun i j a s t hij h1 h2 o1 o2 e1 e2 => by
    by_cases hi : i < ds.length
    · rw [List.getElem?_append_left (by rw [List.length_map]; exact hi), List.getElem?_map] at h1
      obtain ⟨p, hp, rfl⟩ := Option.map_eq_some_iff.mp h1
      cases o1
    · rw [List.getElem?_append_right (by rw [List.length_map]; omega), List.getElem?_replicate] at h1
      split at h1
      · cases h1; cases o1
      · cases h1
  tb := ⟨fun p hp => cut_none (R.tb.1 p hp), fun p hp => by
    obtain ⟨ps, h1, h2, h3⟩ := R.tb.2.1 p hp
    refine ⟨ps, ?_, h2, fun pos cv hc => ?_⟩
    · rw [cut_out (fun z => by obtain ⟨o, v, e1, _⟩ := hC _ z; rw [h1] at e1; cases e1)]; exact h1
    · obtain ⟨c, e1, e2⟩ := h3 pos cv hc
      exact ⟨c, e1, by
        rw [cut_out (fun z => by
          obtain ⟨o, v, e3, e4⟩ := hC _ z
          rw [e2] at e3
          exact cell_code e4 (Option.some.inj e3).symm)]
        exact e2⟩, fun b ps e => by
    by_cases hb : b ∈ C
    · rw [cut_in hb] at e; cases e
    · rw [cut_out hb] at e; exact R.tb.2.2 b ps e⟩
  tbh := fun p hp => by
    obtain ⟨ps, h1, _⟩ := R.tb.2.1 p hp
    exact ⟨ps, by
      show cut H C p.1 = _
      rw [cut_out (fun z => by obtain ⟨o, v, e1, _⟩ := hC _ z; rw [h1] at e1; cases e1)]; exact h1⟩
def dApp (lg : Str → Rho → Option D) : G2
  | .dict [(.none, .tuple (.str q :: ps))], a => if a.plain = true ∧ PyData.plainAll ps = true then (lg q (.v a :: (ps.map .v ++ List.replicate (lamX q).length .no))).bind fun z => if z.plain = true then some z else none else none
  | _, _ => none
theorem ef_app {lg : Str → Rho → Option D} {fa : Rho → Option D} (hok : ∀ q L, lamOf X.K q = some L → (∃ ρ z, lg q ρ = some z) → ∃ z, LamOk X k q L z (tW X.K (fW (lg q)))) (hr : Room (k + 1) X.A) (hN : X.N[i]? = some x) (hv : Vis X.env.scope x) (ha : EF X a fa)
    (hd : (x == ("__debug__" : Str)) = false := by decide) (hcd : (x == ("__classdict__" : Str)) = false := by decide)
    (he : starEach [a] X.env = (false, eval a X.env) :: starEach [] X.env := by rfl) (hpl : (backTo pos (starEach [] X.env)).any (·.1) = false := by rfl) : EF X (.Call (.Name x p) [a] [] pos) (b2 (dApp lg) (gV i) fa) :=
  ⟨fW_mono, (pe_app (tb := fun q L => tW X.K (fW (lg q))) (fun q L hq σ H Q ⟨B, F, ρ, R, z, e, _⟩ => hok q L hq ⟨ρ, z, e⟩) hr hN hv (pa_cons ha.pe pa_nil he) hd hcd he hpl).imp fun σ H Q ⟨B, F, ρ, R, z, e, k⟩ => by
    obtain ⟨p1, e1, e⟩ := Option.bind_eq_some_iff.mp e
    obtain ⟨p2, e2, e⟩ := Option.bind_eq_some_iff.mp e
    unfold dApp at e
    split at e
    · rename_i q ps pa
      split at e
      · rename_i hpl
        obtain ⟨z', e3, e4⟩ := Option.bind_eq_some_iff.mp e
        split at e4
        · rename_i hz
          cases e4
          unfold gV at e1
          split at e1
          · rename_i s hs
            cases e1
            have at_i := R.at_ i _ hs
            generalize hσ : σ[i]? = o at at_i
            cases at_i with
            | v dfn =>
              obtain ⟨f, rfl, hh⟩ := Dp.inv_dictQ dfn
              rcases hh with ⟨o9, es, _, r⟩ | ⟨o9, e9, es, _, r⟩ | ⟨i1, i2, h0, _⟩ | ⟨q', vs, ps', h0, la, dps⟩
              · cases r
              · cases r
              · cases h0
              · cases h0
                obtain ⟨L, cl, c', pm, ctv, la⟩ := la
                refine ⟨f, _, _, hσ, R.sub _ _ la.obj, rfl, B, F, ρ, R, p2, e2, fun F1 H1 v R1 s1 d1 => ?_⟩
                have la1 := la.same (s1.trans R1.sub)
                have hC : ∀ c ∈ cellsOf cl, ∃ o v, H1 c = some (exO c o) ∧ o.data = .cell v := fun c hc => by
                  obtain ⟨y, hy⟩ := cells_look hc
                  exact la1.cell y c hy
                refine ⟨v, q, vs, L, cl, c', pm, ctv, rfl, la1, fun c hc => by obtain ⟨o, w, a1, _⟩ := hC c hc; exact ⟨o, a1⟩, ?_⟩
                have dall : DpAll X.K F1 (v :: vs) (p2 :: ps) := .cons d1 (dps.same s1)
                have Rl := rs_lam (lamX q).length R1 hC dall (by rw [PyData.plainAll, hpl.1, hpl.2]; rfl)
                refine ⟨_, _, _, Rl, z, e3, fun F' H' v' R' s' d' hn => ?_⟩
                have nF' : ∀ b o, F' b = some o → b ∉ cellsOf cl := fun b o e9 hb => by
                  have := R'.sub b o e9
                  rw [hn b hb] at this; cases this
                have sF' : Same F' (gain F1 F' (cellsOf cl)) := fun b o e9 => by rw [gain_out (nF' b o e9)]; exact e9
                have s2 : Same F1 (gain F1 F' (cellsOf cl)) := fun b o e9 => by
                  by_cases hb : b ∈ cellsOf cl
                  · rw [gain_in hb]; exact e9
                  · rw [gain_out hb]; exact s' b o (by rw [cut_out hb]; exact e9)
                have tl : ∀ p ∈ tbT X.K, p.1 ∉ cellsOf cl := fun p hp hb => by
                  obtain ⟨o, w, a1, _⟩ := hC _ hb
                  obtain ⟨qs, h9, _⟩ := R1.tb.2.1 p hp
                  rw [h9] at a1; cases a1
                refine k _ _ v' (R1.call s2 (fun b o hx e9 => ?_) (fun b o e9 => ?_) ⟨fun p hp => ?_, tabs_ext R'.tb.2.1 fun b o e9 _ => ?_, ?_⟩ fun b h8 h9 => ?_) (s1.trans s2) (d'.same sF')
                · by_cases hb : b ∈ cellsOf cl
                  · rw [gain_in hb]; exact e9
                  · rw [gain_out hb]; exact R'.old b o hx (by show cut H1 _ b = _; rw [cut_out hb]; exact e9)
                · by_cases hb : b ∈ cellsOf cl
                  · rw [gain_in hb] at e9 ⊢; exact R1.sub b o e9
                  · rw [gain_out hb] at e9 ⊢; exact R'.sub b o e9
                · rw [gain_out (tl p hp)]; exact R'.tb.1 p hp
                · rw [gain_out (fun hb => by rw [hn b hb] at e9; cases e9)]; exact e9
                · intro b qs e9
                  by_cases hb : b ∈ cellsOf cl
                  · rw [gain_in hb] at e9; exact R1.tb.2.2 b qs e9
                  · rw [gain_out hb] at e9; exact R'.tb.2.2 b qs e9
                · by_cases hb : b ∈ cellsOf cl
                  · rw [gain_in hb] at h9; exact absurd h8 h9
                  · rw [gain_out hb] at h9
                    have := R'.new b (by show cut F1 _ b = none; rw [cut_out hb]; exact h8) h9
                    have z9 : Fz (cut H1 (cellsOf cl) b) := this
                    rw [cut_out hb] at z9
                    exact z9
          · cases e1
        · cases e4
      · cases e
    · cases e⟩
end
end L2.P


set_option Elab.async false
set_option linter.all false
set_option maxRecDepth 100000
set_option maxHeartbeats 4000000
namespace L2.P
open PySem PySem.Spec PyProof.Rows L2 NdefX LamX
/-- every object of the heap, exactly -/
def gh (h : Heap) : Hp := fun b => (h.get? b).map (exO b)
theorem gh_at {h : Heap} {b : Addr} {o : Obj} (e : h.get? b = some o) : gh h b = some (exO b o) := by unfold gh; rw [e]; rfl
section
variable {P : Program} {w : World} {H H' : Hp} {h h' : Heap} {C fs : List Addr}
theorem plus_ok (ok : HOk P w H h) (hc : ∀ c ∈ C, H c = none ∧ ∃ o, h.get? c = some o) : HOk P w (gain (gh h) H C) h := fun b u e => by
  by_cases hb : b ∈ C
  · obtain ⟨n, o, ho⟩ := hc b hb
    rw [gain_in hb, gh_at ho] at e
    cases e
    exact ⟨ho, ⟨o, ho⟩, fun h1 h2 q st => st _ q⟩
  · rw [gain_out hb] at e
    refine (ok b u e).stay (fun c v _ q => q) (fun d q => ?_) fun d xs q => ?_
    · rw [gain_out (fun z => by rw [(hc d z).1] at q; cases q)]; exact q
    · rw [gain_out (fun z => by rw [(hc d z).1] at q; cases q)]; exact q
theorem plus_un (un : Un fs [] (gain (gh h) H C) H' h h') (hc : ∀ c ∈ C, H c = none ∧ ∃ o, h.get? c = some o) (ok' : HOk P w H' h') (st : ∀ c ∈ C, H' c = gh h c) : Un fs [] H (cut H' C) h h' := by
  have same : ∀ b o, b ∈ C → h.get? b = some o → h'.get? b = some o := fun b o hb e => by
    have e1 := st b hb
    rw [gh_at e] at e1
    exact (ok' b _ e1).1
  have nC : ∀ b u, H b = some u → b ∉ C := fun b u e hb => by rw [(hc b hb).1] at e; cases e
  refine ⟨fun b o e n hf hx => ?_, fun b o e n hf hx => ?_, fun b o e n hx => ?_, un.there, fun b xs e => ?_, fun b o u e => ?_, fun b ps e => ?_⟩
  · by_cases hb : b ∈ C
    · exact same b o hb e
    · exact un.keep b o e (by rw [gain_out hb]; exact n) hf hx
  · by_cases hb : b ∈ C
    · exact ⟨o.slots, same b o hb e⟩
    · exact un.slot b o e (by rw [gain_out hb]; exact n) hf hx
  · by_cases hb : b ∈ C
    · exact cut_in hb
    · exact cut_none (un.free b o e (by rw [gain_out hb]; exact n) hx)
  · rw [cut_out (nC b _ e)]; exact un.tups b xs (by rw [gain_out (nC b _ e)]; exact e)
  · rw [cut_out (nC b _ e)]; exact un.frzs b o u (by rw [gain_out (nC b _ e)]; exact e)
  · rw [cut_out (nC b _ e)]; exact un.tbls b ps (by rw [gain_out (nC b _ e)]; exact e)
end
theorem LamAt.on {K : Fg} {F F' : Hp} {a : Addr} {q : Str} {vs : List V} {L : LamD} {cl : List (Str × Addr)} {c' : Addr} {pm ctv : Value} (h : LamAt K F a q vs L cl c' pm ctv) (e : ∀ b o, b = a ∨ b = c' ∨ b ∈ cellsOf cl → F b = some o → F' b = some o) : LamAt K F' a q vs L cl c' pm ctv where
  of := h.of
  obj := e _ _ (.inl rfl) h.obj
  code := e _ _ (.inr (.inl rfl)) h.code
  cell := fun y c hc => by
    obtain ⟨o, v, e1, e2⟩ := h.cell y c hc
    exact ⟨o, v, e _ _ (.inr (.inr (look_cells hc))) e1, e2⟩
  inj := h.inj
  len := h.len
  has := fun i y hy => by
    obtain ⟨c, o, u, v, e1, e2, e3, e4, e5⟩ := h.has i y hy
    exact ⟨c, o, u, v, e1, e _ _ (.inr (.inr (look_cells e1))) e2, e3, e4, e5⟩
section
variable {X : Cx} {pins : List (Addr × Obj)} {σ : L2.St} {H : Hp} {s : Shared}
/-- the running heap grows by an object that is told exactly -/
theorem inv_ex {o : Obj} {t' : Nat} (I : Inv X pins σ H s) (hf : o.isFreed = false := by rfl) : Inv X pins σ (upd H s.heap.objs.size (exO s.heap.objs.size o)) { s with heap := s.heap.push o, toks := t' } := by
  have e : (s.heap.push o).get? s.heap.objs.size = some o := Heap.get?_push_size _ hf
  exact I.laid (fun b u e => Heap.get?_push_of_some _ e) (Nat.le_refl _) ⟨e, ⟨o, e⟩, fun h1 h2 q st => st _ q⟩
/-- the lambda is made, its object known; but for the table all that was known stays -/
theorem lam_made {T : List (Addr × Str)} {q : Str} {c P : Addr} {params : Arguments} {body : Expr} {scope : Scope} {pos : Pos} {E : Value → Shared → Prop} {Q : Value → Shared → Prop} (I : Inv X pins σ H s) (TB : TabB X.base X.mg c P) (hcode : X.env.code = .ref c) (hq : X.env.qual ++ "<lambda>" = q)
    (hm : (P, q) ∈ T) (hu : ∀ p ∈ T, p.1 = P → p.2 = q) (hT : Tabs T H) (hdef : defaultsOf params X.env = ([], [])) (hfree : ∀ y ∈ scope.names, y.2 = .free → ∃ c, X.env.cells.lookup y.1 = some c)
    (h : ∀ (f c' : Addr) (pm ctv : Value) (H1 : Hp) (s' : Shared), Inv X pins σ H1 s' → (∀ b o, b ≠ P → H b = some o → H1 b = some o) → (∀ b, H1 b = none → H b = none) → Tabs T H1 → H f = none →
      H1 f = some (exO f (PySem.W.kla_obj "<lambda>" q params body scope (cloFrom X.env.cells scope.names []) pm c' ctv)) → H1 c' = some (CodeO c' q) → Q (.ref f) s') :
    wpAny (model X.prog X.w) X.A (eval (.Lambda params body scope pos) X.env) Q E s := by
  subst hq
  obtain ⟨ps, hP, ht, ha⟩ := hT _ hm
  have atP : s.heap.get? P = some { cls := .none, data := .fields ps } := I.hok P _ hP
  have bP : s.heap.BuiltinsAt X.mg P := TB.bm.keeps I.bk
  refine PySem.W.kla_eval hdef ?_
  cases hc : codeAmong pos ps.toList with
  | some cv =>
    obtain ⟨c', rfl, hco⟩ := ha pos cv hc
    refine PySem.W.kla_makeFunctionHit (mg := X.mg) (c := c) (P := P) (ps := ps) (closure_ok hfree) I.ok.glob (I.mod.glob.keeps I.bk) hcode (TB.code.keeps I.bk) atP ht hc bP fun ctv h' tk hx hsz => ?_
    have I1 : Inv X pins σ H { s with heap := h', toks := tk } := I.kept hx
    have nf : H h'.objs.size = none := I1.hok.fresh (Nat.le_refl _)
    exact h h'.objs.size c' ((X.mg "__name__").getD .none) ctv _ _ (inv_ex (t' := tk) I1) (fun b o _ e => (upd_ne (ne_of_none e nf)).trans e) (fun b e => upd_none e) (hT.ext fun b o e => (upd_ne (ne_of_none e nf)).trans e) nf upd_same ((upd_ne (ne_of_none hco nf)).trans hco)
  | none =>
    refine PySem.W.kla_makeFunction (mg := X.mg) (c := c) (P := P) (ps := ps) (closure_ok hfree) I.ok.glob (I.mod.glob.keeps I.bk) hcode (TB.code.keeps I.bk) atP ht hc TB.gP bP fun c' ctv h' tk hx hge hlt hrec htb => ?_
    obtain ⟨c2, oc, vs, t, e2, hoc, hd, hv⟩ := hrec
    cases e2
    have nC : H c' = none := I.hok.fresh hge
    have I1 := inv_table (t' := tk) (more := #[rawInt pos.line, rawInt pos.col, .ref c']) (h' := h') I hP (fun b o hb e => hx b o hb e) htb hge ⟨oc, vs, t, hoc, hd, hv⟩
    have keep : ∀ b o, b ≠ P → H b = some o → upd (upd H P (.tbl (ps ++ #[rawInt pos.line, rawInt pos.col, .ref c']))) c' (CodeO c' (X.env.qual ++ "<lambda>")) b = some o := fun b o n e => by
      rw [upd_ne (ne_of_none e nC), upd_ne n]; exact e
    have T1 : Tabs T (upd (upd H P (.tbl (ps ++ #[rawInt pos.line, rawInt pos.col, .ref c']))) c' (CodeO c' (X.env.qual ++ "<lambda>"))) := fun p hp => by
      have coP : ∀ c0, H c0 = some (CodeO c0 p.2) → c0 ≠ P := fun c0 e z => by
        rw [z, hP] at e
        exact codeO_ne ps (Option.some.inj e).symm
      by_cases hb : p.1 = P
      · have hp2 := hu p hp hb
        refine ⟨ps ++ #[rawInt pos.line, rawInt pos.col, .ref c'], by rw [hb, upd_ne (ne_of_none hP nC), upd_same], by simpa using PySem.TriplesOk_snoc _ _ _ _ ht, fun p' cv hcv => ?_⟩
        have hcv' : codeAmong p' (ps.toList ++ [rawInt pos.line, rawInt pos.col, .ref c']) = some cv := by simpa using hcv
        rcases among_app _ ht hcv' with z | z
        · obtain ⟨c0, e1, e2⟩ := ha p' cv z
          exact ⟨c0, e1, by rw [hp2]; exact keep _ _ (coP c0 (by rw [hp2]; exact e2)) e2⟩
        · exact ⟨c', z, by rw [hp2]; exact upd_same⟩
      · obtain ⟨qs, a1, a2, a3⟩ := hT p hp
        refine ⟨qs, keep _ _ hb a1, a2, fun p' cv hcv => ?_⟩
        obtain ⟨c0, e1, e2⟩ := a3 p' cv hcv
        exact ⟨c0, e1, keep _ _ (coP c0 e2) e2⟩
    have nf := I1.hok.fresh (Nat.le_refl _)
    refine h h'.objs.size c' ((X.mg "__name__").getD .none) ctv _ _ (inv_ex (t' := tk) I1) (fun b o n e => (upd_ne (ne_of_none (keep b o n e) nf)).trans (keep b o n e)) (fun b e => upd_none (upd_none (upd_none e))) (T1.ext fun b o e => (upd_ne (ne_of_none e nf)).trans e) ?_ upd_same ?_
    · exact I.hok.fresh (Nat.le_trans hge (Nat.le_of_lt hlt))
    · exact (upd_ne (Nat.ne_of_lt hlt)).trans upd_same
end
/-- the lambda made -/
def tML (K : Fg) (q : Str) (L : LamD) (P : Addr) (cl : List (Str × Addr)) : TE := fun σ H Q => Tabs (tbT K) H ∧ ∀ (f c' : Addr) (pm ctv : Value) (H1 : Hp), (∀ b o, b ≠ P → H b = some o → H1 b = some o) → (∀ b, H1 b = none → H b = none) → Tabs (tbT K) H1 → H f = none →
  H1 f = some (exO f (PySem.W.kla_obj "<lambda>" (lamQ q) L.params L.body L.scope cl pm c' ctv)) → H1 c' = some (CodeO c' (lamQ q)) → Q (.ref f) H1
section
variable {X : Cx} {L : LamD} {q : Str} {c P : Addr} {pos : Pos}
theorem pe_mlam (TB : TabB X.base X.mg c P) (hcode : X.env.code = .ref c) (hq : X.env.qual ++ "<lambda>" = lamQ q) (hm : (P, lamQ q) ∈ tbT X.K) (hu : ∀ p ∈ tbT X.K, p.1 = P → p.2 = lamQ q) (hdef : defaultsOf L.params X.env = ([], []))
    (hfree : ∀ y ∈ L.scope.names, y.2 = .free → X.env.scope.names.lookup y.1 = some .cell ∨ X.env.scope.names.lookup y.1 = some .free) : PE X (.Lambda L.params L.body L.scope pos) (tML X.K q L P (cloFrom X.env.cells L.scope.names [])) := by
  refine ⟨fun pins s σ H Q I h => ?_⟩
  obtain ⟨hT, h⟩ := h
  have hfr : ∀ y ∈ L.scope.names, y.2 = .free → ∃ c, X.env.cells.lookup y.1 = some c := fun y hy e => (hfree y hy e).elim (fun z => I.ok.has _ (.inl z)) fun z => I.ok.has _ (.inr z)
  refine lam_made I TB hcode hq hm hu hT hdef hfr fun f c' pm ctv H1 s' I1 k1 k2 T1 nf hf hco => ?_
  exact ⟨.ref f, H1, I1, rfl, h f c' pm ctv H1 k1 k2 T1 nf hf hco⟩
end
/-- G tells the cells cl, the names fr among them hold vs -/
structure CapsG (G : Hp) (cl : List (Str × Addr)) (fr : List Str) (vs : List V) : Prop where
  cell : ∀ y c, cl.lookup y = some c → ∃ o v, G c = some (exO c o) ∧ o.data = .cell v
  inj : ∀ x y c, cl.lookup x = some c → cl.lookup y = some c → x = y
  len : vs.length = fr.length
  has : ∀ (i : Nat) (y : Str), fr[i]? = some y → ∃ c o u v, cl.lookup y = some c ∧ G c = some (exO c o) ∧ o.data = .cell (some u) ∧ vs[i]? = some v ∧ RelV v u
def tCL (cl : List (Str × Addr)) (fr : List Str) (js : List Nat) (sp : Sp) (t : TA) : TE := fun σ H Q => t σ H fun vs H1 => ∃ vs' : List V, js.map (NdefX.slotAt σ) = vs'.map some ∧
  ∀ G : Hp, (∀ c ∈ cellsOf cl, H1 c = none) → CapsG G cl fr vs' → sp vs (gain G H1 (cellsOf cl)) (fun v H2 => (∀ c ∈ cellsOf cl, H2 c = G c) ∧ Q v (cut H2 (cellsOf cl))) E0
section
variable {X : Cx} {k : Nat} {x : Str} {f : Addr} {fd : FuncData} {ps fr : List Str} {js : List Nat} {cl : List (Str × Addr)} {sp : Sp} {t : TA} {e : Expr} {es : List Expr} {p pos : Pos}
theorem pe_callCl (F : FnOk X.prog X.w X.K X.mg X.base CX0 k f fd ps sp) (hr : Room k X.A) (hg : Gl X x) (hm : X.mg x = some (.ref f)) (hk : PySem.W.keepIn X.K (.ref f) = true) (hb : Binds X.K fd ps [])
    (hfn : ∀ y, X.fn y = true) (cp : X.Ok → Caps X cl fr js) (ha : PA X (e :: es) t) (hdb : (x == ("__debug__" : Str)) = false := by decide) (he : starEach (e :: es) X.env = (false, eval e X.env) :: starEach es X.env := by rfl) (hpl : (backTo pos (starEach es X.env)).any (·.1) = false := by rfl) :
    PE X (.Call (.Name x p) (e :: es) [] pos) (tCL cl fr js sp t) := by
  refine ⟨fun pins s σ H Q I h => ?_⟩
  refine wpAny_Call_Name_kw (ld_glob I hg hm ?_ hdb)
  refine PySem.W.callWith_K (h₀ := X.base) I.ok.mod.kin hk (thn (ha.run pos pins s σ H _ I h) fun us s1 ⟨vs, H1, I1, r, q⟩ => ⟨I1.kIn, ?_⟩) he hpl
  obtain ⟨vs', hvs, q⟩ := q
  have C := cells_of I1 (cp I1.ok)
  have cel : ∀ c ∈ cellsOf cl, H1 c = none ∧ ∃ v, s1.heap.IsCell c v := fun c hc => by
    obtain ⟨y, hy⟩ := cells_look hc
    exact C.all y c hy
  have cab : ∀ c ∈ cellsOf cl, X.s_0.heap.objs.size ≤ c := fun c hc => by
    obtain ⟨y, hy⟩ := cells_look hc
    exact I1.ok.cab y c (hfn y) ((cp I1.ok).sub y c hy)
  have hc : ∀ c ∈ cellsOf cl, H1 c = none ∧ ∃ o, s1.heap.get? c = some o := fun c h => by
    obtain ⟨n, v, o, ho, _⟩ := cel c h
    exact ⟨n, o, ho⟩
  have G : CapsG (gh s1.heap) cl fr vs' := by
    refine ⟨fun y c hy => ?_, C.inj, ?_, fun i y hy => ?_⟩
    · obtain ⟨_, v, o, ho, hd⟩ := C.all y c hy
      exact ⟨o, v, gh_at ho, hd⟩
    · have := C.len
      rw [hvs, List.length_map] at this
      exact this
    · obtain ⟨c, e1, e2⟩ := C.has i y hy
      have hl : i < vs'.length := by
        have h1 := (List.getElem?_eq_some_iff.mp hy).1
        have := C.len
        rw [hvs, List.length_map] at this
        omega
      obtain ⟨u, rv, o, ho, hd⟩ := e2 vs'[i] (by rw [hvs, List.getElem?_map, List.getElem?_eq_getElem hl]; rfl)
      exact ⟨c, o, u, vs'[i], e1, gh_at ho, hd, List.getElem?_eq_getElem hl, rv⟩
  have q := q (gh s1.heap) (fun c h => (hc c h).1) G
  have e0 := I1.env0
  have e0' : Env0 X.prog X.w X.K X.mg X.base X.A X.stack s1 (gain (gh s1.heap) H1 (cellsOf cl)) := by
    refine ⟨e0.frames, e0.mod, fun b o hb => ⟨(e0.bs b o hb).1, ?_⟩, e0.bsz, e0.funs, fun b hb => ?_, plus_ok e0.hok hc, e0.bare⟩
    · rw [gain_out (fun z => by
        have h1 := cab b z
        have h2 := Heap.lt_size hb
        have h3 := I1.ok.bsz
        exact absurd (Nat.lt_of_lt_of_le h2 (Nat.le_trans h3 h1)) (Nat.lt_irrefl _))]
      exact (e0.bs b o hb).2
    · rw [gain_out (fun z => ?_)]
      · exact e0.frf b hb
      · rcases List.mem_cons.mp (I1.stkSub b hb) with e | hb'
        · obtain ⟨y, hy⟩ := cells_look z
          exact I1.cne y b ((cp I1.ok).sub y b hy) e
        · obtain ⟨_, o, ho, _⟩ := I1.ok.funs.mem hb'
          exact absurd (Nat.lt_of_lt_of_le (Heap.lt_size ho) (cab b z)) (Nat.lt_irrefl _)
  have hl : (us ++ []).length = ps.length := by rw [List.append_nil, ← r.length]; exact F.len _ _ _ _ q
  refine wpAny_call (codeAny_mono (F.run X.A X.stack s1 _ ⟨us, []⟩ (us ++ []) vs _ _ hr e0' (hb s1 us I1.kIn hl) (by rw [List.append_nil]; exact r) q) fun r s' hq => ?_)
  cases r with
  | error e => exact (show False from hq).elim
  | ok fl =>
    cases fl with
    | ret u =>
      obtain ⟨v, H', os, bare, un, hok, rv, st, q⟩ := hq
      refine I1.after ⟨v, cut H' (cellsOf cl), os, bare, plus_un un hc hok st, cut_ok hok (fun c h => ?_), rv, q⟩
      obtain ⟨_, o, ho⟩ := hc c h
      exact ⟨_, by rw [st c h, gh_at ho]; rfl⟩
    | next => exact False.elim hq
    | brk => exact False.elim hq
    | cont => exact False.elim hq
end
def capD : List Nat → Rho → Option (List D)
  | [], _ => some []
  | j :: js, ρ => match ρ[j]? with
    | some (.v p) => (capD js ρ).bind fun ps => some (p :: ps)
    | _ => none
theorem capD_ok {K : Fg} {B : Bs} {F H : Hp} {σ : L2.St} {ρ : Rho} (R : Rs K B F H σ ρ) : ∀ {js : List Nat} {cs : List D}, capD js ρ = some cs → ∃ vs : List V, js.map (NdefX.slotAt σ) = vs.map some ∧ DpAll K F vs cs
  | [], cs, h => by cases h; exact ⟨[], rfl, .nil⟩
  | j :: js, cs, h => by
    unfold capD at h
    split at h
    · rename_i p hp
      obtain ⟨ps, h1, h2⟩ := Option.bind_eq_some_iff.mp h
      cases h2
      obtain ⟨vs, e1, d⟩ := capD_ok R h1
      have q := R.at_ j _ hp
      generalize hσ : σ[j]? = o at q
      cases q with
      | @v x _ dx => exact ⟨x :: vs, by rw [List.map_cons, List.map_cons, e1, NdefX.slotAt_of hσ], .cons dx d⟩
    · cases h
theorem tabs_cut {T : List (Addr × Str)} {H : Hp} {C : List Addr} (t : Tabs T H) (hC : ∀ c ∈ C, ∃ o v, H c = some (exO c o) ∧ o.data = .cell v) : Tabs T (cut H C) := fun p hp => by
  obtain ⟨ps, h1, h2, h3⟩ := t p hp
  refine ⟨ps, ?_, h2, fun pos cv hc => ?_⟩
  · rw [cut_out (fun z => by obtain ⟨o, v, e1, _⟩ := hC _ z; rw [h1] at e1; cases e1)]; exact h1
  · obtain ⟨c, e1, e2⟩ := h3 pos cv hc
    exact ⟨c, e1, by
      rw [cut_out (fun z => by
        obtain ⟨o, v, e3, e4⟩ := hC _ z
        rw [e2] at e3
        exact cell_code e4 (Option.some.inj e3).symm)]
      exact e2⟩
section
variable {X : Cx} {L : LamD} {q x : Str} {c P : Addr} {js : List Nat} {g : GA} {f1 f2 : Rho → Option D} {e1 e2 : Expr} {p pos lpos : Pos}
end
end L2.P


set_option Elab.async false
set_option linter.all false
set_option maxRecDepth 100000
set_option maxHeartbeats 4000000
namespace L2.P
open PySem PySem.Spec PyProof.Rows L2 NdefX LamX
/-- what is known of a def q that makes the lambda L -/
structure MkOk (K : Fg) (mg : Str → Option Value) (base : Heap) (q : Str) (L : LamD) : Prop where
  tb : TabB base mg (He.codeOf K (q, none)) (He.tabOf K (He.codeOf K (q, none)))
  tm : (He.tabOf K (He.codeOf K (q, none)), lamQ q) ∈ tbT K
  tu : ∀ p ∈ tbT K, p.1 = He.tabOf K (He.codeOf K (q, none)) → p.2 = lamQ q
  ll : lamOf K q = some L
def mkB (K : Fg) (q : Str) : Bool := decide ((He.tabOf K (He.codeOf K (q, none)), lamQ q) ∈ tbT K) && (tbT K).all fun p => !decide (p.1 = He.tabOf K (He.codeOf K (q, none))) || decide (p.2 = lamQ q)
theorem mkB_ok {K : Fg} {mg : Str → Option Value} {base : Heap} {q : Str} {L : LamD} (h : mkB K q = true) (tb : TabB base mg (He.codeOf K (q, none)) (He.tabOf K (He.codeOf K (q, none)))) (ll : lamOf K q = some L) : MkOk K mg base q L := by
  obtain ⟨h1, h2⟩ := Bool.and_eq_true_iff.mp h
  refine ⟨tb, of_decide_eq_true h1, fun p hp e => ?_, ll⟩
  have := List.all_eq_true.mp h2 p hp
  rw [Bool.or_eq_true] at this
  rcases this with z | z
  · rw [decide_eq_true e] at z; cases z
  · exact of_decide_eq_true z
section
variable {P : Program} {w : World} {K : Fg} {mg : Str → Option Value} {base : Heap} {x qual : Str} {params : Arguments} {body : List Stmt} {scope : Scope} {fd : FuncData} {N ps : List Str} {k : Nat} {dvs : List V} {kws : List (Str × V)}
theorem lamOf_fd {f : Addr} (F : FunD K x qual params body scope dvs kws f fd) (hn : PySem.W.nsIn K mainGlobals x = some (some (.ref f))) (hb : lamB x = x := by decide +kernel) (hi : lamI x = none := by decide +kernel) : lamOf K x = body.getLast?.bind lamSt := by
  obtain ⟨oc, od, dV, kV, doc, pm, an, cdv, ct, osl, rfl, lk, hcd, _, _⟩ := F.ex
  unfold lamOf
  rw [hb, hi, hn]
  dsimp only
  rw [lk]
theorem lamOf_law {f : Addr} {q : Str} {j : Nat} (F : FunD K x qual params body scope dvs kws f fd) (hn : PySem.W.nsIn K mainGlobals x = some (some (.ref f))) (hb : lamB q = x) (hi : lamI q = some j) : lamOf K q = (body.filterMap lamIn)[j]? := by
  obtain ⟨oc, od, dV, kV, doc, pm, an, cdv, ct, osl, rfl, lk, hcd, _, _⟩ := F.ex
  unfold lamOf
  rw [hb, hi, hn]
  dsimp only
  rw [lk]
/-- THE RULE: a def without draws, its code object told -/
theorem fn_pureFC {g : Rho → Option Fl} {n : Nat} (Fd : FunD K x qual params body scope [] [] (He.fAd K (x, none)) fd) (S : FnScope N ps scope) (hn : ps.length = n) (hnN : n ≤ N.length)
    (hb : ∀ (A : Around) (outer : List Env) (s : Shared) (H : Hp) (E : XK), Room k (A.deeper (envOfC qual scope s.heap.objs.size (He.fAd K (x, none)) (.ref (He.codeOf K (x, none))))) → SFs (cxOf CX0 P w K mg base N qual scope (He.fAd K (x, none)) (.ref (He.codeOf K (x, none))) A outer s H E).nox body g) :
    FnOk P w K mg base CX0 (k + 1) (He.fAd K (x, none)) fd ps (spF K n (fun ds Kc => ∃ z, runF N.length g ds = some z ∧ Kc z)) := by
  obtain ⟨oc, od, dV, kV, doc, pm, an, cdv, ct, osl, rfl, lk, hcd, _, _⟩ := Fd.ex
  obtain ⟨c, rfl⟩ := He.codeIn_ref hcd
  have ec := He.codeOf_eq lk rfl
  rw [ec] at hb
  have key : FnOk P w K mg base CX0 (k + 1) (He.fAd K (x, none)) (PySem.W.fnOf x qual params body scope dV kV doc pm an (.ref c) ct) ps (spF K n (runW N.length (fW g))) := by
    refine fn_of lk hcd S (fun vs H Q E h => by rw [h.1, hn]) fun A outer s H vs Q E hr h => ?_
    have W := hb A outer s H E hr
    refine ⟨_, PSs.nox W.pss, ?_⟩
    obtain ⟨hl, F, ds, sF, tb, d, q⟩ := h
    refine ⟨⟨F, H, none, none⟩, F, rho0 N.length ds, rs_start sF tb d (by omega), W.mono _ _ _ (fun fl k => ?_) q⟩
    cases fl with
    | nx ρ' => exact fun F' H' σ' R' s' => k F' H' .non s' R'.old R'.sub R'.tb R'.new .non
    | rt p => exact fun F' H' v ⟨σ', ρ', R'⟩ s' d' => k F' H' v s' R'.old R'.sub R'.tb R'.new d'
    | bk ρ' => exact k.elim
    | ct ρ' => exact k.elim
  refine FnOk.imp key fun vs H Q E ⟨h0, F, ds, s, tb, d, z, e, q⟩ => ⟨h0, F, ds, s, tb, d, ?_⟩
  unfold runF at e
  split at e
  · rename_i p h; cases e; exact ⟨_, h, q⟩
  · rename_i p h; cases e; exact ⟨_, h, q⟩
  · cases e
end
def tabsOkB (K : Fg) (tf : List He.Defn) : Bool := (tbT K).all fun p => tf.any fun q => decide ((He.cT K q).2 = p.1)
def noTbH (H : Hp) : Hp := fun b => match H b with
  | some (.tbl _) => none
  | o => o
theorem noTbH_sub {H : Hp} : Same (noTbH H) H := fun b o e => by
  unfold noTbH at e
  split at e
  · cases e
  · exact e
theorem noTbH_at {H : Hp} {b : Addr} {o : HO} (e : H b = some o) (no : ∀ ps, o ≠ .tbl ps) : noTbH H b = some o := by
  unfold noTbH
  rw [e]
  split
  · rename_i z; cases z; exact absurd rfl (no _)
  · rfl
theorem noTbH_lst {K : Fg} {H : Hp} {a : Addr} {xs : List V} (h : SqL K H a xs) : SqL K (noTbH H) a xs := by
  rcases h with (h | ⟨o, h⟩) | h
  · exact .inl (.inl (noTbH_at h fun _ z => by cases z))
  · exact .inl (.inr ⟨o, noTbH_at h fun _ z => by cases z⟩)
  · exact .inr h
theorem TbOk.start {K : Fg} {H : Hp} {tf : List He.Defn} (hc : tabsOkB K tf = true) (hH : ∀ p ∈ tf.map (He.cT K), H p.2 = some (.tbl #[])) : TbOk K (noTbH H) H := by
  have key : ∀ p ∈ tbT K, H p.1 = some (.tbl #[]) := fun p hp => by
    have := List.all_eq_true.mp hc p hp
    obtain ⟨q, hq, e⟩ := List.any_eq_true.mp this
    rw [← of_decide_eq_true e]
    exact hH _ (List.mem_map.mpr ⟨q, hq, rfl⟩)
  refine ⟨fun p hp => by unfold noTbH; rw [key p hp], fun p hp => TabS.nil (key p hp), fun b ps e => ?_⟩
  unfold noTbH at e
  split at e
  · cases e
  · rename_i n; exact n ps e
end L2.P


set_option Elab.async false
set_option linter.all false
set_option maxRecDepth 100000
set_option maxHeartbeats 4000000
namespace L2.P
open PySem PySem.Spec PyProof.Rows L2
section
variable {X : Cx} {a : Expr} {p pos : Pos}
end
def rD (p : Nat × Nat) : D := .tuple [.int (p.1 : Int), .int (p.2 : Int)]
end L2.P


set_option Elab.async false
set_option linter.all false
set_option maxRecDepth 100000
set_option maxHeartbeats 4000000
namespace L2.P
open PySem PySem.Spec PyProof.Rows L2
abbrev Ch := List (List Int × Nat)
def incM (d : Ch) (k : List Int) (x : Nat) : Ch := putM d k ((getM d k).getD 0 + x)
def innM (w : List (List Int)) (s : List Int) (x : Nat) (cs : List Int) (d : Ch) : Ch := cs.foldl (fun d c => incM d (callM w s c) x) d
structure ChOk (st : List Int) (d : Ch) : Prop where
  nd : (d.map fun e => e.1).Nodup
  sub : ∀ k ∈ d.map (fun e => e.1), k.Sublist st
theorem ChOk.len {st : List Int} {d : Ch} (h : ChOk st d) : d.length ≤ 2 ^ st.length := by
  have := nodup_len h.nd fun k hk => mem_chM.mpr (h.sub k hk)
  rw [List.length_map, chM_len] at this
  exact this
theorem ChOk.nil (st : List Int) : ChOk st [] := ⟨by simp, by simp⟩
theorem ChOk.inc {st k : List Int} {d : Ch} {x : Nat} (h : ChOk st d) (hk : k.Sublist st) : ChOk st (incM d k x) := ⟨putM_nodup h.nd, fun s hs => by
  rcases mem_keys_putM.mp hs with hs | rfl
  · exact h.sub _ hs
  · exact hk⟩
theorem ChOk.inn {w : List (List Int)} {st s : List Int} {x : Nat} (hk : s.Sublist st) : ∀ (cs : List Int) {d : Ch}, ChOk st d → ChOk st (innM w s x cs d)
  | [], _, h => h
  | c :: cs, d, h => ChOk.inn hk cs (d := incM d (callM w s c) x) (h.inc ((callM_sub w s c).trans hk))
section
variable {β : Type}
end
end L2.P


set_option Elab.async false
set_option linter.all false
set_option maxRecDepth 100000
set_option maxHeartbeats 4000000
namespace L2.P
open PySem PySem.Spec PyProof.Rows L2
section
variable {κ β : Type} [DecidableEq κ]
theorem mem_putM {kvs : List (κ × β)} {k : κ} {b : β} {e : κ × β} (h : e ∈ putM kvs k b) : e = (k, b) ∨ e ∈ kvs := by
  unfold putM at h
  split at h
  · obtain ⟨x, hx, rfl⟩ := List.mem_map.mp h
    split
    · rename_i c; exact .inl (by rw [c])
    · exact .inr hx
  · rcases List.mem_append.mp h with h | h
    · exact .inr h
    · exact .inl (by simpa using h)
end
theorem mem_moversM {w : List (List Int)} {s : List Int} {p : Int} : p ∈ moversM w s ↔ p ∈ s ∧ callM w s p ≠ s := by
  unfold moversM
  rw [List.mem_filter]
  exact ⟨fun h => ⟨h.1, (movers_iff h.1).mpr h.2⟩, fun h => ⟨h.1, (movers_iff h.1).mp h.2⟩⟩
theorem call_lt {w : List (List Int)} {s : List Int} {p : Int} (h : p ∈ moversM w s) : (callM w s p).length < s.length := by
  have h1 := callM_sub w s p
  have h2 := (mem_moversM.mp h).2
  rcases Nat.lt_or_ge (callM w s p).length s.length with c | c
  · exact c
  · exact absurd (h1.eq_of_length (Nat.le_antisymm h1.length_le c)) h2
theorem movers_lt {w : List (List Int)} {s : List Int} {n : Nat} (hs : Ppl n s) (h : moversM w s ≠ []) : (moversM w s).length < s.length := by
  cases s with
  | nil => exact absurd rfl h
  | cons a t =>
    obtain ⟨p1, p2⟩ := List.pairwise_cons.mp hs.up
    have : moversM w (a :: t) = t.filter fun p => has w (a :: t) (fun x k => decide (k < x)) p := by
      unfold moversM
      rw [List.filter_cons, if_neg]
      intro z
      unfold has at z
      rw [List.any_eq_true] at z
      obtain ⟨k, _, hk⟩ := z
      rw [Bool.and_eq_true, decide_eq_true_eq, decide_eq_true_eq] at hk
      rcases List.mem_cons.mp hk.2 with rfl | h2
      · omega
      · have := p1 k h2; omega
    rw [this]
    exact Nat.lt_of_le_of_lt (List.length_filter_le _ _) (by simp)
def cD : Nat → Nat
  | 0 => 1
  | 1 => 1
  | 2 => 1
  | 3 => 2
  | 4 => 12
  | _ + 5 => 144
theorem cD_dvd {a b : Nat} (h : a ≤ b) (hb : b ≤ 5) : cD a ∣ cD b := by
  have key : ∀ b : Fin 6, ∀ a : Fin 6, a.1 ≤ b.1 → cD a.1 ∣ cD b.1 := by decide
  exact key ⟨b, by omega⟩ ⟨a, by omega⟩ h
theorem cD_part {n m : Nat} (hn : n ≤ 5) (h1 : 1 ≤ m) (h2 : m < n) : cD (n - 1) * m ∣ cD n := by
  have key : ∀ n : Fin 6, ∀ m : Fin 6, 1 ≤ m.1 → m.1 < n.1 → cD (n.1 - 1) * m.1 ∣ cD n.1 := by decide
  exact key ⟨n, by omega⟩ ⟨m, by omega⟩ h1 h2
def floS (w : List (List Int)) (d : Ch) (s : List Int) : Ch := innM w s ((getM d s).getD 0 / (moversM w s).length) (moversM w s) d
structure FloOk (st : List Int) (d : Ch) : Prop where
  ok : ChOk st d
  dv : ∀ e ∈ d, cD e.1.length ∣ e.2
  top : getM d st = some 144
theorem FloOk.inc {st k : List Int} {d : Ch} {q : Nat} (h : FloOk st d) (hk : k.Sublist st) (hl : k.length < st.length) (hq : cD k.length ∣ q) : FloOk st (incM d k q) := by
  refine ⟨h.ok.inc hk, fun e he => ?_, ?_⟩
  · rcases mem_putM he with rfl | he
    · refine Nat.dvd_add ?_ hq
      cases g : getM d k with
      | none => exact Nat.dvd_zero _
      | some y => exact h.dv _ (getM_mem g)
    · exact h.dv e he
  · unfold incM
    rw [getM_put, if_neg (fun z => by rw [z] at hl; omega)]
    exact h.top
theorem FloOk.inn {w : List (List Int)} {st s : List Int} {q : Nat} (hs : s.Sublist st) (h5 : st.length ≤ 5) (hq : cD (s.length - 1) ∣ q) : ∀ (ps : List Int) {d : Ch}, (∀ p ∈ ps, p ∈ moversM w s) → FloOk st d → FloOk st (innM w s q ps d)
  | [], _, _, h => h
  | p :: ps, d, hp, h => by
    have hlt := call_lt (hp p List.mem_cons_self)
    have hsl := hs.length_le
    refine FloOk.inn hs h5 hq ps (d := incM d (callM w s p) q) (fun z hz => hp z (List.mem_cons_of_mem _ hz)) (h.inc ((callM_sub w s p).trans hs) (by omega) (Nat.dvd_trans (cD_dvd (by omega) (by omega)) hq))
/-- what a part is -/
theorem FloOk.part {w : List (List Int)} {st s : List Int} {n x : Nat} {d : Ch} (h : FloOk st d) (hp : Ppl n s) (h5 : s.length ≤ 5) (hm : moversM w s ≠ []) (hx : getM d s = some x) : cD (s.length - 1) * (moversM w s).length ∣ x :=
  Nat.dvd_trans (cD_part h5 (List.length_pos_iff.mpr hm) (movers_lt hp hm)) (h.dv _ (getM_mem hx))
theorem FloOk.step {w : List (List Int)} {st s : List Int} {n : Nat} {d : Ch} (h : FloOk st d) (hp : Ppl n st) (h5 : st.length ≤ 5) (hs : s.Sublist st) (hk : s ∈ d.map fun e => e.1) : FloOk st (floS w d s) := by
  unfold floS
  by_cases hm : moversM w s = []
  · rw [hm]; exact h
  · have hsl := hs.length_le
    have : (getM d s).isSome = true := by rw [getM_isSome]; simpa using hk
    obtain ⟨x, hx⟩ := Option.isSome_iff_exists.mp this
    rw [hx]
    show FloOk st (innM w s (x / _) _ d)
    obtain ⟨y, hy⟩ := h.part (w := w) (hp.sub hs) (by omega) hm hx
    have hml := List.length_pos_iff.mpr hm
    refine FloOk.inn hs h5 ⟨y, ?_⟩ _ (fun _ z => z) h
    rw [hy, Nat.mul_comm (cD _), Nat.mul_assoc, Nat.mul_div_cancel_left _ hml]
end L2.P


set_option Elab.async false
set_option linter.all false
set_option maxRecDepth 100000
set_option maxHeartbeats 4000000
namespace L2.P
open PySem PySem.Spec PyProof.Rows L2
end L2.P


set_option Elab.async false
set_option linter.all false
set_option maxRecDepth 100000
set_option maxHeartbeats 4000000
namespace L2.P
open PySem PySem.Spec PyProof.Rows L2
end L2.P


set_option Elab.async false
set_option linter.all false
set_option maxRecDepth 100000
set_option maxHeartbeats 4000000
namespace L2.P
open PySem PySem.Spec PyProof.Rows L2
end L2.P


set_option Elab.async false
set_option linter.all false
set_option maxRecDepth 100000
set_option maxHeartbeats 4000000
namespace L2.P
open PySem PySem.Spec PyProof.Rows L2 NdefX LamX
/-- a def of n parameters: where r says so, it lets C out -/
def spZ (K : Fg) (n : Nat) (C : Addr) (r : List D → Bool) : Sp := fun vs H _ E => vs.length = n ∧ ∃ F ps, Same F H ∧ TbOk K F H ∧ DpAll K F vs ps ∧ r ps = true ∧
  ∀ F' H', Same F F' → SameX K none H H' → Same F' H' → TbOk K F' H' → (∀ b, F b = none → F' b ≠ none → Fz (H b)) → E (.ref C) none H'
section
variable {X : Cx} {C : Addr} {W : WX} {st : Stmt} {rest : List Stmt} {x : Str} {p pos pos' : Pos} {e : Expr} {es : List Expr}
/-- a def that may let C out -/
def CalZ (X : Cx) (x : Str) (C : Addr) (n : Nat) (r : List D → Bool) : Prop :=
  ∃ (k : Nat) (f : Addr) (fd : FuncData) (ps : List Str), FnOk X.prog X.w X.K X.mg X.base (L2.CX X.prog X.w) k f fd ps (spZ X.K n C r) ∧ Room k X.A ∧ X.mg x = some (.ref f) ∧ PySem.W.keepIn X.K (.ref f) = true ∧ Binds X.K fd ps []
end
/-- a def that lets C out, behind the top -/
def DefZ (P : Program) (w : World) (K : Fg) (mg : Str → Option Value) (base : Heap) (C : Addr) (x : Str) (k n : Nat) (r : List D → Bool) : Prop :=
  ∃ (f : Addr) (fd : FuncData) (ps : List Str), FnOk P w K mg base (L2.CX P w) k f fd ps (spZ K n C r) ∧ mg x = some (.ref f) ∧ PySem.W.keepIn K (.ref f) = true ∧ Binds K fd ps []
section
variable {P : Program} {w : World} {K : Fg} {mg : Str → Option Value} {base : Heap} {x qual : Str} {params : Arguments} {body : List Stmt} {scope : Scope} {f C : Addr} {fd : FuncData} {N ps : List Str} {k : Nat}
theorem DefZ.cal {X : Cx} {n : Nat} {r : List D → Bool} {j : Nat} (h : DefZ X.prog X.w X.K X.mg X.base C x k n r) (hr : Room j X.A) (hk : k ≤ j := by decide) : CalZ X x C n r := by
  obtain ⟨f, fd, ps, F, m, kp, b⟩ := h
  exact ⟨k, f, fd, ps, F, hr.mono hk, m, kp, b⟩
/-- THE RULE: a def, its code object told -/
theorem fn_pureWC {T : TSt} {n : Nat} (Fd : FunD K x qual params body scope [] [] (He.fAd K (x, none)) fd) (S : FnScope N ps scope) (hn : ps.length = n) (hnN : n ≤ N.length)
    (hb : ∀ (A : Around) (outer : List Env) (s : Shared) (H : Hp) (E : XK), Room k (A.deeper (envOfC qual scope s.heap.objs.size (He.fAd K (x, none)) (.ref (He.codeOf K (x, none))))) → SWs (cxOf CX0 P w K mg base N qual scope (He.fAd K (x, none)) (.ref (He.codeOf K (x, none))) A outer s H E).nox body T) :
    FnOk P w K mg base CX0 (k + 1) (He.fAd K (x, none)) fd ps (spF K n (runW N.length T)) := by
  obtain ⟨oc, od, dV, kV, doc, pm, an, cdv, ct, osl, rfl, lk, hcd, _, _⟩ := Fd.ex
  obtain ⟨c, rfl⟩ := He.codeIn_ref hcd
  have ec := He.codeOf_eq lk rfl
  rw [ec] at hb
  refine fn_of lk hcd S (fun vs H Q E h => by rw [h.1, hn]) fun A outer s H vs Q E hr h => ?_
  have Wb := hb A outer s H E hr
  obtain ⟨hl, F, ds, sF, tb, d, q⟩ := h
  refine ⟨_, PSs.nox Wb.pss, ⟨F, H, none, none⟩, F, rho0 N.length ds, rs_start sF tb d (by omega), Wb.mono _ _ _ (fun fl k => ?_) q⟩
  cases fl with
  | nx ρ' => exact fun F' H' σ' R' s' => k F' H' .non s' R'.old R'.sub R'.tb R'.new .non
  | rt p => exact fun F' H' v ⟨σ', ρ', R'⟩ s' d' => k F' H' v s' R'.old R'.sub R'.tb R'.new d'
  | bk ρ' => exact k.elim
  | ct ρ' => exact k.elim
end
section
variable {X : Cx} {pins : List (Addr × Obj)} {σ : L2.St} {H : Hp} {s : Shared}
end
section
variable {X : Cx} {S C c P : Addr} {pg params : Arguments} {bg : List Stmt} {sg scope : Scope} {body : Expr} {lpos p pos : Pos} {fv : Rho → Option D} {rz : Rho → Bool} {k : Nat}
end
end L2.P


set_option Elab.async false
set_option linter.all false
set_option maxRecDepth 100000
set_option maxHeartbeats 4000000
namespace L2.P
open PySem PySem.Spec PyProof.Rows L2 NdefX LamX
/-- a def whose code object's table is known -/
structure MkT (K : Fg) (mg : Str → Option Value) (base : Heap) (q : Str) : Prop where
  tb : TabB base mg (He.codeOf K (q, none)) (He.tabOf K (He.codeOf K (q, none)))
  tm : (He.tabOf K (He.codeOf K (q, none)), lamQ q) ∈ tbT K
  tu : ∀ p ∈ tbT K, p.1 = He.tabOf K (He.codeOf K (q, none)) → p.2 = lamQ q
theorem mkB_okT {K : Fg} {mg : Str → Option Value} {base : Heap} {q : Str} (h : mkB K q = true) (tb : TabB base mg (He.codeOf K (q, none)) (He.tabOf K (He.codeOf K (q, none)))) : MkT K mg base q := by
  obtain ⟨h1, h2⟩ := Bool.and_eq_true_iff.mp h
  refine ⟨tb, of_decide_eq_true h1, fun p hp e => ?_⟩
  have := List.all_eq_true.mp h2 p hp
  rw [Bool.or_eq_true] at this
  rcases this with z | z
  · rw [decide_eq_true e] at z; cases z
  · exact of_decide_eq_true z
section
variable {X : Cx} {S C c P : Addr} {pg params : Arguments} {bg : List Stmt} {sg scope : Scope} {body : Expr} {lpos p pos : Pos} {fv : Rho → Option D} {rz : Rho → Bool}
end
end L2.P
namespace L2.P
open PySem PySem.Spec PyProof.Rows L2
section
variable {f g : Rho → Option D} {rz r : Rho → Bool} {ρ ρ' : Rho} {t : Rho → Option Bool} {b : Bool} {p q : D} {xs : List D}
theorem tup_of {B : Rho → Option (List D)} (h : B ρ = some xs) : aOf gTup (aCons (fun ρ => (B ρ).map PyData.list) aNil) ρ = some (.tuple xs) := by simp [h]
end
end L2.P


set_option Elab.async false
set_option linter.all false
set_option maxRecDepth 100000
set_option maxHeartbeats 4000000
namespace L2.P
open PySem PySem.Spec PyProof.Rows L2
section
variable {X : Cx}
end
section
variable {X : Cx}
end
section
variable {w : List (List Int)} {st goal : List Int}
end
/-- q is the first of xs for which f is greatest -/
def FM (f : Int → Int) (xs : List Int) (q : Int) : Prop := ∃ i : Nat, xs[i]? = some q ∧ (∀ (j : Nat) (y : Int), j < i → xs[j]? = some y → f y < f q) ∧ ∀ y ∈ xs, f y ≤ f q
theorem FM.mem {f : Int → Int} {xs : List Int} {q : Int} (h : FM f xs q) : q ∈ xs := by
  obtain ⟨i, h1, _⟩ := h
  exact List.mem_of_getElem? h1
theorem FM.one (f : Int → Int) {xs : List Int} {p : Int} (h : xs[0]? = some p) : FM f (xs.take 1) p := by
  cases xs with
  | nil => cases h
  | cons x xs =>
    cases h
    exact ⟨0, rfl, fun j y hj => absurd hj (Nat.not_lt_zero _), fun y hy => by
      rw [List.take_succ_cons, List.take_zero, List.mem_singleton] at hy
      subst hy; exact Int.le_refl _⟩
theorem FM.step {f : Int → Int} {xs : List Int} {i : Nat} {p q : Int} (h : FM f (xs.take i) q) (hp : xs[i]? = some p) : FM f (xs.take (i + 1)) (if f q < f p then p else q) := by
  have hi := (List.getElem?_eq_some_iff.mp hp).1
  have ht : xs.take (i + 1) = xs.take i ++ [p] := by rw [List.take_add_one, hp]; rfl
  have hl : (xs.take i).length = i := by rw [List.length_take]; omega
  obtain ⟨j, a1, a2, a3⟩ := h
  have hj := (List.getElem?_eq_some_iff.mp a1).1
  rw [ht]
  split
  · rename_i c
    refine ⟨i, by rw [List.getElem?_append_right (by omega), hl]; simp, fun k y hk e => ?_, fun y hy => ?_⟩
    · rw [List.getElem?_append_left (by omega)] at e
      have := a3 y (List.mem_of_getElem? e)
      omega
    · rcases List.mem_append.mp hy with hy | hy
      · have := a3 y hy; omega
      · rw [List.mem_singleton] at hy; subst hy; exact Int.le_refl _
  · rename_i c
    refine ⟨j, by rw [List.getElem?_append_left hj]; exact a1, fun k y hk e => ?_, fun y hy => ?_⟩
    · rw [List.getElem?_append_left (by omega)] at e
      exact a2 k y hk e
    · rcases List.mem_append.mp hy with hy | hy
      · exact a3 y hy
      · rw [List.mem_singleton] at hy; subst hy; omega
/-- xs[sizes.index(max(sizes))] -/
theorem FM.index (f : Int → Int) {xs : List Int} (hne : xs ≠ []) : ∃ (M q : Int), gMaxA [.list ((xs.map f).map .int)] = some (.int M) ∧ M ∈ xs.map f ∧ xs[(xs.map f).idxOf M]? = some q ∧ FM f xs q := by
  obtain ⟨M, h1, h2, h3⟩ := max_intsL (ns := xs.map f) (fun z => hne (List.map_eq_nil_iff.mp z))
  have hl := List.idxOf_lt_length_iff.mpr h1
  have hg : (xs.map f)[(xs.map f).idxOf M]? = some M := by
    rw [List.getElem?_eq_getElem hl, List.getElem_idxOf]
  rw [List.getElem?_map] at hg
  obtain ⟨q, e1, e2⟩ := Option.map_eq_some_iff.mp hg
  refine ⟨M, q, h2, h1, e1, _, e1, fun j y hj e => ?_, fun y hy => by rw [e2]; exact h3 _ (List.mem_map_of_mem hy)⟩
  have hy : f y ≤ M := h3 _ (List.mem_map_of_mem (List.mem_of_getElem? e))
  rw [e2]
  refine Int.lt_iff_le_and_ne.mpr ⟨hy, fun z => ?_⟩
  have hj' : j < (xs.map f).length := by omega
  have : (xs.map f)[j]'hj' ≠ M := by
    have := List.not_of_lt_findIdx (p := (· == M)) (xs := xs.map f) hj
    simpa using this
  refine this ?_
  have e3 : (xs.map f)[j]? = some (f y) := by rw [List.getElem?_map, e]; rfl
  rw [List.getElem?_eq_getElem hj'] at e3
  rw [Option.some.inj e3, z]
section
variable {w : List (List Int)} {may : List Int}
def covL (w : List (List Int)) (left : List Int) (p : Int) : List Int := left.filter fun o => decide (o < p) && decide (o ∈ fr w p)
abbrev covM (w : List (List Int)) (left : List Int) (p : Int) : Int := ((covL w left p).length : Nat)
def leftN (w : List (List Int)) (left : List Int) (b : Int) : List Int := left.filter fun o => decide (b < o) || !decide (o ∈ fr w b)
inductive GR (w : List (List Int)) (may : List Int) : List Int → List Int → Prop
  | nil : GR w may [] []
  | cons {left row : List Int} {b : Int} : left ≠ [] → FM (covM w left) may b → GR w may (leftN w left b) row → GR w may left (b :: row)
def Covd (w : List (List Int)) (may left : List Int) : Prop := ∀ x ∈ left, ∃ k ∈ may, x < k ∧ x ∈ fr w k
theorem Covd.next {left : List Int} {b : Int} (h : Covd w may left) : Covd w may (leftN w left b) := fun x hx => h x (List.mem_filter.mp hx).1
theorem FM.pos {left : List Int} {b : Int} (hc : Covd w may left) (hne : left ≠ []) (h : FM (covM w left) may b) : ∃ o ∈ left, o < b ∧ o ∈ fr w b := by
  obtain ⟨x, hx⟩ := List.exists_mem_of_ne_nil _ hne
  obtain ⟨k, k1, k2, k3⟩ := hc x hx
  obtain ⟨i, _, _, h3⟩ := h
  have := h3 k k1
  have hk : 0 < (covL w left k).length := List.length_pos_of_mem (List.mem_filter.mpr ⟨hx, by simp [k2, k3]⟩)
  have hb : 0 < (covL w left b).length := by
    have e : covM w left k ≤ covM w left b := this
    unfold covM at e
    omega
  obtain ⟨o, ho⟩ := List.exists_mem_of_length_pos hb
  obtain ⟨o1, o2⟩ := List.mem_filter.mp ho
  rw [Bool.and_eq_true, decide_eq_true_eq, decide_eq_true_eq] at o2
  exact ⟨o, o1, o2⟩
theorem left_lt {left : List Int} {b : Int} (hc : Covd w may left) (hne : left ≠ []) (h : FM (covM w left) may b) : (leftN w left b).length < left.length := by
  obtain ⟨o, o1, o2, o3⟩ := h.pos hc hne
  refine Nat.lt_of_le_of_ne (List.length_filter_le _ _) fun e => ?_
  have := List.length_filter_eq_length_iff.mp e o o1
  simp [o3] at this
  omega
theorem GR.len : ∀ {left row : List Int}, GR w may left row → Covd w may left → row.length ≤ left.length
  | _, _, .nil, _ => Nat.le_refl _
  | left, _, .cons hne f g, hc => by
    have h1 := GR.len g hc.next
    have h2 := left_lt hc hne f
    rw [List.length_cons]
    omega
theorem GR.ne {left row : List Int} (h : GR w may left row) (hne : left ≠ []) : row ≠ [] := by
  cases h with
  | nil => exact absurd rfl hne
  | cons _ _ _ => exact List.cons_ne_nil _ _
end
end L2.P


set_option Elab.async false
set_option linter.all false
set_option maxRecDepth 100000
set_option maxHeartbeats 4000000
namespace L2.P
open PySem PySem.Spec PyProof.Rows L2
section
variable {w : List (List Int)} {goal : List Int}
end
end L2.P


set_option Elab.async false
set_option linter.all false
set_option maxRecDepth 100000
set_option maxHeartbeats 4000000
namespace L2.P
open PySem PySem.Spec PyProof.Rows L2
section
variable {X : Cx} {x y : Str} {p pos py : Pos} {e1 e2 e3 ed : Expr} {f1 f2 f3 : Rho → Option D} {M : List D → D → D → Prop} {g : GA} {i : Nat}
end
section
variable {X : Cx} {x y : Str} {px py p1 p2 p3 q1 q2 q3 pos pos1 pos2 pos3 pos4 : Pos} {i j : Nat} {v : Expr}
end
section
variable {X : Cx} {x y : Str} {px py p1 p2 p3 q1 q2 q3 pos pos1 pos2 pos3 pos4 : Pos} {i j : Nat} {v k : Expr} {st : Stmt} {rest : List Stmt}
end
section
variable {P : Program} {w : World} {K : Fg} {mg : Str → Option Value} {base : Heap} {x qual : Str} {params : Arguments} {body : List Stmt} {scope : Scope} {f : Addr} {fd : FuncData} {N ps : List Str} {k : Nat}
end
end L2.P


set_option Elab.async false
set_option linter.all false
set_option maxRecDepth 100000
set_option maxHeartbeats 4000000
namespace L2.P
open PySem PySem.Spec PyProof.Rows L2
section
variable {X : Cx} {x y : Str} {p pos py : Pos} {e1 e2 e3 ed : Expr} {f1 f2 f3 : Rho → Option D} {M : List D → D → D → Prop} {g : GA} {i : Nat}
open Classical in
open Classical in
end
section
variable {w : List (List Int)}
end
def rowOf : D → Option (List Int)
  | .tuple xs => intsD xs
  | _ => none
def rowsOf : List D → Option (List (List Int))
  | [] => some []
  | x :: xs => (rowOf x).bind fun r => (rowsOf xs).map (r :: ·)
instance (n : Nat) (st : List Int) : Decidable (Ppl n st) := decidable_of_iff (st.Pairwise (· < ·) ∧ ∀ k ∈ st, 0 ≤ k ∧ k < (n : Int)) ⟨fun h => ⟨h.1, h.2⟩, fun h => ⟨h.up, h.inn⟩⟩
end L2.P


set_option Elab.async false
set_option linter.all false
set_option maxRecDepth 100000
set_option maxHeartbeats 4000000
namespace L2.P
open PySem PySem.Spec PyProof.Rows L2
end L2.P


set_option Elab.async false
set_option linter.all false
set_option maxRecDepth 100000
set_option maxHeartbeats 4000000
namespace PySem
open Sem (wp)
end PySem
namespace PySem.W
open PySem PySem.SeqAt PyProof.Rows
end PySem.W
namespace L2.P
open PySem PySem.Spec PyProof.Rows L2
section
variable {X : Cx} {a b : Expr} {p pos : Pos}
end
end L2.P


set_option Elab.async false
set_option linter.all false
set_option maxRecDepth 100000
set_option maxHeartbeats 4000000
namespace L2.P
open PySem PySem.Spec PyProof.Rows L2
section
variable {X : Cx}
end
end L2.P
namespace L2
open PySem PySem.Spec PyProof.Rows
section
variable {X : Cx}
end
end L2
namespace L2.P
open PySem PySem.Spec PyProof.Rows L2
def dcV (t : Bool) (is : List Nat) (g : Tg) (T : TB) (U E : TW) (ρ : Rho) : List D → List (D × D) → (List (D × D) → Prop) → Prop
  | [], acc, K => K acc
  | p :: ps, acc, K => ∃ ρ', g p (wipeR ρ is) = some ρ' ∧ T ρ' (fun b => if b = true then U ρ' (fun k => E ρ' fun y => kindOk t k = true ∧ dcV t is g T U E ρ ps (putD acc k y) K) else dcV t is g T U E ρ ps acc K)
def wDc (t : Bool) (is : List Nat) (g : Tg) (T : TB) (U E : TW) (L : TL) : Rho → (List (D × D) → Prop) → Prop := fun ρ K => noOwn ρ is = true ∧ L ρ fun ps => ps.length < sizeLine ∧ dcV t is g T U E ρ ps [] K
section
variable {t : Bool} {is : List Nat} {g : Tg} {T : TB} {U E : TW} {ρ : Rho}
end
def o0 (t : Bool) : HO := if t = true then .dT [] else .dK []
section
variable {X : Cx} {kx vx tg iter : Expr} {ifs : List Expr} {scope : Scope} {own : List (Str × Nat)} {pos : Pos} {L : TL} {g : Tg} {T : TB} {U E : TW}
/-- as a function -/
def dcF (t : Bool) (is : List Nat) (g : Tg) (c : Rho → Option Bool) (u f : Rho → Option D) (ρ : Rho) : List D → List (D × D) → Option (List (D × D))
  | [], acc => some acc
  | p :: ps, acc => (g p (wipeR ρ is)).bind fun ρ' => (c ρ').bind fun b => if b = true then (u ρ').bind fun k => (f ρ').bind fun y => if kindOk t k = true then dcF t is g c u f ρ ps (putD acc k y) else none else dcF t is g c u f ρ ps acc
def cDc (t : Bool) (is : List Nat) (g : Tg) (c : Rho → Option Bool) (u f : Rho → Option D) (l : Rho → Option (List D)) : Rho → Option (List (D × D)) := fun ρ => if noOwn ρ is = true then (l ρ).bind fun ps => if ps.length < sizeLine then dcF t is g c u f ρ ps [] else none else none
theorem dcF_V {t : Bool} {is : List Nat} {g : Tg} {c : Rho → Option Bool} {u f : Rho → Option D} {ρ : Rho} : ∀ (ps : List D) (acc : List (D × D)) {r : List (D × D)} {K : List (D × D) → Prop}, dcF t is g c u f ρ ps acc = some r → K r → dcV t is g (fW c) (fW u) (fW f) ρ ps acc K
  | [], acc, r, K, e, k => by cases e; exact k
  | p :: ps, acc, r, K, e, k => by
    obtain ⟨ρ', e1, e⟩ := Option.bind_eq_some_iff.mp e
    obtain ⟨b, e2, e⟩ := Option.bind_eq_some_iff.mp e
    refine ⟨ρ', e1, b, e2, ?_⟩
    cases b with
    | false => exact dcF_V ps acc e k
    | true =>
      obtain ⟨kk, e3, e⟩ := Option.bind_eq_some_iff.mp e
      obtain ⟨y, e4, e⟩ := Option.bind_eq_some_iff.mp e
      split at e
      · rename_i hk
        exact ⟨kk, e3, y, e4, hk, dcF_V ps _ e k⟩
      · cases e
/-- name = {..} -/
structure NSD (X : Cx) (st : Stmt) (i : Nat) (t : Bool) (T : Rho → (List (D × D) → Prop) → Prop) : Prop where
  mono : ∀ ρ K K', (∀ p, K p → K' p) → T ρ K → T ρ K'
  ps : PS X st (tAsg (tND X.K t T) (gName i))
theorem NSD.sf {st : Stmt} {i : Nat} {t : Bool} {is : List Nat} {g : Tg} {c : Rho → Option Bool} {u f : Rho → Option D} {l : Rho → Option (List D)} (h : NSD X st i t (wDc t is g (fW c) (fW u) (fW f) (fW l))) : SF X st (sSetD i t (cDc t is g c u f l)) :=
  ⟨fW_mono, h.ps.imp fun En σ H ⟨B, F, ρ, R, fl, e0, k⟩ => by
    obtain ⟨r, e, rfl⟩ := Option.map_eq_some_iff.mp e0
    unfold cDc at e
    split at e
    · rename_i no
      obtain ⟨ps, e1, e⟩ := Option.bind_eq_some_iff.mp e
      split at e
      · rename_i hl
        exact ⟨B, F, ρ, R, no, ps, e1, hl, dcF_V ps [] e fun F' H' a o R' s n hh => k F' _ _ (R'.putG n hh) s⟩
      · cases e
    · cases e⟩
end
end L2.P


set_option Elab.async false
set_option linter.all false
set_option maxRecDepth 100000
set_option maxHeartbeats 4000000
namespace L2.P
open PySem PySem.Spec PyProof.Rows L2
section
variable {X : Cx} {k v e : Expr} {pos : Pos}
end
section
variable {w : List (List Int)}
end
end L2.P


set_option Elab.async false
set_option linter.all false
set_option maxRecDepth 100000
set_option maxHeartbeats 4000000
namespace L2.P
open PySem PySem.Spec PyProof.Rows L2
section
variable {α : Type} {A B C E : Rho → Option D} {ρ : Rho} {p q r t : D} {β : Type} {g : List D → Option β} {z : Option β}
theorem c1 (hA : A ρ = some p) (h : g [p] = z) : aOf g (aCons A aNil) ρ = z := by simp only [e_aOf, e_aCons, e_aNil, hA, Option.bind_some, Option.map_some, h]
theorem c2 (hA : A ρ = some p) (hB : B ρ = some q) (h : g [p, q] = z) : aOf g (aCons A (aCons B aNil)) ρ = z := by simp only [e_aOf, e_aCons, e_aNil, hA, hB, Option.bind_some, Option.map_some, h]
theorem c3 (hA : A ρ = some p) (hB : B ρ = some q) (hC : C ρ = some r) (h : g [p, q, r] = z) : aOf g (aCons A (aCons B (aCons C aNil))) ρ = z := by simp only [e_aOf, e_aCons, e_aNil, hA, hB, hC, Option.bind_some, Option.map_some, h]
theorem c4 (hA : A ρ = some p) (hB : B ρ = some q) (hC : C ρ = some r) (hE : E ρ = some t) (h : g [p, q, r, t] = z) : aOf g (aCons A (aCons B (aCons C (aCons E aNil)))) ρ = z := by simp only [e_aOf, e_aCons, e_aNil, hA, hB, hC, hE, Option.bind_some, Option.map_some, h]
variable [DecidableEq α] {enc : α → D} {n : Nat} {a b : α} {xs : List α}
theorem neB (h : EncOk enc n) (hA : A ρ = some (enc a)) (hB : B ρ = some (enc b)) (hn : n ≤ 64 := by decide) : bB (b2 dNe A B) ρ = some (!decide (a = b)) := cmp_b hA hB (h.ne a b hn)
theorem eqNil (h : EncOk enc n) {c : Rho → Option (List D)} (hc : c ρ = some (xs.map enc)) (hn : n + 1 ≤ 64 := by decide) : b2 dEq (fun ρ => (c ρ).map PyData.list) (fun ρ => (aNil ρ).map PyData.list) ρ = some (.bool (decide (xs = []))) := by
  refine (b2_of (p := .list (xs.map enc)) (by show Option.map _ _ = _; rw [hc]; rfl) (q := .list []) rfl).trans ?_
  exact h.list.eq xs [] hn
theorem lcL {c : Rho → Option (List D)} {ps : List D} (hc : c ρ = some ps) : (fun ρ => (c ρ).map PyData.list) ρ = some (.list ps) := by show Option.map _ _ = _; rw [hc]; rfl
end
end L2.P


set_option Elab.async false
set_option linter.all false
set_option maxRecDepth 100000
set_option maxHeartbeats 4000000
namespace L2.P
open PySem PySem.Spec PyProof.Rows L2
section
variable {w : List (List Int)}
end
section
variable {f : Rho → Option Fl} {u : Rho → Option (List D)} {tg : Tg} {ρ : Rho} {K : Fl → Prop}
end
end L2.P


set_option Elab.async false
set_option linter.all false
set_option maxRecDepth 100000
set_option maxHeartbeats 4000000
namespace L2.P
open PySem PySem.Spec PyProof.Rows L2
section
variable {w : List (List Int)} {st : List Int}
/-- the taller friends who stand -/
def upsM (w : List (List Int)) (st : List Int) (x : Int) : List Int := ((fr w x).filter fun k => decide (x < k)).filter fun k => decide (k ∈ st)
theorem mem_ups {x k : Int} : k ∈ upsM w st x ↔ k ∈ fr w x ∧ x < k ∧ k ∈ st := by
  unfold upsM
  simp only [List.mem_filter, decide_eq_true_eq, and_assoc]
end
end L2.P


set_option Elab.async false
set_option linter.all false
set_option maxRecDepth 100000
set_option maxHeartbeats 4000000
namespace L2.P
open PySem PySem.Spec PyProof.Rows L2
section
variable {X : Cx} {a b c d : Expr} {pos : Pos}
def b4 (g g' g2 : G2) (f1 f2 f3 f4 : Rho → Option D) : Rho → Option D := fun ρ => (f1 ρ).bind fun x => (f2 ρ).bind fun y => (g x y).bind fun r => (isB r).bind fun k => if k = true then (f3 ρ).bind fun z => (g' y z).bind fun r2 => (isB r2).bind fun k2 => if k2 = true then (f4 ρ).bind fun u => g2 z u else some (.bool false) else some (.bool false)
end
section
variable {X : Cx} {a b e : Expr} {pos : Pos} {x : Str} {i : Nat}
end
end L2.P


set_option Elab.async false
set_option linter.all false
set_option maxRecDepth 100000
set_option maxHeartbeats 4000000
namespace L2.P
open PySem PySem.Spec PyProof.Rows L2
section
variable {w : List (List Int)} {st : List Int}
inductive Upw (w : List (List Int)) (st : List Int) : Int → Int → Prop
  | one {x k : Int} : k ∈ upsM w st x → Upw w st x k
  | more {x k l : Int} : Upw w st x k → l ∈ upsM w st k → Upw w st x l
theorem Upw.mem {x y : Int} (h : Upw w st x y) : y ∈ st := by
  cases h with
  | one h => exact (mem_ups.mp h).2.2
  | more _ h => exact (mem_ups.mp h).2.2
theorem Upw.lt {x y : Int} (h : Upw w st x y) : x < y := by
  induction h with
  | one h => exact (mem_ups.mp h).2.1
  | more _ h ih => have := (mem_ups.mp h).2.1; omega
theorem Upw.ahead {x k y : Int} (hk : k ∈ upsM w st x) (h : Upw w st k y) : Upw w st x y := by
  induction h with
  | one h => exact .more (.one hk) h
  | more _ h ih => exact .more ih h
theorem Upw.hd {x y : Int} (h : Upw w st x y) : ∃ k ∈ upsM w st x, y = k ∨ Upw w st k y := by
  induction h with
  | one h => exact ⟨_, h, .inl rfl⟩
  | more _ h ih =>
    obtain ⟨k, k1, k2⟩ := ih
    rcases k2 with rfl | k2
    · exact ⟨_, k1, .inr (.one h)⟩
    · exact ⟨_, k1, .inr (.more k2 h)⟩
open Classical in
open Classical in
open Classical in
end
end L2.P


set_option Elab.async false
set_option linter.all false
set_option maxRecDepth 100000
set_option maxHeartbeats 4000000
namespace L2.P
open PySem PySem.Spec PyProof.Rows L2
section
variable {β : Type} {w : List (List Int)}
end
section
variable (w : List (List Int))
end
section
variable {w : List (List Int)} {st : List Int}
end
end L2.P


set_option Elab.async false
set_option linter.all false
set_option maxRecDepth 100000
set_option maxHeartbeats 4000000
namespace L2.P
open PySem PySem.Spec PyProof.Rows L2
section
variable (w : List (List Int))
end
section
variable {w : List (List Int)}
end
end L2.P


set_option Elab.async false
set_option linter.all false
set_option maxRecDepth 100000
set_option maxHeartbeats 4000000
namespace L2.P
open PySem PySem.Spec PyProof.Rows L2
end L2.P


set_option Elab.async false
set_option linter.all false
set_option maxRecDepth 100000
set_option maxHeartbeats 4000000
namespace L2.NS
open PySem PySem.Calls PySem.SeqAt PySem.W PyProof.Rows L2
section
variable {P : Program} {w : World}
def NoA (P : Program) (w : World) (n : Nat) (s : Shared) (v : Value) : Prop := ∀ (A : Around) (E : Value → Shared → Prop) (Q : Bool → Shared → Prop), Q false s → wpAny (model P w) A (ofAClassStatement n v) Q E s
def ByV (P : Program) (w : World) (n : Nat) (s : Shared) (v : Value) : Prop := ∀ (A : Around) (E : Value → Shared → Prop) (Q : Bool → Shared → Prop), Q true s → wpAny (model P w) A (hashByValue n v) Q E s
theorem noA_tup {n : Nat} {s : Shared} {a : Addr} {o : Obj} {vs : Array Value} {m : Nat} (ho : s.heap.get? a = some o) (hc : o.cls = .type "tuple") (hd : o.data = .seq vs m) (hq : ∀ v ∈ vs.toList, NoA P w n s v) : NoA P w (n + 1) s (.ref a) := fun A E Q h => by
  have hT : s.TypeIs (.ref a) "tuple" := ⟨o, ho, hc⟩
  have e : (("tuple" : String) == "tuple") = true := by decide
  unfold ofAClassStatement
  refine wpAny_bind (wpAny_typeOf hT ?_)
  dsimp only
  simp only [e, if_true, Bool.not_true, Bool.false_eq_true, if_false]
  try refine wpAny_bind (wpAny_pure ?_)
  try simp only [Bool.not_true, Bool.false_eq_true, if_false]
  refine wpAny_bind (wpAny_seqItems ho hd ?_)
  dsimp only
  refine wpAny_bind ?_
  show wpAny _ _ (forIn vs _ _) _ _ s
  rw [← Array.forIn_toList]
  refine wpAny_forIn_list _ (fun rest r s' => r.1 = none ∧ s' = s ∧ ∀ v ∈ rest, NoA P w n s v) _ ?_ ?_ _ _ ⟨rfl, rfl, hq⟩
  · rintro v rest r s' ⟨hr, rfl, hall⟩
    refine wpAny_bind (hall v List.mem_cons_self _ _ _ ?_)
    simp only [Bool.false_eq_true, if_false]
    exact wpAny_pure ⟨rfl, rfl, fun u hu => hall u (List.mem_cons_of_mem _ hu)⟩
  · rintro ⟨r1, r2⟩ s' ⟨hr, rfl, _⟩
    simp only at hr
    subst hr
    exact wpAny_pure h
theorem byV_tup {n : Nat} {s : Shared} {a : Addr} {o : Obj} {vs : Array Value} {m : Nat} (ho : s.heap.get? a = some o) (hc : o.cls = .type "tuple") (hd : o.data = .seq vs m) (hq : ∀ v ∈ vs.toList, ByV P w n s v) : ByV P w (n + 1) s (.ref a) := fun A E Q h => by
  have hT : s.TypeIs (.ref a) "tuple" := ⟨o, ho, hc⟩
  unfold hashByValue
  refine wpAny_bind (wpAny_specialOf hT F.slot_tuple_hash.lookup ?_)
  show wpAny _ _ (seqItems? (.ref a) >>= _) _ _ s
  refine wpAny_bind (wpAny_seqItems ho hd ?_)
  refine wpAny_bind ?_
  show wpAny _ _ (forIn vs _ _) _ _ s
  rw [← Array.forIn_toList]
  refine wpAny_forIn_list _ (fun rest r s' => r.1 = none ∧ s' = s ∧ ∀ v ∈ rest, ByV P w n s v) _ ?_ ?_ _ _ ⟨rfl, rfl, hq⟩
  · rintro v rest r s' ⟨hr, rfl, hall⟩
    refine wpAny_bind (hall v List.mem_cons_self _ _ _ ?_)
    simp only [Bool.not_true, Bool.false_eq_true, if_false]
    exact wpAny_pure ⟨rfl, rfl, fun u hu => hall u (List.mem_cons_of_mem _ hu)⟩
  · rintro ⟨r1, r2⟩ s' ⟨hr, rfl, _⟩
    simp only at hr
    subst hr
    exact wpAny_pure h
mutual
def IntK : NestedKey → Prop
  | .num _ => True
  | .tup ks => IntKs ks
  | _ => False
def IntKs : List NestedKey → Prop
  | [] => True
  | k :: ks => IntK k ∧ IntKs ks
end
theorem noA_flat {n : Nat} {s : Shared} {v : Value} (h : ∀ a, v ≠ .ref a) : NoA P w n s v := fun A E Q q => by
  have e : ofAClassStatement n v = pure false := by
    cases v with
    | ref a => exact absurd rfl (h a)
    | _ => cases n <;> rfl
  rw [e]
  exact wpAny_pure q
mutual
theorem noA_key : ∀ (k : NestedKey) (v : Value) (n : Nat) (s : Shared), NestedIs s.heap k v → k.depth ≤ n → NoA P w n s v
  | .none, _, n, s, x, _ => by cases x; exact noA_flat fun a z => nomatch z
  | .num i, _, n, s, x, _ => by cases x <;> exact noA_flat fun a z => nomatch z
  | .text y, _, n, s, x, _ => by cases x; exact noA_flat fun a z => nomatch z
  | .tup ks, _, n, s, x, hn => by
    cases x with
    | tup hg hc hd hk =>
      simp only [NestedKey.depth] at hn
      cases n with
      | zero => omega
      | succ n => exact noA_tup hg hc hd (noA_keys ks _ n s hk (by omega))
theorem noA_keys : ∀ (ks : List NestedKey) (vs : List Value) (n : Nat) (s : Shared), NestedAll s.heap ks vs → NestedKey.depthAll ks ≤ n → ∀ v ∈ vs, NoA P w n s v
  | [], _, n, s, x, _, v, hv => by cases x; cases hv
  | k :: ks, _, n, s, x, hn, v, hv => by
    cases x with
    | cons x1 x2 =>
      simp only [NestedKey.depthAll] at hn
      rcases List.mem_cons.mp hv with e | hv
      · rw [e]; exact noA_key k _ n s x1 (by omega)
      · exact noA_keys ks _ n s x2 (by omega) v hv
end
mutual
theorem byV_key : ∀ (k : NestedKey) (v : Value) (n : Nat) (s : Shared), NestedIs s.heap k v → IntK k → k.depth ≤ n → ByV P w n s v
  | .none, _, n, s, x, hi, _ => hi.elim
  | .num i, _, n, s, x, _, _ => by
    cases x <;> (intro A E Q q; cases n <;> exact wpAny_pure q)
  | .text y, _, n, s, x, hi, _ => hi.elim
  | .tup ks, _, n, s, x, hi, hn => by
    cases x with
    | tup hg hc hd hk =>
      simp only [NestedKey.depth] at hn
      cases n with
      | zero => omega
      | succ n => exact byV_tup hg hc hd (byV_keys ks _ n s hk hi (by omega))
theorem byV_keys : ∀ (ks : List NestedKey) (vs : List Value) (n : Nat) (s : Shared), NestedAll s.heap ks vs → IntKs ks → NestedKey.depthAll ks ≤ n → ∀ v ∈ vs, ByV P w n s v
  | [], _, n, s, x, _, _, v, hv => by cases x; cases hv
  | k :: ks, _, n, s, x, hi, hn, v, hv => by
    cases x with
    | cons x1 x2 =>
      simp only [NestedKey.depthAll] at hn
      rcases List.mem_cons.mp hv with e | hv
      · rw [e]; exact byV_key k _ n s x1 hi.1 (by omega)
      · exact byV_keys ks _ n s x2 hi.2 (by omega) v hv
end
/-- the key k, of ints and tuples, stands at b -/
structure At (h : Heap) (k : NestedKey) (b : Addr) : Prop where
  is : NestedIs h k (.ref b)
  few : k.depth ≤ 8
  ik : IntK k
theorem At.nk {s : Shared} {k : NestedKey} {b : Addr} (x : At s.heap k b) : (nestedKind P w).is s.heap k b := ⟨x.is, x.few⟩
theorem At.seq {h : Heap} {k : NestedKey} {b : Addr} (x : At h k b) : ∃ o vs n, h.get? b = some o ∧ o.data = .seq vs n := by
  have q := x.is
  generalize e : Value.ref b = v at q
  cases q with
  | tup h1 h2 h3 h4 =>
    injection e with e
    subst e
    exact ⟨_, _, _, h1, h3⟩
  | _ => cases e
theorem At.keep {h h' : Heap} {k : NestedKey} {b : Addr} (x : At h k b) (hk : ∀ a o vs n, h.get? a = some o → o.data = .seq vs n → h'.get? a = some o) : At h' k b := ⟨NestedIs.at hk k _ x.is, x.few, x.ik⟩
theorem At.all {h h' : Heap} {k : NestedKey} {b : Addr} (x : At h k b) (hk : ∀ a o, h.get? a = some o → h'.get? a = some o) : At h' k b := x.keep fun a o _ _ e _ => hk a o e
/-- a change of the set leaves the keys -/
theorem At.but {h h' : Heap} {k : NestedKey} {a b : Addr} {o : Obj} {es : Array (Int × Value)} {ep : Nat} {t : SetTable} (x : At h k b) (ho : h.get? a = some o) (hd : o.data = .set es ep t) (hs : Heap.SameBut a h h') : At h' k b :=
  x.keep fun c u vs n e q => (hs.2 c fun z => by
    subst z
    rw [ho] at e
    cases e
    rw [hd] at q
    cases q).trans e
abbrev Row := Addr × NestedKey
abbrev hx (w : World) (p : Row) : Int := p.2.hash w
/-- the set at a holds the keys of L -/
structure Has (w : World) (h : Heap) (a : Addr) (L : List Row) (es : Array (Int × Value)) (ep : Nat) (t : SetTable) : Prop where
  ob : ∃ o, h.get? a = some o ∧ o.ExactSet ∧ o.data = .set es ep t
  ent : es.toList = L.map fun p => (hx w p, Value.ref p.1)
  tab : TabOk t (L.map (hx w))
  once : (L.map (·.2)).Nodup
  keys : ∀ p ∈ L, At h p.2 p.1
  pl : t.plain = true
  sn : w.params.followText "set-order" = true ∨ t.led = true
  room : L.length * 5 < t.mask * 3
theorem ent_size {L : List Row} {es : Array (Int × Value)} (h : es.toList = L.map fun p => (hx w p, Value.ref p.1)) : es.size = L.length := by
  rw [← Array.length_toList, h, List.length_map]
theorem ent_at {L : List Row} {es : Array (Int × Value)} (h : es.toList = L.map fun p => (hx w p, Value.ref p.1)) {i : Nat} {p : Row} (e : L[i]? = some p) : es[i]? = some (hx w p, Value.ref p.1) := by
  rw [← Array.getElem?_toList, h, List.getElem?_map, e]; rfl
theorem fits_of {hs : List Int} {t : SetTable} (T : TabOk t hs) (hl : hs.length ≤ t.mask) : t.fits hs.length = true := by
  unfold SetTable.fits SetTable.fill
  rw [T.dm, Bool.and_eq_true, beq_iff_eq, decide_eq_true_eq]
  have := T.sz
  show t.place.size = hs.length ∧ t.place.size + 0 ≤ t.mask
  omega
section
variable {s : Shared} {A : Around} {E : Value → Shared → Prop} {a : Addr} {L : List Row} {es : Array (Int × Value)} {ep : Nat} {t : SetTable}
theorem Has.size (R : Has w s.heap a L es ep t) : es.size = L.length := ent_size R.ent
theorem Has.fits (R : Has w s.heap a L es ep t) : t.fits es.size = true := by
  have := fits_of R.tab (by rw [List.length_map]; have := R.room; omega)
  rwa [List.length_map, ← R.size] at this
/-- one look at the table: the state is what it is -/
theorem Has.look (R : Has w s.heap a L es ep t) {Q : (Array (Int × Value) × Nat × SetTable) → Shared → Prop} (h : Q (es, ep, t) s) : wpAny (model P w) A (setState a) Q E s := by
  obtain ⟨o, ho, _, hd⟩ := R.ob
  exact wpAny_setState_of ho hd R.fits h
theorem seen_no {x : Addr} {k : NestedKey} (hk : At s.heap k x) {Q : Bool → Shared → Prop} (h : Q false s) (ys : List Value) (hy : ∀ y ∈ ys, ∃ p : Row, y = .ref p.1 ∧ At s.heap p.2 p.1) : wpAny (model P w) A (searchCouldBeSeen (.ref x) ys) Q E s := by
  unfold searchCouldBeSeen
  refine wpAny_bind ?_
  refine wpAny_forIn_list _ (fun rest r s' => r.1 = none ∧ s' = s ∧ ∀ y ∈ rest, ∃ p : Row, y = .ref p.1 ∧ At s.heap p.2 p.1) _ ?_ ?_ _ _ ⟨rfl, rfl, hy⟩
  · rintro v rest r s' ⟨hr, rfl, hall⟩
    obtain ⟨⟨b, k'⟩, rfl, hb⟩ := hall v List.mem_cons_self
    have more := fun u (hu : u ∈ rest) => hall u (List.mem_cons_of_mem _ hu)
    dsimp only
    by_cases hv : (x == b || (carriedByValue (.ref x) && carriedByValue (.ref b))) = true
    · exact wp_if_pos hv (wpAny_pure ⟨rfl, rfl, more⟩)
    · refine wp_if_neg hv (wpAny_bind ((nestedKind P w).quiet hk.nk ?_))
      simp only [Bool.not_true, Bool.false_eq_true, if_false]
      refine wpAny_bind ((nestedKind P w).quiet hb.nk ?_)
      simp only [Bool.not_true, Bool.false_eq_true, if_false]
      refine wpAny_bind (noA_key k _ 8 _ hk.is hk.few _ _ _ ?_)
      simp only [Bool.false_eq_true, if_false]
      refine wpAny_bind (noA_key k' _ 8 _ hb.is hb.few _ _ _ ?_)
      simp only [Bool.false_eq_true, if_false]
      exact wpAny_pure ⟨rfl, rfl, more⟩
  · rintro ⟨r1, r2⟩ s' ⟨hr, rfl, _⟩
    simp only at hr
    subst hr
    exact wpAny_pure h
/-- the c-th place of the way of the hash h -/
abbrev stp (m : Nat) (h : Int) (c : Nat) : SetTable.Probe := nth m (runAt m (SetTable.bits h % (m + 1)) (SetTable.bits h)) c
theorem stp_calm (m : Nat) (h : Int) : ∀ c, (stp m h c).dummy = none
  | 0 => rfl
  | c + 1 => by
    show (nth m _ (c + 1)).dummy = none
    rw [nth_succ]
    have ih := stp_calm m h c
    unfold adv
    split <;> exact ih
/-- THE SEARCH, from the c-th place on; K is the first free one -/
theorem search (R : Has w s.heap a L es ep t) {x : Addr} {k : NestedKey} (hk : At s.heap k x) (hu : A.units + 8 < cLine) {K : Nat} (hf : K < 10 * SetTable.turns t.mask)
    (free : way t.mask (k.hash w) K ∉ t.place.toList) (full : ∀ c, c < K → way t.mask (k.hash w) c ∈ t.place.toList) {Q : SetFound → Shared → Prop}
    (yes : k ∈ L.map (·.2) → Q (.there none) s) (no : k ∉ L.map (·.2) → Q (.free (way t.mask (k.hash w) K) false) s) :
    ∀ (f c : Nat) (from_ : Option SetTable.Probe), from_.getD (t.probeStart (k.hash w)) = stp t.mask (k.hash w) c → c ≤ K → K - c < f →
      (∀ (i : Nat) (p : Row), L[i]? = some p → p.2 = k → ∃ d, c ≤ d ∧ d < K ∧ t.place.toList[i]? = some (way t.mask (k.hash w) d)) →
      wpAny (model P w) A (setSearchFrom a (.ref x) (k.hash w) true f from_) Q E s
  | 0, c, _, _, _, z, _ => absurd z (Nat.not_lt_zero _)
  | f + 1, c, from_, e0, hc, hfu, ahead => by
    rw [setSearchFrom_succ]
    refine wpAny_bind (R.look ?_)
    dsimp only
    have hg : ¬ t.gaveWay = true := by
      unfold SetTable.gaveWay
      rw [mask_odd R.tab.mok]
      decide
    refine wp_if_neg hg ?_
    try refine wpAny_bind (wpAny_pure ?_)
    have join : ∀ q, nth t.mask (stp t.mask (k.hash w) c) q = stp t.mask (k.hash w) (c + q) := fun q => (nth_add t.mask c _ q).symm
    have joinJ : ∀ q, (nth t.mask (stp t.mask (k.hash w) c) q).j = way t.mask (k.hash w) (c + q) := fun q => congrArg SetTable.Probe.j (join q)
    have eK : c + (K - c) = K := by omega
    have hashAt : ∀ (i : Nat) (p : Row), L[i]? = some p → (es[i]?.map (·.1)).getD 0 = hx w p := fun i p hp => by rw [ent_at R.ent hp]; rfl
    -- an entry of the key k is not passed before q
    have notPast : ∀ (q : Nat), (∀ (q' i : Nat), q' < q → t.place.toList[i]? = some (nth t.mask (stp t.mask (k.hash w) c) q').j → (es[i]?.map (·.1)).getD 0 ≠ k.hash w) → ∀ (i : Nat) (p : Row), L[i]? = some p → p.2 = k → ∀ d, c ≤ d → t.place.toList[i]? = some (way t.mask (k.hash w) d) → c + q ≤ d := by
      intro q hno i p hp hpk d hcd hd
      rcases Nat.lt_or_ge d (c + q) with z | z
      · exfalso
        refine hno (d - c) i (by omega) (by rw [joinJ, show c + (d - c) = d by omega]; exact hd) ?_
        rw [hashAt i p hp]
        show p.2.hash w = _
        rw [hpk]
      · exact z
    rcases go_spec t R.tab.ris R.tab.dm (fun i => (es[i]?.map (·.1)).getD 0) (k.hash w) (10 * SetTable.turns t.mask) (K - c) (stp t.mask (k.hash w) c) (stp_calm _ _ _) (by omega)
      (fun q hq => by rw [joinJ]; exact full (c + q) (by omega)) (by rw [joinJ, eK]; exact free) with ⟨q, i, hq, hi, hh, hno, hpr⟩ | ⟨hno, hpr⟩
    · rw [e0, show t.probe (fun i => (es[i]?.map (·.1)).getD 0) (k.hash w) (stp t.mask (k.hash w) c) = some (.candidate (way t.mask (k.hash w) (c + q)) i (stp t.mask (k.hash w) (c + (q + 1)))) by rw [← joinJ, ← join]; exact hpr]
      dsimp only
      rw [joinJ] at hi
      have hil : i < L.length := by
        have h1 : i < t.place.toList.length := (List.getElem?_eq_some_iff.mp hi).1
        have h2 := R.tab.sz
        rw [List.length_map] at h2
        rw [Array.length_toList] at h1
        omega
      obtain ⟨p, hp⟩ : ∃ p, L[i]? = some p := ⟨_, List.getElem?_eq_getElem hil⟩
      have hpm : p ∈ L := List.mem_of_getElem? hp
      have onward : wpAny (model P w) A (searchRest a (.ref x) (k.hash w) true f es t (way t.mask (k.hash w) (c + q)) i (stp t.mask (k.hash w) (c + (q + 1)))) Q E s := by
        unfold searchRest
        rw [ent_at R.ent hp]
        dsimp only
        refine wpAny_bind (wpAny_holding ((nestedKind P w).eqBool hu (R.keys p hpm).nk hk.nk ?_))
        refine wpAny_bind (R.look ?_)
        dsimp only
        by_cases same : p.2 = k
        · exact wp_if_pos (by simp [same]) (wpAny_pure (yes (List.mem_map.mpr ⟨p, hpm, same⟩)))
        · refine wp_if_neg (by simp [same]) ?_
          try refine wpAny_bind (wpAny_pure ?_)
          rw [sameMem]
          dsimp only
          have hsl : t.slot (way t.mask (k.hash w) (c + q)) = .live i := slot_live R.tab.ris hi
          simp only [if_true, hsl, ent_at R.ent hp]
          refine wpAny_bind (wpAny_isSame_ref_self (wpAny_bind (wpAny_pure ?_)))
          simp only [if_true]
          refine wp_if_neg (by simp [same]) ?_
          refine search R hk hu hf free full yes no f (c + (q + 1)) _ rfl (by omega) (by omega) fun i' p' hp' e' => ?_
          obtain ⟨d, d1, d2, d3⟩ := ahead i' p' hp' e'
          have d4 := notPast q (fun q' i h1 h2 h3 => hno q' i h1 h2 h3) i' p' hp' e' d d1 d3
          refine ⟨d, ?_, d2, d3⟩
          rcases Nat.lt_or_ge (c + q) d with y | y
          · omega
          · exfalso
            have ed : d = c + q := Nat.le_antisymm y d4
            rw [ed] at d3
            have s0 := slot_live R.tab.ris d3
            rw [hsl] at s0
            injection s0 with s0
            rw [← s0, hp] at hp'
            cases hp'
            exact same e'
      by_cases hl : t.led = true
      · refine wp_if_neg (by simp [hl]) ?_
        try refine wpAny_bind (wpAny_pure ?_)
        exact onward
      · refine wp_if_pos (by simp [hl]) ?_
        refine wpAny_bind (seen_no hk ?_ _ fun y hy => ?_)
        · refine wp_if_neg (by decide) ?_
          try refine wpAny_bind (wpAny_pure ?_)
          exact onward
        · obtain ⟨e, he, rfl⟩ := List.mem_map.mp hy
          have he1 : e ∈ es ∧ e.1 = k.hash w := by simpa using he
          have he2 : e ∈ es.toList := by simpa using he1.1
          rw [R.ent] at he2
          obtain ⟨p2, hp2, rfl⟩ := List.mem_map.mp he2
          exact ⟨p2, rfl, R.keys p2 hp2⟩
    · rw [e0, show t.probe (fun i => (es[i]?.map (·.1)).getD 0) (k.hash w) (stp t.mask (k.hash w) c) = some (.empty (way t.mask (k.hash w) K) none) by
        have z : way t.mask (k.hash w) K = (nth t.mask (stp t.mask (k.hash w) c) (K - c)).j := by rw [joinJ, eK]
        rw [z]
        exact hpr]
      dsimp only
      refine wpAny_pure (no fun hm => ?_)
      obtain ⟨p, hpm, hpk⟩ := List.mem_map.mp hm
      obtain ⟨i, hi, e⟩ := List.getElem_of_mem hpm
      have hp : L[i]? = some p := by rw [List.getElem?_eq_getElem hi, e]
      obtain ⟨d, d1, d2, d3⟩ := ahead i p hp hpk
      have := notPast (K - c) (fun q' i h1 h2 h3 => hno q' i h1 h2 h3) i p hp hpk d d1 d3
      omega
end
end
end L2.NS


set_option Elab.async false
set_option linter.all false
set_option maxRecDepth 100000
set_option maxHeartbeats 4000000
namespace L2.NS
open PySem PySem.Calls PySem.SeqAt PySem.W PyProof.Rows L2
section
variable {P : Program} {w : World} {s : Shared} {A : Around} {E : Value → Shared → Prop} {a : Addr} {L : List Row} {es : Array (Int × Value)} {ep : Nat} {t : SetTable}
def row0 : Row := (0, .none)
theorem all_get (L : List Row) : (List.range L.length).map (fun i => L.getD i row0) = L := by
  refine List.ext_getElem (by simp) fun i h1 h2 => ?_
  simp [List.getD_eq_getElem?_getD, h2]
theorem pick_map {β : Type} (F : Row → β) (L : List Row) {get : Nat → Option β} (hg : ∀ i p, L[i]? = some p → get i = some (F p)) : ∀ l : List Nat, (∀ i ∈ l, i < L.length) → l.filterMap get = l.map fun i => F (L.getD i row0)
  | [], _ => rfl
  | i :: l, h => by
    have hi := h i List.mem_cons_self
    have e := hg i L[i] (List.getElem?_eq_getElem hi)
    rw [List.filterMap_cons_some e, List.map_cons, pick_map F L hg l fun j hj => h j (List.mem_cons_of_mem _ hj)]
    rw [List.getD_eq_getElem?_getD, List.getElem?_eq_getElem hi]; rfl
/-- the table laid anew, larger -/
theorem relay {o : Obj} (ho : s.heap.get? a = some o) (hex : o.ExactSet) (hd : o.data = .set es ep t) (ent : es.toList = L.map fun p => (hx w p, Value.ref p.1)) (T : TabOk t (L.map (hx w))) (hl : L.length ≤ t.mask)
    (once : (L.map (·.2)).Nodup) (keys : ∀ p ∈ L, At s.heap p.2 p.1) (pl : t.plain = true) (sn : w.params.followText "set-order" = true ∨ t.led = true) {wanted M : Nat}
    (hw : SetTable.sizeAbove wanted - 1 = M) (hM : MaskOk M) (hw2 : SetTable.sizeAbove wanted ≤ 128) (hn : L.length * 5 < M * 3) {Q : Unit → Shared → Prop}
    (hQ : ∀ h' L' es' ep' t', Heap.SameBut a s.heap h' → Has w h' a L' es' ep' t' → L'.Perm L → Q () { s with heap := h' }) : wpAny (model P w) A (setRelay a wanted) Q E s := by
  have hsz := ent_size ent
  have hfit : t.fits es.size = true := by
    have := fits_of T (by rw [List.length_map]; exact hl)
    rwa [List.length_map, ← hsz] at this
  obtain ⟨t', order, e, hp, T', em, el, epl, _⟩ := relaid_ok t (hs := es.map (·.1)) (wanted := wanted) hw hM (by rw [Array.size_map, hsz]; omega)
  rw [Array.size_map, hsz] at hp
  have hlt : ∀ i ∈ order.toList, i < L.length := fun i hi => List.mem_range.mp (hp.mem_iff.mp hi)
  let L2 := order.toList.map fun i => L.getD i row0
  have ent2 : (order.filterMap (es[·]?)).toList = L2.map fun p => (hx w p, Value.ref p.1) := by
    rw [Array.toList_filterMap, pick_map (fun p => (hx w p, Value.ref p.1)) L (fun i p hp => ent_at ent hp) _ hlt, List.map_map]; rfl
  have pm : L2.Perm L := by
    have := hp.map fun i => L.getD i row0
    rwa [all_get] at this
  have eh : (order.toList.map fun i => (es.map (·.1)).getD i 0) = L2.map (hx w) := by
    rw [List.map_map]
    refine List.map_congr_left fun i hi => ?_
    have h := hlt i hi
    have e1 := ent_at ent (List.getElem?_eq_getElem h)
    have e2 : (es.map (·.1))[i]? = some (hx w L[i]) := by rw [Array.getElem?_map, e1]; rfl
    show (es.map (·.1)).getD i 0 = hx w (L.getD i row0)
    rw [List.getD_eq_getElem?_getD, List.getElem?_eq_getElem h]
    simp [Array.getD_eq_getD_getElem?, e2]
  rw [eh] at T'
  have hs2 : (order.filterMap (es[·]?)).size = es.size := by rw [ent_size ent2, pm.length_eq, hsz]
  rw [setRelay_eq]
  refine wpAny_bind (wpAny_setState_of ho hd hfit ?_)
  dsimp only
  refine wp_if_neg (by rw [sizeLine_eq]; omega) ?_
  try refine wpAny_bind (wpAny_pure ?_)
  rw [e]
  dsimp only
  refine wpAny_bind ?_
  refine wp_if_neg (by rw [hs2]; simp) ?_
  try refine wpAny_bind (wpAny_pure ?_)
  refine wpAny_pure ?_
  dsimp only
  refine wpAny_storeSet_of ho hd ?_ (by rw [hs2, hsz, sizeLine_eq]; rcases hM with z | z | z <;> omega)
  have sb : Heap.SameBut a s.heap (s.heap.update a (Obj.putSet (order.filterMap (es[·]?)) t')) := Heap.SameBut.update ..
  exact hQ _ L2 _ (ep + 1) t' sb ⟨⟨_, store_at ho hd, ⟨hex.1, hex.2.1, hex.2.2⟩, rfl⟩, ent2, T', (pm.map (·.2)).nodup_iff.mpr once, fun p hpm => (keys p (pm.mem_iff.mp hpm)).but ho hd sb, by rw [epl]; exact pl, by rw [el]; exact sn, by rw [pm.length_eq, em]; exact hn⟩ pm
/-- ADDING a key -/
theorem add (R : Has w s.heap a L es ep t) {x : Addr} {k : NestedKey} (hk : At s.heap k x) (hu : A.units + 8 < cLine) (h75 : k ∉ L.map (·.2) → L.length + 1 ≤ 75) {Q : Bool → Shared → Prop}
    (hQ : ∀ b h' L' es' ep' t', Heap.SameBut a s.heap h' → Has w h' a L' es' ep' t' → (k ∈ L.map (·.2) → L' = L) → (k ∉ L.map (·.2) → L'.Perm ((x, k) :: L)) → Q b { s with heap := h' }) :
    wpAny (model P w) A (setAddHashed a (.ref x) (k.hash w)) Q E s := by
  have hroom := R.room
  obtain ⟨o, ho, hex, hd⟩ := id R.ob
  obtain ⟨K, hKf, free, full⟩ := R.tab.first (by rw [List.length_map]; omega) (k.hash w)
  have hK5 : K < 100000 := by
    have : 10 * SetTable.turns t.mask ≤ 1420 := by
      unfold SetTable.turns
      rcases R.tab.mok with e | e | e <;> omega
    omega
  have ahead : ∀ (i : Nat) (p : Row), L[i]? = some p → p.2 = k → ∃ d, 0 ≤ d ∧ d < K ∧ t.place.toList[i]? = some (way t.mask (k.hash w) d) := fun i p hp hpk => by
    have hi : (L.map (hx w))[i]? = some (k.hash w) := by rw [List.getElem?_map, hp, ← hpk]; rfl
    have hil : i < t.place.toList.length := by
      have h1 := (List.getElem?_eq_some_iff.mp hp).1
      have h2 := R.tab.sz
      rw [List.length_map] at h2
      rw [Array.length_toList]
      omega
    have hj := List.getElem?_eq_getElem hil
    obtain ⟨d, hd', e⟩ := R.tab.before free hi hj
    exact ⟨d, Nat.zero_le _, hd', by rw [hj, e]⟩
  unfold setAddHashed
  refine wpAny_holding ?_
  rw [show (100000 : Nat) = 99999 + 1 from rfl, setAddHashedIn_succ]
  refine wpAny_bind (R.look ?_)
  dsimp only
  refine wp_if_neg (by simp [byScan, Value.scannable]) ?_
  try refine wpAny_bind (wpAny_pure ?_)
  refine wpAny_bind ?_
  unfold setSearch
  refine search R hk hu hKf free full (fun hm => ?_) (fun hm => ?_) 100000 0 none rfl (Nat.zero_le _) (by omega) ahead
  · dsimp only
    exact wpAny_pure (hQ false s.heap L es ep t (Heap.SameBut.refl a s.heap) R (fun _ => rfl) fun z => absurd hm z)
  · have h75 := h75 hm
    dsimp only
    refine wpAny_bind (R.look ?_)
    dsimp only
    obtain ⟨q1, q2, q3, q4, q5, q6, q7, q8, q9⟩ := R.tab.put free full
    have hp1 : (t.put (way t.mask (k.hash w) K)).1.plain = true := by rw [q6]; exact R.pl
    generalize hpt : t.put (way t.mask (k.hash w) K) = pt at q1 q3 q4 q5 q6 q7 q8 q9 hp1 ⊢
    obtain ⟨t1, p⟩ := pt
    dsimp only at q1 q3 q4 q5 q6 q7 q8 q9 hp1 ⊢
    subst q1
    first
      | (refine wpAny_bind ?_; refine wp_if_pos hp1 ?_; refine byV_key k _ 8 _ hk.is hk.ik hk.few _ _ _ ?_)
      | refine wp_if_pos hp1 (wpAny_bind (byV_key k _ 8 _ hk.is hk.ik hk.few _ _ _ ?_))
    simp only [if_true]
    have hin : (SetTable.insertAt es (SetTable.below t.place (way t.mask (k.hash w) K)) (k.hash w, Value.ref x)).toList = (L.take (SetTable.below t.place (way t.mask (k.hash w) K)) ++ (x, k) :: L.drop (SetTable.below t.place (way t.mask (k.hash w) K))).map fun p => (hx w p, Value.ref p.1) := by
      rw [SetTable.toList_insertAt, R.ent, List.map_append, List.map_cons, List.map_take, List.map_drop]
    have hhs : (L.take (SetTable.below t.place (way t.mask (k.hash w) K)) ++ (x, k) :: L.drop (SetTable.below t.place (way t.mask (k.hash w) K))).map (hx w) = (L.map (hx w)).take (SetTable.below t.place (way t.mask (k.hash w) K)) ++ k.hash w :: (L.map (hx w)).drop (SetTable.below t.place (way t.mask (k.hash w) K)) := by
      rw [List.map_append, List.map_cons, List.map_take, List.map_drop]
    rw [← hhs] at q3
    generalize SetTable.below t.place (way t.mask (k.hash w) K) = p at q2 q3 hin ⊢
    have pm : (L.take p ++ (x, k) :: L.drop p).Perm ((x, k) :: L) := by
      have h : (L.take p ++ (x, k) :: L.drop p).Perm ((x, k) :: (L.take p ++ L.drop p)) := List.perm_middle
      rwa [List.take_append_drop] at h
    have hlen : (L.take p ++ (x, k) :: L.drop p).length = L.length + 1 := pm.length_eq
    have nd1 : ((L.take p ++ (x, k) :: L.drop p).map (·.2)).Nodup := (pm.map (·.2)).nodup_iff.mpr (List.nodup_cons.mpr ⟨hm, R.once⟩)
    have hes := ent_size hin
    rw [hlen] at hes
    generalize SetTable.insertAt es p (k.hash w, Value.ref x) = es1 at hin hes ⊢
    generalize L.take p ++ (x, k) :: L.drop p = L1 at pm hlen q3 nd1 hin
    refine wpAny_bind (wpAny_storeSet_of ho hd ?_ (by rw [hes, sizeLine_eq]; omega))
    have sb : Heap.SameBut a s.heap (s.heap.update a (Obj.putSet es1 t1)) := Heap.SameBut.update ..
    have ho1 := store_at (es' := es1) (t' := t1) ho hd
    generalize s.heap.update a (Obj.putSet es1 t1) = h1 at sb ho1 ⊢
    have keys1 : ∀ p ∈ L1, At h1 p.2 p.1 := fun p hp => by
      rcases List.mem_cons.mp (pm.mem_iff.mp hp) with e | hp
      · rw [e]; exact hk.but ho hd sb
      · exact (R.keys p hp).but ho hd sb
    have sn1 : w.params.followText "set-order" = true ∨ t1.led = true := by rw [q5]; exact R.sn
    have hsl := R.size
    rw [List.length_map] at q9
    by_cases hf : t1.tooFull = true
    · first
        | (refine wpAny_bind ?_; refine wp_if_pos (by simp [hf]) ?_)
        | (refine wp_if_pos (by simp [hf]) ?_; refine wpAny_bind ?_)
      have hfull : (L.length + 1) * 5 ≥ t1.mask * 3 := by
        have h := hf
        unfold SetTable.tooFull at h
        rw [decide_eq_true_eq, q9] at h
        exact h
      rw [hsl]
      have two : (t.mask = 7 ∧ L.length = 4) ∨ (t.mask = 31 ∧ L.length = 18) := by
        rcases R.tab.mok with e | e | e <;> rw [q4, e] at hfull <;> rw [e] at hroom
        · exact .inl ⟨e, by omega⟩
        · exact .inr ⟨e, by omega⟩
        · omega
      have go : ∀ M, SetTable.sizeAbove (SetTable.grown (L.length + 1)) - 1 = M → MaskOk M → SetTable.sizeAbove (SetTable.grown (L.length + 1)) ≤ 128 → (L.length + 1) * 5 < M * 3 →
          wpAny (model P w) A (setRelay a (SetTable.grown (L.length + 1))) (fun _ s' => wpAny (model P w) A (pure true) Q E s') E { s with heap := h1 } := fun M g1 g2 g3 g4 => by
        refine relay (s := { s with heap := h1 }) ho1 ⟨hex.1, hex.2.1, hex.2.2⟩ rfl hin q3 (by rw [hlen, q4]; rcases two with ⟨e, e2⟩ | ⟨e, e2⟩ <;> omega) nd1 keys1 hp1 sn1 g1 g2 g3 (by rw [hlen]; exact g4) ?_
        intro h2 L2 es2 ep2 t2 sb2 R2 pm2
        exact wpAny_pure (hQ true h2 L2 es2 ep2 t2 (sb.trans sb2) R2 (fun z => absurd z hm) fun _ => pm2.trans pm)
      rcases two with ⟨_, e2⟩ | ⟨_, e2⟩
      · exact go 31 (by rw [e2, size_20]) (.inr (.inl rfl)) (by rw [e2, size_20]; decide) (by omega)
      · exact go 127 (by rw [e2, size_76]) (.inr (.inr rfl)) (by rw [e2, size_76]; decide) (by omega)
    · first
        | refine wp_if_neg (by simp [hf]) ?_
        | (refine wpAny_bind ?_; refine wp_if_neg (by simp [hf]) ?_; refine wpAny_pure ?_)
      refine wpAny_pure (hQ true h1 L1 es1 (ep + 1) t1 sb ⟨⟨_, ho1, ⟨hex.1, hex.2.1, hex.2.2⟩, rfl⟩, hin, q3, nd1, keys1, hp1, sn1, ?_⟩ (fun z => absurd z hm) fun _ => pm)
      have h := hf
      unfold SetTable.tooFull at h
      rw [decide_eq_true_eq, q9] at h
      rw [hlen]
      omega
theorem Has.keep {h h' : Heap} (R : Has w h a L es ep t) (ha : ∀ o, h.get? a = some o → h'.get? a = some o) (hk : ∀ p ∈ L, At h' p.2 p.1) : Has w h' a L es ep t := by
  obtain ⟨o, ho, r⟩ := R.ob
  exact ⟨⟨o, ha o ho, r⟩, R.ent, R.tab, R.once, hk, R.pl, R.sn, R.room⟩
end
end L2.NS


set_option Elab.async false
set_option linter.all false
set_option maxRecDepth 100000
set_option maxHeartbeats 4000000
namespace L2.NS
open PySem PySem.Calls PySem.SeqAt PySem.W PyProof.Rows L2
def nkR (r : List Int) : NestedKey := .tup (r.map .num)
def nkW (w : List (List Int)) : NestedKey := .tup (w.map nkR)
theorem num_inj : ∀ {r r' : List Int}, r.map NestedKey.num = r'.map NestedKey.num → r = r'
  | [], [], _ => rfl
  | [], _ :: _, h => by cases h
  | _ :: _, [], h => by cases h
  | a :: r, b :: r', h => by
    rw [List.map_cons, List.map_cons] at h
    injection h with h1 h2
    injection h1 with h1
    rw [h1, num_inj h2]
theorem nkR_inj {r r' : List Int} (h : nkR r = nkR r') : r = r' := by
  unfold nkR at h
  injection h with h
  exact num_inj h
structure Set0 (w : World) (h : Heap) (a : Addr) (L : List Row) : Prop where
  ex : ∃ (es : Array (Int × Value)) (ep : Nat) (t : SetTable), (∃ o, h.get? a = some o ∧ o.ExactSet ∧ o.data = .set es ep t) ∧ es.size = L.length ∧ t.fits es.size = true ∧ L.length ≤ 76
theorem Has.s0 {w : World} {h : Heap} {a : Addr} {L : List Row} {es : Array (Int × Value)} {ep : Nat} {t : SetTable} (R : Has w h a L es ep t) : Set0 w h a L := by
  have h1 := ent_size R.ent
  have h2 := fits_of R.tab (by rw [List.length_map]; have := R.room; omega)
  rw [List.length_map, ← h1] at h2
  exact ⟨es, ep, t, R.ob, h1, h2, by have := R.room; rcases R.tab.mok with e | e | e <;> omega⟩
end L2.NS
namespace L2.P
open PySem PySem.Spec PyProof.Rows L2
abbrev WRow := Addr × List (List Int)
def rowW (p : WRow) : NS.Row := (p.1, NS.nkW p.2)
section
variable {X : Cx}
end
end L2.P


set_option Elab.async false
set_option linter.all false
set_option maxRecDepth 100000
set_option maxHeartbeats 4000000
namespace L2.P
open PySem PySem.Spec PyProof.Rows L2
end L2.P


set_option Elab.async false
set_option linter.all false
set_option maxRecDepth 100000
set_option maxHeartbeats 4000000
namespace L2.P
open PySem PySem.Spec PyProof.Rows L2
def sortW (ws : List (List (List Int))) : List (List (List Int)) := ws.mergeSort (PySem.W.dataLe false webD)
end L2.P
namespace L2.PS
open PySem PySem.Calls PySem.SeqAt PySem.W PyProof.Rows L2
open L2.P (WRow rowW webD sortW)
section
variable {P : Program} {w : World} {A : Around} {E : Value → Shared → Prop} {s : Shared}
end
end L2.PS
namespace L2.P
open PySem PySem.Spec PyProof.Rows L2
section
variable {X : Cx}
end
end L2.P


set_option Elab.async false
set_option linter.all false
set_option maxRecDepth 100000
set_option maxHeartbeats 4000000
namespace L2.P
open PySem PySem.Spec PyProof.Rows L2 NdefX LamX
section
variable {P : Program} {w : World} {H H' : Hp} {h B h' : Heap} {C fs : List Addr}
end
section
variable {X : Cx} {k : Nat} {x : Str} {f : Addr} {fd : FuncData} {ps fr : List Str} {js : List Nat} {cl : List (Str × Addr)} {sp : Sp} {t : TA} {e : Expr} {es : List Expr} {p pos : Pos}
end
section
variable {X : Cx} {L : LamD} {q x : Str} {c P : Addr} {js : List Nat} {f1 f2 : Rho → Option D} {e1 e2 : Expr} {p pos lpos : Pos}
end
section
variable {P : Program} {w : World} {K : Fg} {mg : Str → Option Value} {base : Heap} {x qual : Str} {params : Arguments} {body : List Stmt} {scope : Scope} {C : Addr} {fd : FuncData} {N ps : List Str} {k : Nat}
end
end L2.P


set_option Elab.async false
set_option linter.all false
set_option maxRecDepth 100000
set_option maxHeartbeats 4000000
namespace L2.P
open PySem PySem.Spec PyProof.Rows L2
section
variable {X : Cx} {a : Expr} {p pos : Pos}
end
end L2.P


set_option Elab.async false
set_option linter.all false
set_option maxRecDepth 100000
set_option maxHeartbeats 4000000
namespace L2.P
open PySem PySem.Spec PySem.Calls PySem.W PyProof.Rows L2
mutual
theorem NkD.hash : ∀ {k : NestedKey} {d : D}, NkD k d → ∀ w w' : World, k.hash w = k.hash w'
  | _, _, .none, _, _ => rfl
  | _, _, .num i, _, _ => rfl
  | _, _, .bool b, _, _ => rfl
  | _, _, .tup h, w, w' => by
    simp only [NestedKey.hash]
    rw [NkDs.hashes h w w']
theorem NkDs.hashes : ∀ {ks : List NestedKey} {ds : List D}, NkDs ks ds → ∀ w w' : World, NestedKey.hashes w ks = NestedKey.hashes w' ks
  | _, _, .nil, _, _ => rfl
  | _, _, .cons a b, w, w' => by
    simp only [NestedKey.hashes]
    rw [NkD.hash a w w', NkDs.hashes b w w']
end
mutual
theorem NkD.is {h : Heap} : ∀ {k : NestedKey} {d : D}, NkD k d → ∀ {u : Value} {as : List Addr}, Reads h u d as → NestedIs h k u
  | _, _, .none, u, as, q => by cases q; exact .none
  | _, _, .num i, u, as, q => by cases q; exact .int _ _
  | _, _, .bool b, u, as, q => by cases q; exact .bool rfl
  | _, _, .tup n, u, as, q => by
    cases q with
    | tuple h1 h2 h3 h4 => exact .tup h1 h2 h3 (NkDs.all n h4)
theorem NkDs.all {h : Heap} : ∀ {ks : List NestedKey} {ds : List D}, NkDs ks ds → ∀ {us : List Value} {as : List Addr}, ReadsAll h us ds as → NestedAll h ks us
  | _, _, .nil, us, as, q => by cases q; exact .nil
  | _, _, .cons a b, us, as, q => by
    cases q with
    | cons q1 q2 => exact .cons (NkD.is a q1) (NkDs.all b q2)
end
theorem paired_right {α β : Type} {R : α → β → Prop} : ∀ {xs : List α} {ys : List β}, Paired R xs ys → ∀ y ∈ ys, ∃ x ∈ xs, R x y
  | _, _, .nil, y, h => by cases h
  | _, _, .cons r t, y, h => by
    rcases List.mem_cons.mp h with rfl | h
    · exact ⟨_, List.mem_cons_self, r⟩
    · obtain ⟨x, hx, q⟩ := paired_right t y h
      exact ⟨x, List.mem_cons_of_mem _ hx, q⟩
/-- what stands at the key -/
def atN (L : List NEnt) (k : NestedKey) : Option V := (L.find? fun p => decide (p.1 = k)).map fun p => p.2.2
def putN (L : List NEnt) (k : NestedKey) (b : Addr) (v : V) : List NEnt := if (atN L k).isSome then L.map fun p => if p.1 = k then (p.1, p.2.1, v) else p else L ++ [(k, b, v)]
theorem atN_rel (k : NestedKey) : ∀ {L : List NEnt} {xs : List (NestedKey × Addr × Value)}, Paired NRel L xs → RelO (atN L k) ((atKey xs k).map (·.2))
  | _, _, .nil => True.intro
  | _, _, .cons (a := p) (b := q) r t => by
    have ih := atN_rel k t
    unfold atN atKey at *
    rw [List.find?_cons, List.find?_cons, r.1]
    by_cases c : q.1 = k
    · rw [decide_eq_true c]
      exact r.2.2
    · rw [decide_eq_false c]
      exact ih
theorem relO_some {o : Option V} {u : Option Value} (h : RelO o u) : o.isSome = u.isSome := by
  cases o <;> cases u <;> first | rfl | exact h.elim
theorem map_rel (k : NestedKey) {v : V} {u : Value} (r : RelV v u) : ∀ {L : List NEnt} {xs : List (NestedKey × Addr × Value)}, Paired NRel L xs → Paired NRel (L.map fun p => if p.1 = k then (p.1, p.2.1, v) else p) (xs.map (putAt k u))
  | _, _, .nil => .nil
  | _, _, .cons (a := p) (b := q) rr t => by
    rw [List.map_cons, List.map_cons]
    refine .cons ?_ (map_rel k r t)
    unfold putAt
    by_cases c : q.1 = k
    · rw [if_pos c, if_pos (by rw [rr.1]; exact c)]
      exact ⟨rr.1, rr.2.1, r⟩
    · rw [if_neg c, if_neg (by rw [rr.1]; exact c)]
      exact rr
theorem paired_app {α β : Type} {R : α → β → Prop} {a : α} {b : β} (r : R a b) : ∀ {xs : List α} {ys : List β}, Paired R xs ys → Paired R (xs ++ [a]) (ys ++ [b])
  | _, _, .nil => .cons r .nil
  | _, _, .cons q t => .cons q (paired_app r t)
theorem putN_rel {k : NestedKey} {b : Addr} {v : V} {u : Value} (r : RelV v u) {L : List NEnt} {xs : List (NestedKey × Addr × Value)} (h : Paired NRel L xs) : Paired NRel (putN L k b v) (storedH xs k b u) := by
  have e := relO_some (atN_rel k h)
  rw [Option.isSome_map] at e
  unfold putN storedH
  rw [e]
  split
  · exact map_rel k r h
  · exact paired_app ⟨rfl, rfl, r⟩ h
theorem putN_len {L : List NEnt} {k : NestedKey} {b : Addr} {v : V} : (putN L k b v).length ≤ L.length + 1 := by
  unfold putN
  split
  · rw [List.length_map]; omega
  · rw [List.length_append]; exact Nat.le_refl _
theorem dictNO_ok {P : Program} {w : World} {H : Hp} {h : Heap} {a : Addr} {L : List NEnt} (d : DictNF h a L) : ObjOk P w H h a (DictNO a L) := by
  obtain ⟨P', w', xs, o, es, ep, rel, g, r⟩ := id d
  refine ⟨d, ⟨o, g⟩, fun h1 h2 p k => ?_⟩
  obtain ⟨P2, w2, xs2, o2, es2, ep2, rel2, g2, r2⟩ := p
  exact ⟨P2, w2, xs2, o2, es2, ep2, rel2, k o2 g2, r2⟩
/-- the keys of the entries stand in the heap -/
def EntsOk (K : Fg) (H : Hp) (L : List NEnt) : Prop := ∀ p ∈ L, ∃ d, NkD p.1 d ∧ p.1.depth ≤ 8 ∧ d.plain = true ∧ Dp K H (.ref p.2.1) d
section
variable {X : Cx} {pins : List (Addr × Obj)} {σ : St} {H : Hp} {s : Shared} {a b : Addr} {L : List NEnt} {k : NestedKey} {d : D} {A : Around} {E : Value → Shared → Prop}
theorem nk_is (I : Inv X pins σ H s) (n : NkD k d) (h8 : k.depth ≤ 8) (pl : d.plain = true) (dp : Dp X.K H (.ref b) d) : (nestedKind X.prog X.w).is s.heap k b := by
  obtain ⟨as, q⟩ := Dp.reads I d (.ref b) (.ref b) dp pl rfl
  exact ⟨n.is q, h8⟩
theorem n_dict (I : Inv X pins σ H s) (e : H a = some (DictNO a L)) (ok : EntsOk X.K H L) : ∃ xs, Paired NRel L xs ∧ s.heap.DictOfH (nestedKind X.prog X.w) a xs := by
  have hd : DictNF s.heap a L := (I.hok a _ e).1
  obtain ⟨P, w, xs, o, es, ep, rel, g, ex, dd, et, nd⟩ := hd
  refine ⟨xs, rel, o, es, ep, g, ex, dd, ?_, fun x hx => ?_, nd⟩
  · rw [et]
    refine List.map_congr_left fun x hx => ?_
    obtain ⟨p, hp, r⟩ := paired_right rel x hx
    obtain ⟨d, n, _⟩ := ok p hp
    unfold entryOfKey
    show (⟨x.1.hash w, _, _⟩ : DictEntry) = ⟨x.1.hash X.w, _, _⟩
    rw [← r.1, n.hash w X.w]
  · obtain ⟨p, hp, r⟩ := paired_right rel x hx
    obtain ⟨d, n, h8, pl, dp⟩ := ok p hp
    rw [← r.1, ← r.2.1]
    exact nk_is I n h8 pl dp
theorem room_n (hu : A.units + 10 < cLine) : (nestedKind X.prog X.w).room A.in1 := by
  show A.in1.units + 8 < cLine
  have : A.in1.units ≤ A.units + 1 := Nat.le_refl _
  omega
theorem n_getItem {v : V} {Q : Value → Shared → Prop} (hu : A.units + 10 < cLine) (I : Inv X pins σ H s) (e : H a = some (DictNO a L)) (ok : EntsOk X.K H L) (n : NkD k d) (h8 : k.depth ≤ 8) (pl : d.plain = true) (dp : Dp X.K H (.ref b) d) (hv : atN L k = some v)
    (h : ∀ w' s', Inv X pins σ H s' → RelV v w' → Q w' s') : wpAny (model X.prog X.w) A (getItem (.ref a) (.ref b)) Q E s := by
  obtain ⟨xs, rel, dd⟩ := n_dict I e ok
  have q := atN_rel k rel
  rw [hv] at q
  cases hp : atKey xs k with
  | none => rw [hp] at q; exact q.elim
  | some p =>
    rw [hp] at q
    exact wpAny_getItem_heap (room_n hu) (nk_is I n h8 pl dp) dd hp (h _ _ (I.tok _) q)
theorem n_setItem {v : V} {u : Value} {Q : Unit → Shared → Prop} (hu : A.units + 10 < cLine) (I : Inv X pins σ H s) (e : H a = some (DictNO a L)) (ok : EntsOk X.K H L) (n : NkD k d) (h8 : k.depth ≤ 8) (pl : d.plain = true) (dp : Dp X.K H (.ref b) d) (hl : L.length ≤ sizeLine) (rv : RelV v u)
    (h : ∀ s', Inv X pins σ (upd H a (DictNO a (putN L k b v))) s' → Q () s') : wpAny (model X.prog X.w) A (setItem (.ref a) (.ref b) u) Q E s := by
  obtain ⟨xs, rel, dd⟩ := n_dict I e ok
  have hx : xs.length = L.length := (Paired.length rel).symm
  refine wpAny_setItem_heap (hsz := by rw [hx]; exact hl) (room_n hu) (nk_is I n h8 pl dp) dd fun h' dd' hs => h _ ?_
  obtain ⟨q, es, ep, hq, h2, h3, h4, _, h5⟩ := dd'
  exact d_write I (by rw [e]; exact True.intro) hs ⟨q, hq⟩ (dictNO_ok ⟨X.prog, X.w, _, q, es, ep, putN_rel rv rel, hq, h2, h3, h4, h5⟩)
end
/-- d[y] -/
def tNGet (K : Fg) (td ty : TE) : TE := fun σ H Q => td σ H fun x H1 => ty σ H1 fun y H2 => ∃ (a b : Addr) (L : List NEnt) (k : NestedKey) (d : D) (v : V), x = .ref a ∧ y = .ref b ∧ H2 a = some (DictNO a L) ∧ EntsOk K H2 L ∧ NkD k d ∧ k.depth ≤ 8 ∧ d.plain = true ∧ Dp K H2 (.ref b) d ∧ atN L k = some v ∧ Q v H2
/-- d[y] = v -/
def sNPut (K : Fg) (td ty tv : TE) : TS := fun En σ H => tv σ H fun v H1 => td σ H1 fun x H2 => ty σ H2 fun y H3 => ∃ (a b : Addr) (L : List NEnt) (k : NestedKey) (d : D), x = .ref a ∧ y = .ref b ∧ H3 a = some (DictNO a L) ∧ EntsOk K H3 L ∧ NkD k d ∧ k.depth ≤ 8 ∧ d.plain = true ∧ Dp K H3 (.ref b) d ∧ L.length ≤ sizeLine ∧ En.nx σ (upd H3 a (DictNO a (putN L k b v)))
section
variable {X : Cx} {o i e value : Expr} {pos pos' tpos : Pos} {td ty tv : TE}
theorem pe_nget (hu : Rm X) (ho : PE X o td) (hi : PE X i ty) (hs : NoSl i) : PE X (.Subscript o i pos) (tNGet X.K td ty) := by
  refine ⟨fun pins s σ H Q I h => ?_⟩
  refine subD_of PySem.F.slot_dict_getitem.lookup hs (thn (ho.run pins s σ H _ I h) fun u s1 ⟨x, H1, I1, rx, q1⟩ => thn (hi.run pins s1 σ H1 _ I1 q1) fun iv s2 ⟨y, H2, I2, ry, a, b, L, k, d, v, ex, ey, e, ok, n, h8, pl, dp, hv, q2⟩ => ?_)
  subst ex ey
  obtain rfl : u = Value.ref a := rx
  obtain rfl : iv = Value.ref b := ry
  obtain ⟨xs, rel, dd⟩ := n_dict I2 e ok
  exact ⟨dd.typeIs, n_getItem (by unfold Rm at hu; omega) I2 e ok n h8 pl dp hv fun w' s3 I3 rw' => ⟨v, H2, I3, rw', q2⟩⟩
theorem ps_nput (hu : Rm X) (ho : PE X o td) (hi : PE X i ty) (hv : PE X value tv) (hs : swapsWith value (some (.Subscript o i pos')) pos.line X.env = pure false) :
    PS X (.Assign [.Subscript o i pos'] value pos) (sNPut X.K td ty tv) := by
  refine ⟨fun pins s σ H En I h => ?_⟩
  refine wpAny_Assign_Subscript (thn (hv.run pins s σ H _ I h) fun r s1 ⟨v, H1, I1, rv, q1⟩ => thn (ho.run pins s1 σ H1 _ I1 q1) fun u s2 ⟨x, H2, I2, rx, q2⟩ => thn (hi.run pins s2 σ H2 _ I2 q2) fun iv s3 ⟨y, H3, I3, ry, a, b, L, k, d, ex, ey, e, ok, n, h8, pl, dp, hl, q3⟩ => ?_) hs
  subst ex ey
  obtain rfl : u = Value.ref a := rx
  obtain rfl : iv = Value.ref b := ry
  exact n_setItem (by unfold Rm at hu; omega) I3 e ok n h8 pl dp hl rv fun s4 I4 => ⟨σ, _, I4, q3⟩
end
end L2.P


set_option Elab.async false
set_option linter.all false
set_option maxRecDepth 100000
set_option maxHeartbeats 4000000
namespace L2.P
open PySem PySem.Spec PyProof.Rows L2
section
variable {X : Cx} {x y : Str} {p pos py : Pos} {e1 e2 e3 e4 ed : Expr} {f1 f2 f3 f4 : Rho → Option D} {M : List D → D → D → Prop} {g : GA} {i : Nat}
open Classical in
theorem dictNO_new {P : Program} {w : World} {H : Hp} (h : Heap) : ObjOk P w H (h.push { cls := .type "dict", data := .dict #[] }) h.objs.size (DictNO h.objs.size []) :=
  dictNO_ok ⟨P, w, [], _, #[], 0, .nil, Heap.get?_push_size _ rfl, ⟨rfl, rfl, rfl⟩, rfl, rfl, List.nodup_nil⟩
end
section
variable {K : Fg} {B : Bs} {F H : Hp} {σ : St} {ρ : Rho} {X : Cx}
theorem inv_nest {pins : List (Addr × Obj)} {s : Shared} {a : Addr} (I : Inv X pins σ H s) (h : H a = some (.dT [])) : Inv X pins σ (upd H a (DictNO a [])) s := by
  obtain ⟨z, y, xs, r, o, es, ep, g1, g2, g3, g4, g5⟩ := I.hok a _ h
  cases r
  exact d_write (h' := s.heap) (t' := s.toks) I (by rw [h]; exact True.intro) ⟨rfl, fun b q => rfl⟩ ⟨o, g1⟩ (dictNO_ok ⟨X.prog, X.w, [], o, es, ep, .nil, g1, g2, g3, g4, List.nodup_nil⟩)
end
theorem atN_map {k : NestedKey} {v : V} : ∀ {L : List NEnt}, (atN L k).isSome = true → atN (L.map fun q => if q.1 = k then (q.1, q.2.1, v) else q) k = some v
  | [], h => by cases h
  | q :: L, h => by
    unfold atN at *
    rw [List.map_cons, List.find?_cons]
    rw [List.find?_cons] at h
    by_cases c : q.1 = k
    · rw [if_pos c, decide_eq_true c]; rfl
    · rw [if_neg c, decide_eq_false c]
      rw [decide_eq_false c] at h
      exact atN_map h
theorem atN_app {k : NestedKey} {b : Addr} {v : V} : ∀ {L : List NEnt}, atN L k = none → atN (L ++ [(k, b, v)]) k = some v
  | [], _ => by unfold atN; simp
  | q :: L, h => by
    unfold atN at *
    rw [List.cons_append, List.find?_cons]
    rw [List.find?_cons] at h
    by_cases c : q.1 = k
    · rw [decide_eq_true c] at h; cases h
    · rw [decide_eq_false c] at h ⊢
      exact atN_app h
theorem atN_put {L : List NEnt} {k : NestedKey} {b : Addr} {v : V} : atN (putN L k b v) k = some v := by
  unfold putN
  split
  · rename_i h; exact atN_map h
  · rename_i h; exact atN_app (by simpa using h)
theorem atN_none {L : List NEnt} {k : NestedKey} (h : atN L k = none) : k ∉ L.map (·.1) := fun z => by
  obtain ⟨p, hp, e⟩ := List.mem_map.mp z
  unfold atN at h
  rw [Option.map_eq_none_iff, List.find?_eq_none] at h
  exact h p hp (decide_eq_true e)
theorem putN_nodup {L : List NEnt} {k : NestedKey} {b : Addr} {v : V} (h : (L.map (·.1)).Nodup) : ((putN L k b v).map (·.1)).Nodup := by
  unfold putN
  split
  · have e : (L.map fun p => if p.1 = k then (p.1, p.2.1, v) else p).map (·.1) = L.map (·.1) := by
      rw [List.map_map]
      refine List.map_congr_left fun p _ => ?_
      show (if p.1 = k then (p.1, p.2.1, v) else p).1 = p.1
      split <;> rfl
    rw [e]; exact h
  · rename_i z
    rw [List.map_append]
    refine List.pairwise_append.mpr ⟨h, List.nodup_cons.mpr ⟨by simp, List.nodup_nil⟩, fun a ha c hc e => ?_⟩
    rw [List.mem_singleton.mp hc] at e
    exact atN_none (by simpa using z) (e ▸ ha)
section
variable {X : Cx} {x y : Str} {px py p1 p2 p3 q1 q2 q3 pos pos1 pos2 pos3 pos4 : Pos} {i j : Nat} {v k : Expr} {st : Stmt} {rest : List Stmt}
end
section
variable {P : Program} {w : World} {K : Fg} {mg : Str → Option Value} {base : Heap} {x qual : Str} {params : Arguments} {body : List Stmt} {scope : Scope} {f : Addr} {fd : FuncData} {N ps : List Str} {k : Nat}
end
end L2.P


set_option Elab.async false
set_option linter.all false
set_option maxRecDepth 100000
set_option maxHeartbeats 4000000
namespace L2.P
open PySem PySem.Spec PyProof.Rows L2
def nkR (r : List Int) : NestedKey := .tup (r.map .num)
theorem num_inj : ∀ {r r' : List Int}, r.map NestedKey.num = r'.map NestedKey.num → r = r'
  | [], [], _ => rfl
  | [], _ :: _, h => by cases h
  | _ :: _, [], h => by cases h
  | x :: r, y :: r', h => by
    rw [List.map_cons, List.map_cons] at h
    injection h with h1 h2
    injection h1 with h1
    rw [h1, num_inj h2]
theorem plain_ints : ∀ r : List Int, PyData.plainAll (r.map PyData.int) = true
  | [] => by simp [PyData.plainAll]
  | x :: r => by simp [PyData.plainAll, PyData.plain, plain_ints r]
end L2.P


set_option Elab.async false
set_option linter.all false
set_option maxRecDepth 100000
set_option maxHeartbeats 4000000
namespace L2.P
open PySem PySem.Spec PySem.Calls PySem.W PyProof.Rows L2
mutual
/-- the key that the data is -/
def nkOf : D → Option NestedKey
  | .none => some .none
  | .int i => some (.num i)
  | .bool b => some (.num (if b = true then 1 else 0))
  | .tuple ds => (nkAll ds).map .tup
  | _ => none
def nkAll : List D → Option (List NestedKey)
  | [] => some []
  | d :: ds => (nkOf d).bind fun k => (nkAll ds).map fun ks => k :: ks
end
mutual
theorem nkOf_is : ∀ {d : D} {k : NestedKey}, nkOf d = some k → NkD k d ∧ d.plain = true
  | .int i, k, h => by
    unfold nkOf at h
    cases h
    exact ⟨.num i, rfl⟩
  | .bool b, k, h => by
    unfold nkOf at h
    cases h
    exact ⟨.bool b, rfl⟩
  | .tuple ds, k, h => by
    unfold nkOf at h
    obtain ⟨ks, e, rfl⟩ := Option.map_eq_some_iff.mp h
    obtain ⟨h1, h2⟩ := nkAll_is e
    exact ⟨.tup h1, by unfold PyData.plain; exact h2⟩
  | .none, k, h => by
    unfold nkOf at h
    cases h
    exact ⟨.none, rfl⟩
  | .str _, k, h => by unfold nkOf at h; cases h
  | .list _, k, h => by unfold nkOf at h; cases h
  | .dict _, k, h => by unfold nkOf at h; cases h
theorem nkAll_is : ∀ {ds : List D} {ks : List NestedKey}, nkAll ds = some ks → NkDs ks ds ∧ PyData.plainAll ds = true
  | [], ks, h => by
    unfold nkAll at h
    cases h
    exact ⟨.nil, rfl⟩
  | d :: ds, ks, h => by
    unfold nkAll at h
    obtain ⟨k, e1, h⟩ := Option.bind_eq_some_iff.mp h
    obtain ⟨ks', e2, rfl⟩ := Option.map_eq_some_iff.mp h
    obtain ⟨h1, h2⟩ := nkOf_is e1
    obtain ⟨h3, h4⟩ := nkAll_is e2
    exact ⟨.cons h1 h3, by unfold PyData.plainAll; rw [h2, h4]; rfl⟩
end
mutual
theorem nkOf_of : ∀ {k : NestedKey} {d : D}, NkD k d → nkOf d = some k
  | _, _, .none => by unfold nkOf; rfl
  | _, _, .num i => by unfold nkOf; rfl
  | _, _, .bool b => by unfold nkOf; rfl
  | _, _, .tup h => by unfold nkOf; rw [nkAll_of h]; rfl
theorem nkAll_of : ∀ {ks : List NestedKey} {ds : List D}, NkDs ks ds → nkAll ds = some ks
  | _, _, .nil => by unfold nkAll; rfl
  | _, _, .cons a b => by unfold nkAll; rw [nkOf_of a, nkAll_of b]; rfl
end
/-- a tuple that may be a key -/
def nkeyX : D → Option NestedKey
  | .tuple ds => (nkOf (.tuple ds)).bind fun k => if k.depth ≤ 8 then some k else none
  | _ => none
theorem nkeyX_is {d : D} {k : NestedKey} (h : nkeyX d = some k) : ∃ ds, d = .tuple ds ∧ NkD k d ∧ k.depth ≤ 8 ∧ d.plain = true := by
  unfold nkeyX at h
  split at h
  · obtain ⟨k', e, h⟩ := Option.bind_eq_some_iff.mp h
    split at h
    · rename_i h8
      cases h
      obtain ⟨h1, h2⟩ := nkOf_is e
      exact ⟨_, rfl, h1, h8, h2⟩
    · cases h
  · cases h
theorem nkeyX_of {ds : List D} {k : NestedKey} (n : NkD k (.tuple ds)) (h8 : k.depth ≤ 8) : nkeyX (.tuple ds) = some k := by
  show (nkOf (.tuple ds)).bind _ = _
  rw [nkOf_of n, Option.bind_some, if_pos h8]
/-- an item's key, value -/
def fstZ : D → D
  | .tuple [d, _] => d
  | z => z
def sndZ : D → D
  | .tuple [_, p] => p
  | z => z
def nisK (k : NestedKey) (z : D) : Bool := decide (nkOf (fstZ z) = some k)
def nhX (zs : List D) (k : NestedKey) : Bool := zs.any (nisK k)
def npX (zs : List D) (k : NestedKey) (kd p : D) : List D := if nhX zs k = true then zs.map (fun z => if nisK k z = true then .tuple [fstZ z, p] else z) else zs ++ [.tuple [kd, p]]
def ndD (zs : List D) : D := .dict [(.none, .list zs)]
section
variable {K : Fg} {F H : Hp}
theorem dnAll_len : ∀ {L : List NEnt} {zs : List D}, DnAll K F L zs → L.length = zs.length
  | _, _, .nil => rfl
  | _, _, .cons _ _ _ _ _ t => congrArg (· + 1) (dnAll_len t)
theorem dnAll_ok (s : Same F H) : ∀ {L : List NEnt} {zs : List D}, DnAll K F L zs → EntsOk K H L
  | _, _, .nil => fun p hp => by cases hp
  | _, _, .cons a b c d e t => fun p hp => by
    rcases List.mem_cons.mp hp with rfl | hp
    · exact ⟨_, a, b, c, d.same s⟩
    · exact dnAll_ok s t p hp
theorem nisK_of {k k' : NestedKey} {d p : D} (n : NkD k d) : nisK k' (.tuple [d, p]) = decide (k = k') := by
  unfold nisK fstZ
  rw [nkOf_of n]
  by_cases e : k = k'
  · rw [decide_eq_true e, e]; exact decide_eq_true rfl
  · rw [decide_eq_false e]; exact decide_eq_false fun z => e (Option.some.inj z)
theorem dnAll_has (k : NestedKey) : ∀ {L : List NEnt} {zs : List D}, DnAll K F L zs → (atN L k).isSome = nhX zs k
  | _, _, .nil => rfl
  | _, _, .cons (k := k1) a b c d e t => by
    have ih := dnAll_has k t
    unfold atN nhX at *
    rw [List.find?_cons, List.any_cons, nisK_of a]
    by_cases q : k1 = k
    · rw [decide_eq_true q]; rfl
    · rw [decide_eq_false q]; exact ih
theorem dnAll_map {k : NestedKey} {v : V} {p : D} (dv : Dp K F v p) : ∀ {L : List NEnt} {zs : List D}, DnAll K F L zs → DnAll K F (L.map fun q => if q.1 = k then (q.1, q.2.1, v) else q) (zs.map fun z => if nisK k z = true then .tuple [fstZ z, p] else z)
  | _, _, .nil => .nil
  | _, _, .cons (k := k1) a b c d e t => by
    rw [List.map_cons, List.map_cons, nisK_of a]
    by_cases q : k1 = k
    · rw [if_pos q, if_pos (decide_eq_true q)]
      exact .cons a b c d dv (dnAll_map dv t)
    · rw [if_neg q, if_neg (by rw [decide_eq_false q]; exact Bool.false_ne_true)]
      exact .cons a b c d e (dnAll_map dv t)
theorem dnAll_app {k : NestedKey} {b : Addr} {v : V} {d p : D} (n : NkD k d) (h8 : k.depth ≤ 8) (pl : d.plain = true) (dy : Dp K F (.ref b) d) (dv : Dp K F v p) : ∀ {L : List NEnt} {zs : List D}, DnAll K F L zs → DnAll K F (L ++ [(k, b, v)]) (zs ++ [.tuple [d, p]])
  | _, _, .nil => .cons n h8 pl dy dv .nil
  | _, _, .cons a b c d e t => .cons a b c d e (dnAll_app n h8 pl dy dv t)
theorem dnAll_put {L : List NEnt} {zs : List D} {k : NestedKey} {b : Addr} {v : V} {d p : D} (n : NkD k d) (h8 : k.depth ≤ 8) (pl : d.plain = true) (dy : Dp K F (.ref b) d) (dv : Dp K F v p) (h : DnAll K F L zs) : DnAll K F (putN L k b v) (npX zs k d p) := by
  unfold putN npX
  rw [dnAll_has k h]
  split
  · exact dnAll_map dv h
  · exact dnAll_app n h8 pl dy dv h
theorem dnAll_get : ∀ {L : List NEnt} {zs : List D} {i : Nat} {q : NEnt}, DnAll K F L zs → L[i]? = some q → ∃ z, zs[i]? = some z ∧ Dp K F (.ref q.2.1) (fstZ z) ∧ Dp K F q.2.2 (sndZ z) ∧ z = .tuple [fstZ z, sndZ z]
  | _, _, _, _, .nil, h => by simp at h
  | _, _, 0, _, .cons a b c d e t, h => by
    simp at h
    subst h
    exact ⟨_, rfl, d, e, rfl⟩
  | _, _, i + 1, _, .cons a b c d e t, h => by simpa using dnAll_get (i := i) t (by simpa using h)
theorem Dp.inv_nd {v : V} {zs : List D} (h : Dp K F v (ndD zs)) : ∃ a o L, v = .ref a ∧ (a == sysModules) = false ∧ F a = some (.frz o (DictNO a L)) ∧ DnAll K F L zs := by
  unfold ndD at h
  generalize hp : PyData.dict [(.none, .list zs)] = p at h
  cases h with
  | dk s r => cases hp; cases r
  | dt s r => cases hp; cases r
  | q a b c d f => cases hp
  | fn h r => cases hp
  | nd m s r => cases hp; exact ⟨_, _, _, rfl, m, s, r⟩
  | _ => cases hp
end
section
variable {X : Cx} {k v e : Expr} {pos : Pos}
end
section
variable {K : Fg} {B : Bs} {F H : Hp} {σ : St} {ρ : Rho} {X : Cx}
theorem Rs.chgX {i : Nat} {s0 : Sl} {a : Addr} {o0 o1 : HO} {zs : List D} (R : Rs K B F H σ ρ) (h : ρ[i]? = some s0) (ho : s0.owns = true) (hσ : σ[i]? = some (some (.ref a))) (f : F a = none) (h0 : B.Ha a = none) (h1 : H a = some o0) (nt : ¬ isTE o0) (ok : RowOk K (some (.x zs)) F (upd H a o1) a) : Rs K B F (upd H a o1) σ (ρ.set i (.rw (some (.x zs)))) := by
  have sH : ∀ c x, c ≠ a → H c = some x → (upd H a o1) c = some x := fun c x ne e => by rw [upd_ne ne]; exact e
  refine ⟨same_upd2 R.sub f, R.ext, R.new, fun b x hb e => ?_, fun r hr => ?_, R.hr2, by rw [List.length_set]; exact R.len, fun j t ht => ?_, fun j k c t u hjk h1' h2' o1 o2 e1 e2 => ?_, R.tb.chg h1 nt, R.tbh⟩
  · have q := R.old b x hb e
    exact sH b x (fun z => by subst z; rw [h0] at e; cases e) q
  · obtain ⟨g1, g2⟩ := R.hrow r hr
    have ne : r ≠ a := fun z => by subst z; exact R.hr2 _ hr h0
    exact ⟨g1, g2.mono (Same.refl _) fun o z => sH _ _ ne z⟩
  · rcases set_some ht with ⟨rfl, hl, rfl⟩ | ⟨ne, ht⟩
    · rw [hσ]; exact .row f (.inl h0) ok
    · have q2 := R.at_ j t ht
      have far : t.owns = true → σ[j]? = some (some (V.ref a)) → False := fun o e2 => R.apart i j a _ t ne h ht ho o hσ e2
      generalize hx : σ[j]? = x at q2 far
      cases q2 with
      | no => exact .no
      | v d => exact .v d
      | @ol c zs rs g1 g2 g3 g4 => exact .ol g1 g2 (sH _ _ (fun y => far rfl (by cases y; rfl)) g3) g4
      | @od t c kvs g1 g2 g3 => exact .od g1 g2 (g3.mono (Same.refl _) fun o z => sH _ _ (fun y => far rfl (by cases y; rfl)) z)
      | @row c _ g1 g2 g3 => exact .row g1 g2 (g3.mono (Same.refl _) fun o z => sH _ _ (fun y => far rfl (by cases y; rfl)) z)
  · rcases set_some h1' with ⟨rfl, hl, rfl⟩ | ⟨ne, h1'⟩
    · rcases set_some h2' with ⟨rfl, hl, rfl⟩ | ⟨ne2, h2'⟩
      · exact hjk rfl
      · exact R.apart _ k c _ u hjk h h2' ho o2 e1 e2
    · rcases set_some h2' with ⟨rfl, hl, rfl⟩ | ⟨ne2, h2'⟩
      · exact R.apart j _ c t _ hjk h1' h o1 ho e1 e2
      · exact R.apart j k c t u hjk h1' h2' o1 o2 e1 e2
theorem Rs.xAt {i : Nat} {zs : List D} (R : Rs K B F H σ ρ) (h : ρ[i]? = some (.rw (some (.x zs)))) : ∃ a L, σ[i]? = some (some (.ref a)) ∧ F a = none ∧ B.Ha a = none ∧ (a == sysModules) = false ∧ H a = some (DictNO a L) ∧ DnAll K F L zs ∧ (L.map (·.1)).Nodup ∧ L.length ≤ sizeLine := by
  have w := R.at_ i _ h
  obtain ⟨o, hσ⟩ : ∃ o, σ[i]? = o := ⟨_, rfl⟩
  rw [hσ] at w ⊢
  cases w with
  | @row a _ f h0 ok =>
    obtain ⟨L, q⟩ := ok
    refine ⟨a, L, rfl, f, ?_, q⟩
    rcases h0 with h0 | h0
    · exact h0
    · exact h0.2.2.elim
/-- a new own dict is one of nested keys -/
def toXR (ρ : Rho) (i : Nat) : Rho := match ρ[i]? with
  | some (.od true []) => ρ.set i (.rw (some (.x [])))
  | _ => ρ
theorem toXR_yes {i : Nat} (h : ρ[i]? = some (.od true [])) : toXR ρ i = ρ.set i (.rw (some (.x []))) := by
  unfold toXR
  rw [h]
theorem toXR_no {i : Nat} (h : ¬ ρ[i]? = some (.od true [])) : toXR ρ i = ρ := by
  unfold toXR
  split
  · exact absurd ‹_› h
  · rfl
theorem sws_toX {sts : List Stmt} {T : TSt} (i : Nat) (h : SWs X sts T) : SWs X sts (fun ρ K => T (toXR ρ i) K) :=
  ⟨fun ρ K K' k q => h.mono _ _ _ k q, ⟨fun pins s σ H En I ⟨B, F, ρ, R, q⟩ => by
    by_cases hi : ρ[i]? = some (.od true [])
    · replace q : T (toXR ρ i) _ := q
      rw [toXR_yes hi] at q
      obtain ⟨a, u, hσ, f, h0, h1, r⟩ := R.ownG hi rfl (fun z => by cases z)
      obtain ⟨es, rfl, d⟩ := r
      cases d
      have sm := (I.hok a _ h1).2.1
      exact h.pss.run pins s σ _ En (inv_nest I h1) ⟨B, F, _, R.chgX hi rfl hσ f h0 h1 (not_te rfl) ⟨[], sm, upd_same, .nil, List.nodup_nil, Nat.zero_le _⟩, q⟩
    · replace q : T (toXR ρ i) _ := q
      rw [toXR_no hi] at q
      exact h.pss.run pins s σ H En I ⟨B, F, _, R, q⟩⟩⟩
theorem sfs_toX {sts : List Stmt} {f : Rho → Option Fl} (i : Nat) (h : SFs X sts f) : SFs X sts (fun ρ => f (toXR ρ i)) := sws_toX i h
theorem Rs.lockX {i : Nat} {zs : List D} (R : Rs K B F H σ ρ) (h : ρ[i]? = some (.rw (some (.x zs)))) :
    ∃ a L, σ[i]? = some (some (.ref a)) ∧ H a = some (DictNO a L) ∧ F a = none ∧ ∀ od, Rs K B (upd F a (.frz od (DictNO a L))) (upd H a (.frz od (DictNO a L))) σ (ρ.set i (.v (ndD zs))) := by
  obtain ⟨a, L, hσ, f, h0, sm, h1, dn, nd, hl⟩ := R.xAt h
  refine ⟨a, L, hσ, h1, f, fun od => ?_⟩
  have nt := dict_te a L
  have s : Same F (upd F a (.frz od (DictNO a L))) := same_upd f
  have dd : Dp K (upd F a (.frz od (DictNO a L))) (.ref a) (ndD zs) := .nd sm upd_same (dn.same s)
  refine ⟨same_upd3 R.sub, fun b x e => s b x (R.ext b x e), fun b h2 h3 => ?_, fun b x hb e => ?_, fun r hr => ?_, R.hr2, by rw [List.length_set]; exact R.len, fun j t ht => ?_, fun j k c t u hjk h1' h2' o1 o2 e1 e2 => ?_, R.tb.both h1 nt, R.tbh⟩
  · by_cases q : b = a
    · subst q; exact .inl h0
    · rw [upd_ne q] at h3; exact R.new b h2 h3
  · have ne : b ≠ a := fun z => by rw [z, h0] at e; cases e
    rw [upd_ne ne]; exact R.old b x hb e
  · obtain ⟨g1, g2⟩ := R.hrow r hr
    have ne : r ≠ a := fun e => R.hr2 r hr (by rw [e]; exact h0)
    exact ⟨by rw [upd_ne ne]; exact g1, g2.mono s fun o e => by rw [upd_ne ne]; exact e⟩
  · rcases set_some ht with ⟨rfl, hl, rfl⟩ | ⟨ne, ht⟩
    · rw [hσ]; exact .v dd
    · have q := R.at_ j t ht
      have far : t.owns = true → σ[j]? = some (some (V.ref a)) → False := fun o e => R.apart i j a _ t ne h ht rfl o hσ e
      generalize hx : σ[j]? = x at q far
      cases q with
      | no => exact .no
      | v r => exact .v (r.same s)
      | @ol c zs rs g1 g2 g3 g4 =>
        have ne : c ≠ a := fun e => far rfl (by rw [e])
        exact .ol (by rw [upd_ne ne]; exact g1) g2 (by rw [upd_ne ne]; exact g3) (g4.same s)
      | @od t c kvs g1 g2 g3 =>
        have ne : c ≠ a := fun e => far rfl (by rw [e])
        exact .od (by rw [upd_ne ne]; exact g1) g2 (g3.mono s fun o e => by rw [upd_ne ne]; exact e)
      | @row c _ g1 g2 g3 =>
        have ne : c ≠ a := fun e => far rfl (by rw [e])
        exact .row (by rw [upd_ne ne]; exact g1) g2 (g3.mono s fun o e => by rw [upd_ne ne]; exact e)
  · rcases set_some h1' with ⟨rfl, hl, rfl⟩ | ⟨ne, h1'⟩
    · cases o1
    · rcases set_some h2' with ⟨rfl, hl, rfl⟩ | ⟨ne2, h2'⟩
      · cases o2
      · exact R.apart j k c t u hjk h1' h2' o1 o2 e1 e2
def lckX (ρ : Rho) (i : Nat) : Rho := match ρ[i]? with
  | some (.rw (some (.x zs))) => ρ.set i (.v (ndD zs))
  | _ => ρ
theorem lckX_or (ρ : Rho) (i : Nat) : (∃ zs, ρ[i]? = some (.rw (some (.x zs))) ∧ lckX ρ i = ρ.set i (.v (ndD zs))) ∨ lckX ρ i = ρ := by
  unfold lckX
  split
  · rename_i zs h; exact .inl ⟨_, h, rfl⟩
  · exact .inr rfl
theorem sws_lockX {sts : List Stmt} {T : TSt} (i : Nat) (h : SWs X sts T) : SWs X sts (fun ρ K => T (lckX ρ i) K) :=
  ⟨fun ρ K K' k q => h.mono _ _ _ k q, ⟨fun pins s σ H D I hw => by
    obtain ⟨B, F, ρ, R, q⟩ := hw
    rcases lckX_or ρ i with ⟨zs, hi, e⟩ | e
    · rw [e] at q
      obtain ⟨a, L, hσ, hH, hF, R'⟩ := R.lockX hi
      obtain ⟨od, I2⟩ := I.lock hH True.intro
      exact h.pss.run pins s σ _ D I2 ⟨B, _, _, R' od, h.mono _ _ _ (fun fl k => endOk.mono (same_upd hF) k) q⟩
    · rw [e] at q
      exact h.pss.run pins s σ H D I ⟨B, F, ρ, R, q⟩⟩⟩
theorem sfs_lockX {sts : List Stmt} {f : Rho → Option Fl} (i : Nat) (h : SFs X sts f) : SFs X sts (fun ρ => f (lckX ρ i)) := sws_lockX i h
end
def sPutX (i : Nat) (f g : Rho → Option D) : Rho → Option Fl := fun ρ => match ρ[i]? with
  | some (.rw (some (.x zs))) => (f ρ).bind fun p => (g ρ).bind fun kd => (nkeyX kd).bind fun k => if zs.length < sizeLine then some (.nx (ρ.set i (.rw (some (.x (npX zs k kd p)))))) else none
  | _ => none
section
variable {X : Cx} {x : Str} {i : Nat} {p1 p2 pos px : Pos} {v k : Expr}
theorem sf_putX {f g : Rho → Option D} (hu : Rm X) (hN : X.N[i]? = some x) (hv : Vis X.env.scope x) (h : EF X v f) (hk : EF X k g) (hs : swapsWith v (some (.Subscript (.Name x p1) k p2)) pos.line X.env = pure false := by rfl) (hd : (x == ("__debug__" : Str)) = false := by decide) (hcd : (x == ("__classdict__" : Str)) = false := by decide) :
    SF X (.Assign [.Subscript (.Name x p1) k p2] v pos) (sPutX i f g) :=
  ⟨fW_mono, (ps_nput hu (pe_var hN hv hd hcd) hk.pe h.pe hs).imp fun En σ H ⟨B, F, ρ, R, fl, e, kk⟩ => by
    unfold sPutX at e
    split at e
    · rename_i zs hi
      obtain ⟨p, e1, e⟩ := Option.bind_eq_some_iff.mp e
      obtain ⟨kd, e2, e⟩ := Option.bind_eq_some_iff.mp e
      obtain ⟨nk, e3, e⟩ := Option.bind_eq_some_iff.mp e
      split at e
      · rename_i hl
        cases e
        obtain ⟨ds, rfl, n, h8, pl⟩ := nkeyX_is e3
        refine ⟨B, F, ρ, R, p, e1, fun F1 H1 u R1 s1 d1 => ?_⟩
        obtain ⟨a, L0, hσ, _⟩ := R1.xAt hi
        refine ⟨.ref a, hσ, B, F1, ρ, R1, _, e2, fun F2 H2 w R2 s2 d2 => ?_⟩
        obtain ⟨b, xs, rfl, _, _⟩ := Dp.inv_tup d2
        obtain ⟨a', L, hσ', fa, h0, sm, hH, dn, nd, _⟩ := R2.xAt hi
        obtain rfl : a' = a := by rw [hσ] at hσ'; cases hσ'; rfl
        have hL := dnAll_len dn
        have d1' := d1.same s2
        exact ⟨a', b, L, nk, _, rfl, rfl, hH, dnAll_ok R2.sub dn, n, h8, pl, d2.same R2.sub, by omega, kk F2 _ σ (R2.chgX hi rfl hσ fa h0 hH (dict_te _ _) ⟨putN L nk b u, sm, upd_same, dnAll_put n h8 pl d2 d1' dn, putN_nodup nd, Nat.le_trans putN_len (by omega)⟩) (s1.trans s2)⟩
      · cases e
    · cases e⟩
end
theorem frzN2 {X : Cx} {pins : List (Addr × Obj)} {σ : St} {H : Hp} {s : Shared} {d : Addr} {o : Obj} {L : List NEnt} (I : L2.Inv X pins σ H s) (h : H d = some (.frz o (DictNO d L))) :
    s.heap.get? d = some o ∧ o.ExactDict ∧ ∃ (es : Array DictEntry) (ep : Nat), o.data = .dict es ep ∧ es.size = L.length ∧ ∀ (i : Nat) (q : NEnt), L[i]? = some q → ∃ en : DictEntry, es[i]? = some en ∧ en.key = .ref q.2.1 ∧ RelV q.2.2 en.val := by
  obtain ⟨hd, x⟩ := I.hok d _ h
  obtain ⟨⟨P, w, xs, o', es, ep, rel, g, ex, dt, et, nd⟩, _, _⟩ := (show _ ∧ _ ∧ _ from x)
  rw [hd] at g
  cases g
  have hl := Paired.length rel
  refine ⟨hd, ex, es, ep, dt, ?_, fun i q hq => ?_⟩
  · have := size_of_entries et
    omega
  · obtain ⟨b, hb, r1, r2, r3⟩ := L2.paired_get rel hq
    have z := entry_at et i
    rw [hb] at z
    exact ⟨_, z, by rw [r2]; rfl, r3⟩
section
variable {P : Program} {w : World} {K : PySem.W.Frag} {tg : Expr} {d : Addr} {o : Obj} {es : Array DictEntry} {ep : Nat}
end
section
variable {X : Cx} {tg e : Expr} {td : TE}
/-- the items of the dict that a value is -/
def itemsX : D → Option (List D)
  | .dict [(.none, .list zs)] => if zs.length ≤ sizeLine then some zs else none
  | _ => none
def fKeysX (f : Rho → Option D) : Rho → Option (List D) := fun ρ => (f ρ).bind fun p => (itemsX p).map fun zs => zs.map fstZ
end
end L2.P


set_option Elab.async false
set_option linter.all false
set_option maxRecDepth 100000
set_option maxHeartbeats 4000000
namespace L2.P
open PySem PySem.Spec PyProof.Rows L2
abbrev RRow := Addr × List Int
def rowRR (p : RRow) : NS.Row := (p.1, NS.nkR p.2)
section
variable {X : Cx}
end
end L2.P
namespace L2.PS
open PySem PySem.Calls PySem.SeqAt PySem.W PyProof.Rows L2
open L2.P (RRow rowRR tR sortR)
section
variable {P : Program} {w : World} {A : Around} {E : Value → Shared → Prop} {s : Shared}
end
end L2.PS
namespace L2.P
open PySem PySem.Spec PyProof.Rows L2
section
variable {X : Cx}
end
end L2.P


set_option Elab.async false
set_option linter.all false
set_option maxRecDepth 100000
set_option maxHeartbeats 4000000
namespace L2.P
open PySem PySem.Spec PyProof.Rows L2
section
variable {X : Cx} {a b o e tg : Expr} {p pos apos : Pos}
end
end L2.P


set_option Elab.async false
set_option linter.all false
set_option maxRecDepth 100000
set_option maxHeartbeats 4000000
namespace L2.P
open PySem PySem.Spec PyProof.Rows L2
section
variable {X : Cx} {i : Nat} {x : Str} {p px pos ipos tpos fpos : Pos} {elts : List Expr} {kk : Nat} {g : Tg} {is : List Nat} {c : Expr} {bad : Stmt} {t : Rho → Option Bool}
end
end L2.P


set_option Elab.async false
set_option linter.all false
set_option maxRecDepth 100000
set_option maxHeartbeats 4000000
namespace L2.P
open PySem PySem.Spec PySem.Calls PySem.W PyProof.Rows L2 NdefX LamX
section
variable {X : Cx} {e : Expr} {te : TE} {p apos cpos pos : Pos}
end
section
variable {prog : Program} {w : World} {A : Around} {E : Value → Shared → Prop} {s : Shared}
end
section
variable {prog : Program} {w : World} {A : Around} {E : Value → Shared → Prop} {s : Shared} {a : Addr} {vs : List Value} {P : PySem.Fin → Shared → Prop}
end
theorem reads_ints {h : Heap} : ∀ {is : List Int} {vs : List Value} {as : List Addr}, ReadsAll h vs (is.map .int) as → as = []
  | [], vs, as, r => by cases r; rfl
  | i :: is, vs, as, r => by
    cases r with
    | cons r1 r2 =>
      cases r1
      rw [reads_ints r2]; rfl
section
variable {X : Cx} {q z : Str} {params : Arguments} {body : Expr} {scope : Scope}
end
end L2.P


set_option Elab.async false
set_option linter.all false
set_option maxRecDepth 100000
set_option maxHeartbeats 4000000
namespace L2.P
open PySem PySem.Spec PySem.Calls PySem.W PyProof.Rows L2 NdefX LamX
section
variable {X : Cx} {q0 z : Str} {params : Arguments} {body e : Expr} {scope : Scope} {p p2 pos pos2 apos cpos lpos kpos : Pos}
end
section
variable {X : Cx} {x y : Str} {i j : Nat} {k k1 v1 k2 v2 : Expr} {pos px py pt pd1 pd2 : Pos}
end
end L2.P


set_option Elab.async false
set_option linter.all false
set_option maxRecDepth 100000
set_option maxHeartbeats 4000000
namespace L2.P
theorem app_lt : ∀ {r r' x y : List Int}, r.length = r'.length → r < r' → r ++ x < r' ++ y
  | [], [], _, _, _, h => absurd h (List.lt_irrefl _)
  | [], _ :: _, _, _, h, _ => by simp at h
  | _ :: _, [], _, _, h, _ => by simp at h
  | a :: r, b :: r', x, y, hl, h => by
    rw [List.cons_append, List.cons_append]
    rcases List.cons_lt_cons_iff.mp h with h2 | ⟨rfl, h2⟩
    · exact List.cons_lt_cons_iff.mpr (.inl h2)
    · exact List.cons_lt_cons_iff.mpr (.inr ⟨rfl, app_lt (by simpa using hl) h2⟩)
theorem lt_or_eqR {r r' : List Int} (h : r ≤ r') : r < r' ∨ r = r' := by
  by_cases c : r' ≤ r
  · exact .inr (List.le_antisymm h c)
  · exact .inl (List.not_le.mp c)
theorem app_le {r r' x : List Int} (hl : r.length = r'.length) (h : r ≤ r') : r ++ x ≤ r' ++ x := by
  rcases lt_or_eqR h with h | rfl
  · exact List.le_of_lt (app_lt hl h)
  · exact List.le_refl _
theorem app_one {p q : Int} (h : p ≤ q) : ∀ r : List Int, r ++ [p] ≤ r ++ [q]
  | [] => by
    rcases Int.lt_or_eq_of_le h with h | rfl
    · exact List.le_of_lt (List.cons_lt_cons_iff.mpr (.inl h))
    · exact List.le_refl _
  | a :: r => by
    rcases lt_or_eqR (app_one h r) with h' | h'
    · exact List.le_of_lt (List.cons_lt_cons_iff.mpr (.inr ⟨rfl, h'⟩))
    · rw [List.cons_append, List.cons_append, h']; exact List.le_refl _
/-- a row of these people -/
def ValR (ps r : List Int) : Prop := ∀ x ∈ r, x ∈ ps
section
variable {S : Type} [DecidableEq S] {step : S → Int → S} {ps : List Int} {k0 : S}
def nxtC (step : S → Int → S) (ps : List Int) (es : List (S × List Int)) : List (S × List Int) := es.flatMap fun e => ps.map fun p => (step e.1 p, e.2 ++ [p])
def insC (s : List S × List (S × List Int)) (c : S × List Int) : List S × List (S × List Int) := if c.1 ∈ s.1 then s else (s.1 ++ [c.1], s.2 ++ [c])
structure InsOk (cs : List (S × List Int)) (m0 : List S) (f0 : List (S × List Int)) (s : List S × List (S × List Int)) : Prop where
  met : ∀ k, k ∈ s.1 ↔ k ∈ m0 ∨ ∃ c ∈ cs, c.1 = k
  ndm : s.1.Nodup
  ndf : (s.2.map (·.1)).Nodup
  sub : ∀ e ∈ s.2, e ∈ f0 ∨ e ∈ cs ∧ e.1 ∉ m0 ∧ ∀ c ∈ cs, c.1 = e.1 → e.2 ≤ c.2
  has : ∀ c ∈ cs, c.1 ∉ m0 → ∃ e ∈ s.2, e.1 = c.1
  old : ∀ e ∈ f0, e ∈ s.2
  l1 : s.1.length ≤ m0.length + cs.length
  l2 : s.2.length ≤ f0.length + cs.length
theorem ins_spec : ∀ (cs : List (S × List Int)) (m0 : List S) (f0 : List (S × List Int)), cs.Pairwise (fun a b => a.2 ≤ b.2) → m0.Nodup → (f0.map (·.1)).Nodup → (∀ e ∈ f0, e.1 ∈ m0) → InsOk cs m0 f0 (cs.foldl insC (m0, f0))
  | [], m0, f0, _, h1, h2, _ => ⟨fun k => by simp, h1, h2, fun e he => .inl he, fun c hc => (by cases hc), fun e he => he, Nat.le_refl _, Nat.le_refl _⟩
  | c :: cs, m0, f0, hp, h1, h2, h3 => by
    obtain ⟨q1, q2⟩ := List.pairwise_cons.mp hp
    rw [List.foldl_cons]
    by_cases hc : c.1 ∈ m0
    · rw [show insC (m0, f0) c = (m0, f0) from if_pos hc]
      have I := ins_spec cs m0 f0 q2 h1 h2 h3
      refine ⟨fun k => ?_, I.ndm, I.ndf, fun e he => ?_, fun d hd hn => ?_, I.old, Nat.le_trans I.l1 (by simp), Nat.le_trans I.l2 (by simp)⟩
      · rw [I.met]
        constructor
        · rintro (h | ⟨d, hd, e⟩)
          · exact .inl h
          · exact .inr ⟨d, List.mem_cons_of_mem _ hd, e⟩
        · rintro (h | ⟨d, hd, e⟩)
          · exact .inl h
          · rcases List.mem_cons.mp hd with hd | hd
            · exact .inl (by rw [← e, hd]; exact hc)
            · exact .inr ⟨d, hd, e⟩
      · rcases I.sub e he with h | ⟨a1, a2, a3⟩
        · exact .inl h
        · refine .inr ⟨List.mem_cons_of_mem _ a1, a2, fun d hd ed => ?_⟩
          rcases List.mem_cons.mp hd with rfl | hd
          · exact absurd (ed ▸ hc) a2
          · exact a3 d hd ed
      · rcases List.mem_cons.mp hd with rfl | hd
        · exact absurd hc hn
        · exact I.has d hd hn
    · rw [show insC (m0, f0) c = (m0 ++ [c.1], f0 ++ [c]) from if_neg hc]
      have I := ins_spec cs (m0 ++ [c.1]) (f0 ++ [c]) q2 (List.nodup_append.mpr ⟨h1, by simp, fun a ha b hb => by
        rw [List.mem_singleton.mp hb]; exact fun z => hc (z ▸ ha)⟩) (by
        rw [List.map_append]
        refine List.nodup_append.mpr ⟨h2, by simp, fun a ha b hb => ?_⟩
        obtain ⟨e', he', rfl⟩ := List.mem_map.mp ha
        have : b = c.1 := by simpa using hb
        rw [this]
        exact fun z => hc (z ▸ h3 e' he')) (fun e he => by
        rcases List.mem_append.mp he with he | he
        · exact List.mem_append_left _ (h3 e he)
        · rw [List.mem_singleton.mp he]; exact List.mem_append_right _ (List.mem_singleton.mpr rfl))
      have hcm : c ∈ (cs.foldl insC (m0 ++ [c.1], f0 ++ [c])).2 := I.old c (List.mem_append_right _ (List.mem_singleton.mpr rfl))
      refine ⟨fun k => ?_, I.ndm, I.ndf, fun e he => ?_, fun d hd hn => ?_, fun e he => I.old e (List.mem_append_left _ he), ?_, ?_⟩
      · rw [I.met, List.mem_append, List.mem_singleton]
        constructor
        · rintro ((h | h) | ⟨d, hd, e⟩)
          · exact .inl h
          · exact .inr ⟨c, List.mem_cons_self, h.symm⟩
          · exact .inr ⟨d, List.mem_cons_of_mem _ hd, e⟩
        · rintro (h | ⟨d, hd, e⟩)
          · exact .inl (.inl h)
          · rcases List.mem_cons.mp hd with hd | hd
            · exact .inl (.inr (by rw [← e, hd]))
            · exact .inr ⟨d, hd, e⟩
      · rcases I.sub e he with h | ⟨a1, a2, a3⟩
        · rcases List.mem_append.mp h with h | h
          · exact .inl h
          · rw [List.mem_singleton.mp h]
            refine .inr ⟨List.mem_cons_self, hc, fun d hd _ => ?_⟩
            rcases List.mem_cons.mp hd with rfl | hd
            · exact List.le_refl _
            · exact q1 d hd
        · rw [List.mem_append, List.mem_singleton, not_or] at a2
          refine .inr ⟨List.mem_cons_of_mem _ a1, a2.1, fun d hd ed => ?_⟩
          rcases List.mem_cons.mp hd with rfl | hd
          · exact absurd ed.symm a2.2
          · exact a3 d hd ed
      · rcases List.mem_cons.mp hd with rfl | hd
        · exact ⟨d, hcm, rfl⟩
        · by_cases z : d.1 = c.1
          · exact ⟨c, hcm, z.symm⟩
          · exact I.has d hd (by rw [List.mem_append, List.mem_singleton, not_or]; exact ⟨hn, z⟩)
      · have := I.l1; rw [List.length_append, List.length_singleton] at this; rw [List.length_cons]; omega
      · have := I.l2; rw [List.length_append, List.length_singleton] at this; rw [List.length_cons]; omega
/-- after t levels: last holds what is reached by t calls and by no fewer, met all that is reached -/
structure Lev (step : S → Int → S) (ps : List Int) (k0 : S) (t : Nat) (last : List (S × List Int)) (met : List S) : Prop where
  row : ∀ e ∈ last, e.2.length = t ∧ ValR ps e.2 ∧ e.2.foldl step k0 = e.1
  min : ∀ e ∈ last, ∀ r, r.length = t → ValR ps r → r.foldl step k0 = e.1 → e.2 ≤ r
  mt : ∀ k, k ∈ met ↔ ∃ r, r.length ≤ t ∧ ValR ps r ∧ r.foldl step k0 = k
  new : ∀ e ∈ last, ∀ r, r.length < t → ValR ps r → r.foldl step k0 ≠ e.1
  all : ∀ r, r.length = t → ValR ps r → (∃ e ∈ last, e.1 = r.foldl step k0) ∨ ∃ r', r'.length < t ∧ ValR ps r' ∧ r'.foldl step k0 = r.foldl step k0
  nd : (last.map (·.1)).Nodup
  ndm : List.Nodup met
theorem val_snoc {ps q : List Int} {p : Int} : ValR ps (q ++ [p]) ↔ ValR ps q ∧ p ∈ ps := by
  unfold ValR
  simp only [List.mem_append, List.mem_singleton]
  exact ⟨fun h => ⟨fun x hx => h x (.inl hx), h p (.inr rfl)⟩, fun h x hx => hx.elim (h.1 x) (fun e => e ▸ h.2)⟩
theorem snoc_of {r : List Int} {t : Nat} (h : r.length = t + 1) : ∃ q p, r = q ++ [p] ∧ q.length = t := by
  rcases List.eq_nil_or_concat r with rfl | ⟨q, p, e⟩
  · simp at h
  · refine ⟨q, p, by rw [e]; simp, ?_⟩
    rw [e] at h
    simpa using h
theorem mem_nxtC {es : List (S × List Int)} {c : S × List Int} : c ∈ nxtC step ps es ↔ ∃ e ∈ es, ∃ p ∈ ps, c = (step e.1 p, e.2 ++ [p]) := by
  unfold nxtC
  rw [List.mem_flatMap]
  constructor
  · rintro ⟨e, he, h⟩
    obtain ⟨p, hp, rfl⟩ := List.mem_map.mp h
    exact ⟨e, he, p, hp, rfl⟩
  · rintro ⟨e, he, p, hp, rfl⟩
    exact ⟨e, he, List.mem_map.mpr ⟨p, hp, rfl⟩⟩
theorem pw_nxtC {t : Nat} (hps : ps.Pairwise (· ≤ ·)) : ∀ {es : List (S × List Int)}, es.Pairwise (fun a b => a.2 < b.2) → (∀ e ∈ es, e.2.length = t) → (nxtC step ps es).Pairwise (fun a b => a.2 ≤ b.2)
  | [], _, _ => .nil
  | e :: es, h, hl => by
    obtain ⟨h1, h2⟩ := List.pairwise_cons.mp h
    show ((ps.map fun p => (step e.1 p, e.2 ++ [p])) ++ nxtC step ps es).Pairwise _
    refine List.pairwise_append.mpr ⟨List.pairwise_map.mpr (hps.imp fun {a b} hab => app_one hab _), pw_nxtC hps h2 fun x hx => hl x (List.mem_cons_of_mem _ hx), fun a ha b hb => ?_⟩
    obtain ⟨p, _, rfl⟩ := List.mem_map.mp ha
    obtain ⟨e', he', q, _, rfl⟩ := mem_nxtC.mp hb
    exact List.le_of_lt (app_lt ((hl e List.mem_cons_self).trans (hl e' (List.mem_cons_of_mem _ he')).symm) (h1 e' he'))
/-- the rows of a level are different ones -/
theorem Lev.strict {t : Nat} {last es : List (S × List Int)} {met : List S} (L : Lev step ps k0 t last met) (hp : es.Perm last) (h : es.Pairwise fun a b => a.2 ≤ b.2) : es.Pairwise fun a b => a.2 < b.2 := by
  have nd : (es.map (·.1)).Nodup := (hp.map _).nodup_iff.mpr L.nd
  have nd' : es.Pairwise fun a b => a.1 ≠ b.1 := List.pairwise_map.mp nd
  refine (List.Pairwise.and h nd').imp_of_mem fun {a b} ha hb ⟨h1, h2⟩ => ?_
  rcases lt_or_eqR h1 with h1 | h1
  · exact h1
  · refine absurd ?_ h2
    rw [← (L.row a (hp.mem_iff.mp ha)).2.2, ← (L.row b (hp.mem_iff.mp hb)).2.2, h1]
theorem Lev.next {t : Nat} {last es : List (S × List Int)} {met : List S} (L : Lev step ps k0 t last met) (hps : ps.Pairwise (· ≤ ·)) (hp : es.Perm last) (h : es.Pairwise fun a b => a.2 ≤ b.2) :
    Lev step ps k0 (t + 1) ((nxtC step ps es).foldl insC (met, [])).2 ((nxtC step ps es).foldl insC (met, [])).1 := by
  have I := ins_spec (nxtC step ps es) met [] (pw_nxtC hps (L.strict hp h) fun e he => (L.row e (hp.mem_iff.mp he)).1) L.ndm (by simp) (fun e he => by cases he)
  generalize (nxtC step ps es).foldl insC (met, []) = s at I ⊢
  have cand : ∀ c ∈ nxtC step ps es, c.2.length = t + 1 ∧ ValR ps c.2 ∧ c.2.foldl step k0 = c.1 := fun c hc => by
    obtain ⟨e, he, p, hp', rfl⟩ := mem_nxtC.mp hc
    obtain ⟨a, b, d⟩ := L.row e (hp.mem_iff.mp he)
    refine ⟨by rw [List.length_append, a, List.length_singleton], val_snoc.mpr ⟨b, hp'⟩, ?_⟩
    rw [List.foldl_append, d]; rfl
  have sub : ∀ e ∈ s.2, e ∈ nxtC step ps es ∧ e.1 ∉ met ∧ ∀ c ∈ nxtC step ps es, c.1 = e.1 → e.2 ≤ c.2 := fun e he => (I.sub e he).resolve_left (fun z => by cases z)
  -- a row of t + 1 calls: what it leads to is a candidate's, or is reached earlier
  have last1 : ∀ r, r.length = t + 1 → ValR ps r → (∃ c ∈ nxtC step ps es, c.1 = r.foldl step k0 ∧ c.2 ≤ r) ∨ ∃ r', r'.length < t + 1 ∧ ValR ps r' ∧ r'.foldl step k0 = r.foldl step k0 := fun r hr hv => by
    obtain ⟨q, p, rfl, hq⟩ := snoc_of hr
    obtain ⟨v1, v2⟩ := val_snoc.mp hv
    rcases L.all q hq v1 with ⟨e, he, e1⟩ | ⟨q', a1, a2, a3⟩
    · refine .inl ⟨(step e.1 p, e.2 ++ [p]), mem_nxtC.mpr ⟨e, hp.mem_iff.mpr he, p, v2, rfl⟩, by rw [List.foldl_append, ← e1]; rfl, app_le ((L.row e he).1.trans hq.symm) (L.min e he q hq v1 e1.symm)⟩
    · exact .inr ⟨q' ++ [p], by rw [List.length_append, List.length_singleton]; omega, val_snoc.mpr ⟨a2, v2⟩, by rw [List.foldl_append, List.foldl_append, a3]⟩
  refine ⟨fun e he => cand e (sub e he).1, fun e he r hr hv hf => ?_, fun k => ?_, fun e he r hr hv hf => ?_, fun r hr hv => ?_, I.ndf, I.ndm⟩
  · obtain ⟨s1, s2, s3⟩ := sub e he
    rcases last1 r hr hv with ⟨c, hc, c1, c2⟩ | ⟨r', a1, a2, a3⟩
    · exact List.le_trans (s3 c hc (c1.trans hf)) c2
    · exact absurd ((L.mt _).mpr ⟨r', by omega, a2, a3.trans hf⟩) s2
  · rw [I.met]
    constructor
    · rintro (h | ⟨c, hc, rfl⟩)
      · obtain ⟨r, a, b, d⟩ := (L.mt k).mp h
        exact ⟨r, by omega, b, d⟩
      · obtain ⟨a, b, d⟩ := cand c hc
        exact ⟨c.2, by omega, b, d⟩
    · rintro ⟨r, a, b, d⟩
      by_cases hr : r.length = t + 1
      · rcases last1 r hr b with ⟨c, hc, c1, _⟩ | ⟨r', a1, a2, a3⟩
        · exact .inr ⟨c, hc, c1.trans d⟩
        · exact .inl ((L.mt k).mpr ⟨r', by omega, a2, a3.trans d⟩)
      · exact .inl ((L.mt k).mpr ⟨r, by omega, b, d⟩)
  · exact (sub e he).2.1 ((L.mt _).mpr ⟨r, by omega, hv, hf⟩)
  · rcases last1 r hr hv with ⟨c, hc, c1, _⟩ | h
    · by_cases hm : c.1 ∈ met
      · obtain ⟨r', a, b, d⟩ := (L.mt _).mp hm
        exact .inr ⟨r', by omega, b, d.trans c1⟩
      · obtain ⟨e, he, e1⟩ := I.has c hc hm
        exact .inl ⟨e, he, e1.trans c1⟩
    · exact .inr h
/-- the least of the shortest rows that lead to one that is calm -/
structure LeastR (step : S → Int → S) (ps : List Int) (k0 : S) (calm : S → Bool) (r : List Int) : Prop where
  val : ValR ps r
  good : calm (r.foldl step k0) = true
  least : ∀ r', ValR ps r' → calm (r'.foldl step k0) = true → r.length < r'.length ∨ r.length = r'.length ∧ r ≤ r'
def NoCalm (step : S → Int → S) (ps : List Int) (k0 : S) (calm : S → Bool) (t : Nat) : Prop := ∀ r, r.length < t → ValR ps r → calm (r.foldl step k0) = false
theorem Lev.found {t : Nat} {last es : List (S × List Int)} {met : List S} {calm : S → Bool} {e : S × List Int} (L : Lev step ps k0 t last met) (nc : NoCalm step ps k0 calm t) (hp : es.Perm last) (h : es.Pairwise fun a b => a.2 ≤ b.2) (hf : es.find? (fun e => calm e.1) = some e) :
    LeastR step ps k0 calm e.2 := by
  have he := List.mem_of_find?_eq_some hf
  obtain ⟨a, b, d⟩ := L.row e (hp.mem_iff.mp he)
  have hc : calm e.1 = true := by
    have := List.find?_some hf
    exact this
  refine ⟨b, by rw [d]; exact hc, fun r' hv hg => ?_⟩
  by_cases h1 : r'.length < t
  · rw [nc r' h1 hv] at hg; cases hg
  by_cases h2 : r'.length = t
  · refine .inr ⟨by omega, ?_⟩
    rcases L.all r' h2 hv with ⟨e', he', e1⟩ | ⟨q, a1, a2, a3⟩
    · have m := L.min e' he' r' h2 hv e1.symm
      refine List.le_trans ?_ m
      rw [← e1] at hg
      obtain ⟨as, bs, e2, e3⟩ := (List.find?_eq_some_iff_append.mp hf).2
      have me : e' ∈ es := hp.mem_iff.mpr he'
      rw [e2] at me h
      rcases List.mem_append.mp me with me | me
      · have := e3 e' me
        simp [hg] at this
      · rcases List.mem_cons.mp me with rfl | me
        · exact List.le_refl _
        · exact (List.pairwise_cons.mp (List.pairwise_append.mp h).2.1).1 e' me
    · rw [← a3, nc q a1 a2] at hg; cases hg
  · exact .inl (by omega)
theorem Lev.none {t : Nat} {last es : List (S × List Int)} {met : List S} {calm : S → Bool} (L : Lev step ps k0 t last met) (nc : NoCalm step ps k0 calm t) (hp : es.Perm last) (hf : es.find? (fun e => calm e.1) = none) : NoCalm step ps k0 calm (t + 1) := fun r hr hv => by
  by_cases h1 : r.length < t
  · exact nc r h1 hv
  rcases L.all r (by omega) hv with ⟨e', he', e1⟩ | ⟨q, a1, a2, a3⟩
  · have := List.find?_eq_none.mp hf e' (hp.mem_iff.mpr he')
    rw [← e1]
    simpa using this
  · rw [← a3]; exact nc q a1 a2
end
section
open PySem PySem.Spec PyProof.Rows L2
def dGeP : G2 := fun p q => if okD p = true ∧ okD q = true ∧ PySem.W.alike p q = true ∧ notN p = true then some (.bool (!PySem.W.dataLt p q)) else none
def rGeP (K : Fg) : R2 := fun x y H Q => ∃ d e, Dp K H x d ∧ Dp K H y e ∧ okD d = true ∧ okD e = true ∧ PySem.W.alike d e = true ∧ notN d = true ∧ Q (.bl (!PySem.W.dataLt d e)) H
theorem or_geP {X : Cx} (hu : Rm X) : OpR X (compareOp .GtE) (rGeP X.K) := by
  intro pins s σ H x y v u Q I rx ry h
  obtain ⟨d, e, hd, he, sd, se, al, nn, q⟩ := h
  obtain ⟨p1, z1⟩ := okD_iff.mp sd
  obtain ⟨p2, z2⟩ := okD_iff.mp se
  obtain ⟨as, r1⟩ := Dp.reads I d x v hd p1 rx
  obtain ⟨bs, r2⟩ := Dp.reads I e y u he p2 ry
  exact PySem.W.ge_data r1 r2 al (fun z => by subst z; cases nn) (by unfold Rm at hu; omega) ⟨.bl _, H, I, rfl, q⟩
theorem og_geP {X : Cx} (hu : Rm X) : OpG X (compareOp .GtE) dGeP := OpG.of ⟨_, or_geP hu, fun B F H σ ρ x y p q z Q R hx hy e k => by
  unfold dGeP at e
  split at e
  · rename_i h; cases e
    exact ⟨p, q, hx, hy, h.1, h.2.1, h.2.2.1, h.2.2.2, k F H _ R (Same.refl _) (.bl _)⟩
  · cases e⟩
theorem lt_tRd (r r' : List Int) : PySem.W.dataLt (tR r) (tR r') = decide (r < r') := by
  have h : PySem.W.dataLe false tR r' r = decide (r' ≤ r) := by rw [le_tR]
  have e : PySem.W.dataLe false tR r' r = !PySem.W.dataLt (tR r) (tR r') := rfl
  rw [e] at h
  have h2 : PySem.W.dataLt (tR r) (tR r') = !decide (r' ≤ r) := by rw [← h, Bool.not_not]
  rw [h2]
  by_cases c : r' ≤ r
  · rw [decide_eq_true c, decide_eq_false (List.not_lt.mpr c)]; rfl
  · rw [decide_eq_false c, decide_eq_true (List.not_le.mp c)]; rfl
theorem geR_no {r r' : List Int} (h : r < r') (l1 : r.length ≤ 64) : dGeP (tR r) (tR r') = some (.bool false) := by
  unfold dGeP
  rw [if_pos ⟨encInt.tup.ok r, encInt.tup.ok r', by unfold tR PySem.W.alike; exact PySem.W.alike_ints r r', rfl⟩, lt_tRd, decide_eq_true h]; rfl
end
end L2.P


set_option Elab.async false
set_option linter.all false
set_option maxRecDepth 100000
set_option maxHeartbeats 4000000
namespace L2.DM
open PySem PySem.Calls PySem.W PyProof.Rows PySem.Spec
section
variable {prog : Program} {w : World} {K : Type} [DecidableEq K] {knd : HeapKind prog w K} {A : Around} {E : Value → Shared → Prop} {s : Shared} {d a : Addr} {k : K} {xs ys : List (K × Addr × Value)}
theorem dictPut_heap {v : Value} {Q : Unit → Shared → Prop} (hu : knd.room A) (hkey : knd.is s.heap k a) (hm : s.heap.DictOfH knd d xs)
    (hQ : ∀ h', h'.DictOfH knd d (storedH xs k a v) → Heap.SameBut d s.heap h' → Q () { s with heap := h' }) (hsz : xs.length ≤ sizeLine) :
    wpAny (model prog w) A (dictPut d (knd.hash k) (.ref a) v) Q E s := by
  obtain ⟨o, es, ep, ho, hc, hd, he, his, hn⟩ := hm
  unfold dictPut
  refine wpAny_bind (wpAny_dictFind_heap hu hkey ho hd he his hn (fun hno => ?_) fun j p hj => ?_)
  · refine wpAny_updateDictKeys (hz := by have e := size_of_entries he; omega) ho hd (hQ _ ⟨_, _, ep + 1, Heap.get?_update_self _ ho (Obj.isFreed_of_dict (Obj.data_mapDictKeys hd _)), hc.mapDictKeys _, Obj.data_mapDictKeys hd _, ?_, ?_, ?_⟩ (Heap.SameBut.update ..))
    · rw [storedH_new (atKey_none_of_get hno)]
      simp [he, entryOfKey]
    · rw [storedH_new (atKey_none_of_get hno)]
      intro x hx
      rcases List.mem_append.mp hx with hx | hx
      · exact knd.keeps (his x hx) ho hd (Heap.SameBut.update ..)
      · rw [List.mem_singleton] at hx
        subst hx
        exact knd.keeps hkey ho hd (Heap.SameBut.update ..)
    · rw [storedH_new (atKey_none_of_get hno), List.map_append, List.nodup_append]
      refine ⟨hn, by simp, fun x hx y hy e => ?_⟩
      have hy2 : y = k := by simpa using hy
      exact not_mem_keys_of_get hno (by rw [← hy2, ← e]; exact hx)
  · refine wpAny_updateDict ho hd (hQ _ ⟨_, _, ep, Heap.get?_update_self _ ho (Obj.isFreed_of_dict (Obj.data_mapDict hd _)), hc.mapDict _, Obj.data_mapDict hd _, ?_, ?_, ?_⟩ (Heap.SameBut.update ..))
    · rw [storedH_old (atKey_of_get hn hj)]
      have := modify_map_putAt (entryOfKey knd) (fun e : DictEntry => { e with val := v }) k v (fun _ _ => rfl) hn hj
      rw [← he] at this
      obtain ⟨l⟩ := es
      simpa using this
    · rw [storedH_old (atKey_of_get hn hj)]
      intro x hx
      obtain ⟨y, hy, rfl⟩ := List.mem_map.mp hx
      unfold putAt
      split <;> exact knd.keeps (his y hy) ho hd (Heap.SameBut.update ..)
    · rw [storedH_old (atKey_of_get hn hj), keys_map_putAt]; exact hn
theorem storedH_len (xs : List (K × Addr × Value)) (k : K) (a : Addr) (v : Value) : (storedH xs k a v).length ≤ xs.length + 1 := by
  unfold storedH
  split
  · rw [List.length_map]; omega
  · rw [List.length_append]; exact Nat.le_refl _
theorem storedAllH_len : ∀ (ps xs : List (K × Addr × Value)), (storedAllH xs ps).length ≤ xs.length + ps.length
  | [], xs => Nat.le_refl _
  | p :: ps, xs => by
    have h1 := storedAllH_len ps (storedH xs p.1 p.2.1 p.2.2)
    have h2 := storedH_len xs p.1 p.2.1 p.2.2
    show (storedAllH (storedH xs p.1 p.2.1 p.2.2) ps).length ≤ _
    rw [List.length_cons]; omega
theorem one_of_nodup {α β : Type} [BEq β] [LawfulBEq β] {f : α → β} : ∀ {l : List α}, (l.map f).Nodup → ∀ {x : α}, x ∈ l → (l.filter fun y => f y == f x).length ≤ 1
  | [], _, x, hx => by cases hx
  | a :: l, h, x, hx => by
    rw [List.map_cons, List.nodup_cons] at h
    rw [List.filter_cons]
    by_cases e : f a = f x
    · rw [if_pos (by rw [e]; exact beq_self_eq_true _), List.length_cons]
      have : l.filter (fun y => f y == f x) = [] := List.filter_eq_nil_iff.mpr fun y hy z => h.1 (by
        rw [e, ← eq_of_beq z]; exact List.mem_map_of_mem hy)
      rw [this]; exact Nat.le_refl _
    · rw [if_neg (fun z => e (eq_of_beq z))]
      rcases List.mem_cons.mp hx with rfl | hx
      · exact absurd rfl e
      · exact one_of_nodup h.2 hx
/-- d.update(a), inside a display -/
theorem merge_heap {Q : Unit → Shared → Prop} (hu : knd.room A) (hm : s.heap.DictOfH knd d xs) (ha : s.heap.DictOfH knd a ys) (hda : a ≠ d) (sm : (a == sysModules) = false)
    (ht : ∀ y ∈ ys, s.TypeIs (.ref y.2.1) "tuple") (hdis : xs = [] → (ys.map fun y => knd.hash y.1).Nodup) (hsz : xs.length + ys.length ≤ sizeLine)
    (hQ : ∀ h', h'.DictOfH knd d (storedAllH xs ys) → Heap.SameBut d s.heap h' → Q () { s with heap := h' }) :
    wpAny (model prog w) A (mergeMapping d (.ref a) false) Q E s := by
  obtain ⟨oa, ea, epa, hoa, hca, hda2, hea, hia, hna⟩ := id ha
  obtain ⟨od, ed, epd, hod, hcd, hdd, hed, hid, hnd⟩ := id hm
  have eal : ea.size = ys.length := size_of_entries hea
  unfold mergeMapping
  refine wpAny_bind (wpAny_isInstance ha.typeIs isSubtype_dict_dict ?_)
  simp only [if_true]
  refine wpAny_bind (wpAny_specialOf ha.typeIs PySem.F.slot_dict_iter.lookup ?_)
  refine wpAny_bind (wpAny_pure ?_)
  simp only [beq_self_eq_true]
  rw [if_neg (by rw [sm]; exact Bool.false_ne_true)]
  refine wpAny_bind (wpAny_dictEntries hod hdd ?_)
  refine wpAny_ite_split (fun hemp => ?one) (fun _ => ?two)
  case' one =>
    have hx0 : xs = [] := by
      have h1 : ed.size = 0 := by simpa [Array.isEmpty_iff_size_eq_zero] using hemp
      have h2 := size_of_entries hed
      exact List.length_eq_zero_iff.mp (by omega)
    refine wpAny_bind (wpAny_dictEntries hoa hda2 (wpAny_bind (wpAny_mono (Q := fun _ s' => s' = s) ?chk (fun _ s' es => ?rest) fun _ _ z => z)))
    case' chk =>
      rw [← Array.forIn_toList, hea]
      refine wpAny_forIn_list _ (fun rest _ s' => s' = s ∧ ∀ x ∈ rest, x ∈ ys.map (entryOfKey knd)) _ (fun x rest b s' hI => ?turn) (fun b s' hI => hI.1) _ _ ⟨rfl, fun x hx => hx⟩
      case' turn =>
        obtain ⟨es, hI⟩ := hI
        rw [es]
        obtain ⟨y, hy, rfl⟩ := List.mem_map.mp (hI x List.mem_cons_self)
        show wpAny _ _ (specialOf (.ref y.2.1) _ >>= _) _ _ _
        refine wpAny_bind (wpAny_specialOf (ht y hy) PySem.F.slot_tuple_eq.lookup ?_)
        rw [if_pos (by decide)]
        have hsz1 : ¬ (Array.filter (fun x => x.hash == (entryOfKey knd y).hash) ea).size > 1 := by
          have e1 : (Array.filter (fun x => x.hash == (entryOfKey knd y).hash) ea).size = (ys.filter fun z => knd.hash z.1 == knd.hash y.1).length := by
            rw [← Array.length_toList, Array.toList_filter, hea, List.filter_map, List.length_map]; rfl
          rw [e1]
          have := one_of_nodup (f := fun y : K × Addr × Value => knd.hash y.1) (hdis hx0) hy
          omega
        rw [if_neg hsz1]
        exact wpAny_pure ⟨rfl, fun z hz => hI z (List.mem_cons_of_mem _ hz)⟩
    case' rest => rw [es]
  all_goals
    refine wpAny_bind (wpAny_dictEntries hoa hda2 (wpAny_bind (wpAny_dictEpoch hoa hda2 ?_)))
    refine wpAny_bind (wpAny_forIn_list _ (fun rest _ s' => ∃ i h', rest = (List.range ea.size).drop i ∧ i ≤ ea.size ∧ s' = { s with heap := h' } ∧ h'.DictOfH knd d (storedAllH xs (ys.take i)) ∧ Heap.SameBut d s.heap h') _ (fun x rest b s' hI => ?_) (fun b s' hI => ?_) _ _ ⟨0, s.heap, rfl, Nat.zero_le _, rfl, hm, Heap.SameBut.refl ..⟩)
    · obtain ⟨i, h', er, hi, rfl, hd', hs'⟩ := hI
      have hlt : i < ea.size := by
        refine Nat.lt_of_not_le fun z => ?_
        rw [List.drop_eq_nil_of_le (by rw [List.length_range]; exact z)] at er
        cases er
      rw [List.drop_eq_getElem_cons (by rw [List.length_range]; exact hlt), List.getElem_range] at er
      injection er with er1 er2
      subst er1
      have hly : x < ys.length := by omega
      have hget : ys[x]? = some ys[x] := List.getElem?_eq_getElem hly
      have hmem : ys[x] ∈ ys := List.getElem_mem hly
      have hoa' : h'.get? a = some oa := (hs'.2 a hda).trans hoa
      refine wpAny_bind (wpAny_dictEntries (s := { s with heap := h' }) hoa' hda2 ?_)
      have hent : ea[x]? = some (entryOfKey knd ys[x]) := by rw [entry_at hea x, hget]; rfl
      rw [hent]
      refine wpAny_bind (wpAny_holding ?_)
      rw [if_neg Bool.false_ne_true]
      have hlen : (storedAllH xs (ys.take x)).length ≤ sizeLine := by
        have := storedAllH_len (ys.take x) xs
        rw [List.length_take] at this
        omega
      refine dictPut_heap (s := { s with heap := h' }) (k := ys[x].1) (a := ys[x].2.1) (v := ys[x].2.2) hu (knd.keeps (hia _ hmem) hod hdd hs') hd' (fun h'' hd'' hs'' => ?_) hlen
      have hoa'' : h''.get? a = some oa := (hs''.2 a hda).trans hoa'
      refine wpAny_bind (wpAny_dictEpoch (s := { s with heap := h'' }) hoa'' hda2 ?_)
      rw [if_neg (by simp)]
      refine wpAny_pure ⟨x + 1, h'', er2, hlt, rfl, ?_, hs'.trans hs''⟩
      rw [storedAllH_take_succ xs ys x _ hget]
      exact hd''
    · obtain ⟨i, h', er, hi, rfl, hd', hs'⟩ := hI
      have : i = ea.size := by
        have := congrArg List.length er
        rw [List.length_drop, List.length_range, List.length_nil] at this
        omega
      rw [this, eal, List.take_length] at hd'
      exact wpAny_pure (hQ h' hd' hs')
end
end L2.DM


set_option Elab.async false
set_option linter.all false
set_option maxRecDepth 100000
set_option maxHeartbeats 4000000
namespace L2.P
open PySem PySem.Spec PySem.Calls PySem.W PyProof.Rows L2
mutual
/-- a key's hash, if no text is in it -/
def hashN : NestedKey → Int
  | .none => reduceHash 0xFCA86420
  | .num i => hashInt i
  | .text _ => 0
  | .tup ks => reduceHash (Builtin.Tuple.tupleHashOf (hashNs ks))
def hashNs : List NestedKey → List Int
  | [] => []
  | k :: ks => hashN k :: hashNs ks
end
mutual
theorem NkD.hashN : ∀ {k : NestedKey} {d : D}, NkD k d → ∀ w : World, k.hash w = P.hashN k
  | _, _, .none, w => by unfold P.hashN NestedKey.hash; rfl
  | _, _, .num i, w => by unfold P.hashN NestedKey.hash; rfl
  | _, _, .bool b, w => by unfold P.hashN NestedKey.hash; rfl
  | _, _, .tup h, w => by unfold P.hashN NestedKey.hash; rw [NkDs.hashNs h w]
theorem NkDs.hashNs : ∀ {ks : List NestedKey} {ds : List D}, NkDs ks ds → ∀ w : World, NestedKey.hashes w ks = P.hashNs ks
  | _, _, .nil, w => by unfold P.hashNs NestedKey.hashes; rfl
  | _, _, .cons a b, w => by unfold P.hashNs NestedKey.hashes; rw [NkD.hashN a w, NkDs.hashNs b w]
end
theorem stored_new {K : Type} [DecidableEq K] : ∀ (ys xs : List (K × Addr × Value)), ((xs ++ ys).map (·.1)).Nodup → storedAllH xs ys = xs ++ ys
  | [], xs, _ => by rw [List.append_nil]; rfl
  | y :: ys, xs, h => by
    have hn : y.1 ∉ xs.map (·.1) := fun z => by
      rw [List.map_append, List.map_cons] at h
      exact (List.nodup_append.mp h).2.2 _ z _ List.mem_cons_self rfl
    have e : storedH xs y.1 y.2.1 y.2.2 = xs ++ [y] := storedH_new (by
      unfold atKey
      rw [Option.map_eq_none_iff, List.find?_eq_none]
      exact fun x hx z => hn (List.mem_map.mpr ⟨x, hx, of_decide_eq_true z⟩)) _ _
    show storedAllH (storedH xs y.1 y.2.1 y.2.2) ys = _
    rw [e, stored_new ys (xs ++ [y]) (by rw [List.append_assoc]; exact h), List.append_assoc]; rfl
section
variable {X : Cx} {pins : List (Addr × Obj)} {σ : St} {H : Hp} {s : Shared} {a : Addr} {L : List NEnt} {o : Obj}
theorem n_dictF (I : L2.Inv X pins σ H s) (e : H a = some (.frz o (DictNO a L))) (ok : EntsOk X.K H L) : ∃ xs, Paired NRel L xs ∧ s.heap.DictOfH (nestedKind X.prog X.w) a xs := by
  obtain ⟨hd, x⟩ := I.hok a _ e
  obtain ⟨⟨P, w, xs, o', es, ep, rel, g, ex, dd, et, nd⟩, _, _⟩ := (show _ ∧ _ ∧ _ from x)
  refine ⟨xs, rel, o', es, ep, g, ex, dd, ?_, fun x hx => ?_, nd⟩
  · rw [et]
    refine List.map_congr_left fun x hx => ?_
    obtain ⟨p, hp, r⟩ := paired_right rel x hx
    obtain ⟨d, n, _⟩ := ok p hp
    unfold entryOfKey
    show (⟨x.1.hash w, _, _⟩ : DictEntry) = ⟨x.1.hash X.w, _, _⟩
    rw [← r.1, n.hash w X.w]
  · obtain ⟨p, hp, r⟩ := paired_right rel x hx
    obtain ⟨d, n, h8, pl, dp⟩ := ok p hp
    rw [← r.1, ← r.2.1]
    exact nk_is I n h8 pl dp
/-- what the merge wants of the dict a -/
theorem n_merge (I : L2.Inv X pins σ H s) (ok : EntsOk X.K H L) {xs : List (NestedKey × Addr × Value)} (rel : Paired NRel L xs) (hN : (L.map fun q => hashN q.1).Nodup) :
    (∀ y ∈ xs, s.TypeIs (.ref y.2.1) "tuple") ∧ (xs.map fun y => (nestedKind X.prog X.w).hash y.1).Nodup := by
  refine ⟨fun y hy => ?_, ?_⟩
  · obtain ⟨p, hp, r⟩ := paired_right rel y hy
    obtain ⟨d, n, h8, pl, dp⟩ := ok p hp
    rw [← r.2.1]
    exact nestedKind_stays.tuple (nk_is I n h8 pl dp)
  · have e : ∀ {L : List NEnt} {xs : List (NestedKey × Addr × Value)}, EntsOk X.K H L → Paired NRel L xs → xs.map (fun y => (nestedKind X.prog X.w).hash y.1) = L.map fun q => hashN q.1 := fun {L xs} ok rel => by
      induction rel with
      | nil => rfl
      | cons r t ih =>
        rw [List.map_cons, List.map_cons, ih fun p hp => ok p (List.mem_cons_of_mem _ hp)]
        obtain ⟨d, n, _⟩ := ok _ List.mem_cons_self
        congr 1
        show NestedKey.hash X.w _ = _
        rw [← r.1]
        exact n.hashN X.w
    rw [e ok rel]
    exact hN
end
def tDispS (K : Fg) (t1 tk tv : TE) : TE := fun σ H Q => ∀ d, H d = none → (d == sysModules) = false → t1 σ (upd H d (DictNO d [])) fun x H1 => H1 d = some (DictNO d []) ∧ ∃ (a : Addr) (L : List NEnt), x = .ref a ∧ a ≠ d ∧ (a == sysModules) = false ∧
  (H1 a = some (DictNO a L) ∨ ∃ o, H1 a = some (.frz o (DictNO a L))) ∧ EntsOk K H1 L ∧ (L.map fun q => hashN q.1).Nodup ∧ L.length < sizeLine ∧
  ∀ p, upd H1 d (DictNO d L) p = none → (p == sysModules) = false → tPairs [(tk, tv)] σ (upd (upd H1 d (DictNO d L)) p (DictNO p [])) fun ps H2 => H2 d = some (DictNO d L) ∧ H2 p = some (DictNO p []) ∧ EntsOk K H2 L ∧
    ∃ (b : Addr) (k : NestedKey) (dd : D) (y : V), ps = [(.ref b, y)] ∧ NkD k dd ∧ k.depth ≤ 8 ∧ dd.plain = true ∧ Dp K H2 (.ref b) dd ∧ ∀ od, Q (.ref d) (upd (upd H2 p (DictNO p [(k, b, y)])) d (.frz od (DictNO d (putN L k b y))))
section
variable {X : Cx} {k v e1 : Expr} {pos : Pos} {t1 tk tv : TE}
theorem pe_dispS (hu : Rm X) (h1 : PE X e1 t1) (hk : PE X k tk) (hv : PE X v tv) : PE X (.Dict [none, some k] [e1, v] pos) (tDispS X.K t1 tk tv) := by
  have hroom : (nestedKind X.prog X.w).room X.A := show X.A.units + 8 < cLine by unfold Rm at hu; omega
  refine ⟨fun pins s σ H Q I q => ?_⟩
  rw [arm_eval_Dict]
  refine wpAny_bind (wpAny_standAt ?_)
  show wpAny _ _ (dictDisplay [(none, do let x ← eval e1 X.env; standAt pos; pure x), (some (eval k X.env), do let x ← eval v X.env; standAt pos; pure x)]) _ _ _
  unfold dictDisplay
  simp only [List.forIn_cons, List.forIn_nil, List.isEmpty_nil, if_true, pure_bind, bind_assoc]
  have hn := I.hok.fresh (Nat.le_refl s.heap.objs.size)
  have sm : (s.heap.objs.size == sysModules) = false := beq_eq_false_iff_ne.mpr (Ne.symm (Nat.ne_of_lt I.big))
  have I1 := I.laid (a := s.heap.objs.size) (o := DictNO s.heap.objs.size []) (h' := s.heap.push { cls := .type "dict", data := .dict #[] }) (t' := s.toks) (fun _ _ q => Heap.get?_push_of_some _ q) (Nat.le_refl _) (dictNO_new s.heap)
  refine wpAny_bind (wpAny_alloc (wpAny_bind (wpAny_holding (wpAny_bind (thn (h1.run pins _ σ _ _ I1 (q _ hn sm)) fun m s1 ⟨x, H1, I2, rx, ed, a, L, ex, hda, sma, ea, ok, hN, hL, q2⟩ => wpAny_bind (wpAny_standAt (wpAny_pure ?_)))))))
  subst ex
  obtain rfl : m = Value.ref a := rx
  generalize s.heap.objs.size = d at *
  obtain ⟨xd, reld, dd⟩ := n_dict I2 ed (fun p hp => by cases hp)
  cases reld
  obtain ⟨ys, rel, da⟩ : ∃ ys, Paired NRel L ys ∧ s1.heap.DictOfH (nestedKind X.prog X.w) a ys := by
    rcases ea with ea | ⟨o, ea⟩
    · exact n_dict I2 ea ok
    · exact n_dictF I2 ea ok
  obtain ⟨m1, m2⟩ := n_merge I2 ok rel hN
  have ly := Paired.length rel
  refine wpAny_bind (wpAny_onRaise (wpAny_tryCatch (wpAny_onRaise (wpAny_holding (DM.merge_heap hroom dd da hda sma m1 (fun _ => m2) (by simp; omega) fun h1' dd1 hs1 => ?_)))))
  rw [stored_new ys [] (by
    obtain ⟨_, _, _, _, _, _, _, _, nd⟩ := da
    exact nd), List.nil_append] at dd1
  obtain ⟨o1, es1, ep1, hq1, a2, a3, a4, _, a5⟩ := dd1
  have I3 := d_write (t' := s1.toks) I2 (by rw [ed]; exact True.intro) hs1 ⟨o1, hq1⟩ (dictNO_ok (H := upd H1 d (DictNO d L)) ⟨X.prog, X.w, ys, o1, es1, ep1, rel, hq1, a2, a3, a4, a5⟩)
  rw [if_neg (by simp)]
  refine wpAny_bind (wpAny_pure (wpAny_bind (wpAny_pure (wpAny_bind ?_))))
  rw [if_neg (by simp)]
  have hp := I3.hok.fresh (Nat.le_refl h1'.objs.size)
  have smp : (h1'.objs.size == sysModules) = false := beq_eq_false_iff_ne.mpr (Ne.symm (Nat.ne_of_lt I3.big))
  have I4 := I3.laid (a := h1'.objs.size) (o := DictNO h1'.objs.size []) (h' := h1'.push { cls := .type "dict", data := .dict #[] }) (t' := s1.toks) (fun _ _ q => Heap.get?_push_of_some _ q) (Nat.le_refl _) (dictNO_new h1')
  refine wpAny_bind (wpAny_holding (wpAny_subDictH (pairs := pairTrees [some k] [v] X.env pos) (knd := nestedKind X.prog X.w) hroom (by simp [pairTrees]) ?_))
  refine thn ((pps_cons hk hv pps_nil).run pins _ σ _ _ I4 (q2 _ hp smp)) fun ws s2 ⟨ps, H2, I5, relp, e2d, ep, ok2, b, nk, dd', y, eps, n, h8, pl, dp, q3⟩ => ?_
  subst eps
  have hpd : h1'.objs.size ≠ d := fun z => by rw [z, upd_same] at hp; cases hp
  show ∃ ps, _ ∧ _ ∧ _
  generalize h1'.objs.size = p at *
  cases relp with
  | @cons _ r0 _ r1 hr relp =>
    cases relp
    obtain ⟨r01, r02⟩ := r0
    obtain ⟨rk, ry⟩ := hr
    cases (show r01 = Value.ref b from rk)
    obtain ⟨xs0, rel0, dsub⟩ := n_dict I5 ep (fun p hp => by cases hp)
    cases rel0
    have nkis := nk_is I5 n h8 pl dp
    refine ⟨[(nk, b, r02)], ⟨rfl, rfl, nkis, trivial⟩, dsub, fun h2 tk2 dsub2 hs2 => ?_⟩
    obtain ⟨osub, es2, epo2, hq2, b2, b3, b4, b5, b6⟩ := id dsub2
    have I6 := d_write (t' := tk2) I5 (by rw [ep]; exact True.intro) hs2 ⟨osub, hq2⟩ (dictNO_ok (H := upd H2 p (DictNO p [(nk, b, y)])) ⟨X.prog, X.w, [(nk, b, r02)], osub, es2, epo2, .cons ⟨rfl, rfl, ry⟩ .nil, hq2, b2, b3, b4, b6⟩)
    have e2d' : upd H2 p (DictNO p [(nk, b, y)]) d = some (DictNO d L) := by rw [upd_ne (Ne.symm hpd)]; exact e2d
    obtain ⟨xs2, rel2, dd2⟩ := n_dict I5 e2d ok2
    obtain ⟨osb0, esb0, epb0, hqb0, cb0, db0, _⟩ := id dsub
    have keepS : ∀ b o vs n, s2.heap.get? b = some o → o.data = .seq vs n → h2.get? b = some o := fun c o vs n e ed => by
      by_cases hc : c = p
      · rw [hc, hqb0] at e; cases e; rw [db0] at ed; cases ed
      · exact (hs2.2 c hc).trans e
    obtain ⟨_, _, _, _, _, _, _, his2, _⟩ := id dd2
    have dd2' : h2.DictOfH (nestedKind X.prog X.w) d xs2 := dd2.at' (fun o e => (hs2.2 d (Ne.symm hpd)).trans e) fun y hy => nestedKind_stays.stays keepS (his2 y hy)
    have l2 := Paired.length rel2
    refine wpAny_bind (wpAny_onRaise (wpAny_holding (DM.merge_heap (s := { s2 with heap := h2, toks := tk2 }) hroom dd2' dsub2 hpd smp (fun y hy => ?_) (fun _ => ?_) (by show xs2.length + 1 ≤ _; omega) fun h3 dd3 hs3 => ?_)))
    · exact nestedKind_stays.tuple (b5 y hy)
    · show [_].Nodup
      simp
    · have dd3 : h3.DictOfH (nestedKind X.prog X.w) d (storedH xs2 nk b r02) := dd3
      obtain ⟨o3, es3, ep3, hq3, c2, c3, c4, _, c5⟩ := dd3
      have I7 := d_write (t' := tk2) I6 (by rw [e2d']; exact True.intro) hs3 ⟨o3, hq3⟩ (dictNO_ok (H := upd (upd H2 p (DictNO p [(nk, b, y)])) d (DictNO d (putN L nk b y))) ⟨X.prog, X.w, _, o3, es3, ep3, putN_rel ry rel2, hq3, c2, c3, c4, c5⟩)
      obtain ⟨od, I8⟩ := I7.lock upd_same True.intro
      rw [upd_upd] at I8
      exact wpAny_pure (wpAny_pure ⟨.ref d, _, I8, rfl, q3 od⟩)
end
end L2.P


set_option Elab.async false
set_option linter.all false
set_option maxRecDepth 100000
set_option maxHeartbeats 4000000
namespace L2.P
open PySem PySem.Spec PySem.Calls PySem.W PyProof.Rows L2
def ItVN (d : Addr) (o : Obj) (L : List NEnt) : It :=
  ⟨fun i H => H d = some (.frz o (DictNO d L)) ∧ i < L.length, fun i H x H' => H' = H ∧ ∃ q : NEnt, L[i]? = some q ∧ x = q.2.2, fun i H => H d = some (.frz o (DictNO d L)) ∧ L.length ≤ i⟩
section
variable {P : Program} {w : World} {K : PySem.W.Frag} {tg : Expr} {d : Addr} {o : Obj} {es : Array DictEntry} {ep : Nat}
theorem turn_VN {L : List NEnt} (it : Addr) (hod : o.data = .dict es ep) : Turn P w K tg (ItVN d o L) [it] it (fun i h => h.IsValIter it d i L.length ep) where
  mem := by simp
  obj := fun i h st b hb => by
    have e : b = it := by simpa using hb
    subst e
    obtain ⟨oi, e, c, dd⟩ := st
    exact ⟨oi, e, fun v z => by rw [dd] at z; cases z⟩
  keep := fun i h h' st k => st.at fun oi e => k it (by simp) oi e
  item := by
    intro X hP hw hK hc i pins s σ H E I hf st hg
    subst hP hw hK
    obtain ⟨hd, hi⟩ := hg
    obtain ⟨f0, f1, f2, f3, f4, f5⟩ := hf it (by simp)
    obtain ⟨hgd, hx, es', ep', hdt, hsz, ent⟩ := frzN2 I hd
    obtain ⟨rfl, rfl⟩ := dict_ep hod hdt
    obtain ⟨en, hen, hkey, hv⟩ := ent i L[i] (List.getElem?_eq_getElem hi)
    rw [← hsz] at st
    obtain ⟨hlt, hge⟩ := Array.getElem?_eq_some_iff.mp hen
    refine wpAny_pyNext_values_item_raw st ⟨o, hgd, hx, hdt⟩ hlt fun h' st' sb => ?_
    have I1 : L2.Inv X pins σ H { s with heap := h' } := I.turned (t' := s.toks) (fun b ob hb e => (sb.2 b hb).trans e) f0 f1 f3 f4 f5
    obtain ⟨oi, e, c, dd⟩ := id st'
    refine ⟨_, rfl, go_of (s := { s with heap := h' }) e c dd (by decide) ⟨L[i].2.2, H, I1, ?_, ⟨rfl, L[i], List.getElem?_eq_getElem hi, rfl⟩, ?_, fun b hb => (hf b hb).1⟩⟩
    · rw [hge]; exact hv
    · show h'.IsValIter it d (i + 1) L.length _
      rw [← hsz]
      exact st'
  done := by
    intro X hP hw hK hc i pins s σ H E I hf st hg
    subst hP hw hK
    obtain ⟨hd, hi⟩ := hg
    obtain ⟨f0, f1, f2, f3, f4, f5⟩ := hf it (by simp)
    obtain ⟨hgd, hx, es', ep', hdt, hsz, ent⟩ := frzN2 I hd
    obtain ⟨rfl, rfl⟩ := dict_ep hod hdt
    rw [← hsz] at st
    exact wpAny_pyNext_values_end_raw (I.ok.hd hc) st ⟨o, hgd, hx, hdt⟩ (by omega) fun h' eb => ⟨rfl, I.turned (t' := s.toks) (fun b ob hb e => eb b ob hb e) f0 f1 f3 f4 f5⟩
  self := fun A i s Q E st h => wpAny_pyIter_valiter st h
end
def iVN (te : TE) : TI := fun σ H R => te σ H fun x H1 => ∃ d od L, x = .ref d ∧ (d == sysModules) = false ∧ H1 d = some (.frz od (DictNO d L)) ∧ R (ItVN d od L) H1
section
variable {X : Cx} {tg e : Expr} {td : TE} {apos cpos p : Pos}
theorem pi_VN (he : PE X e td) (hbase : attributeBase e "values" X.env (eval e X.env) = eval e X.env := by rfl) (hline : (apos.endLine == cpos.line) = true := by rfl) : PI X tg (.Call (.Attribute e "values" apos) [] [] cpos) (iVN td) := by
  refine ⟨fun pins s σ H R I h => ?_⟩
  refine wpAny_Call_method (T := "dict") (id := "dict.values") hbase rfl hline F.plainAttrs_dict F.slot_dict_values F.type_dict_values (thn (he.run pins s σ H _ I h) fun u s1 ⟨x, H1, I1, rx, d, od, L, ex, hs, hd, q⟩ => ?_)
  subst ex
  obtain rfl : u = Value.ref d := rx
  obtain ⟨hgd, hx, es, ep, hdt, hsz, _⟩ := frzN2 I1 hd
  have raw : s1.heap.DictRaw d es ep := ⟨od, hgd, hx, hdt⟩
  refine ⟨raw.typeIs, fun b e => by cases e; exact ⟨od, hgd, hx.2.1⟩, ?_⟩
  have I2 := I1.kept (t' := s1.toks) (h' := s1.heap.push { cls := .type "dict_values", data := .fields #[.ref d] }) fun b ob q => Heap.get?_push_of_some _ q
  have fin : wpAny (model X.prog X.w) X.A (pyIter (.ref s1.heap.objs.size)) (PIE X pins σ tg R) X.xe { s1 with heap := s1.heap.push { cls := .type "dict_values", data := .fields #[.ref d] } } := by
    refine wpAny_pyIter_values_raw (d := d) ⟨_, Heap.get?_push_size _ rfl, rfl, rfl⟩ (raw.at fun o e => Heap.get?_push_of_some _ e) (pi_one (tk := s1.toks) I2 _ (turn_VN _ hdt) ⟨_, Heap.get?_push_size _ rfl, rfl, ?_⟩ q)
    rw [hsz] <;> rfl
  show wpAny _ _ (callWith cpos (.builtin "dict.values") [.ref d] [] []) _ X.xe s1
  exact method_meetsIn F.slot_dict_values F.entry_dict_values rfl (PySem.evalArgs_none ⟨rfl, raw.typeIs, F.args_dict_values_1 _, _, meets_dict_values_raw d hs, ⟨⟨es, ep, raw⟩, fin⟩⟩)
theorem wlk_VN {K : Fg} {F : Hp} {d : Addr} {o : Obj} {L : List NEnt} {zs : List D} (hF : F d = some (.frz o (DictNO d L))) (dn : DnAll K F L zs) : Wlk K F (ItVN d o L) (zs.map sndZ) where
  go := fun i H hi e => ⟨e _ _ hF, by rw [List.length_map] at hi; rw [dnAll_len dn]; exact hi⟩
  stop := fun H e => ⟨e _ _ hF, by rw [List.length_map, dnAll_len dn]; exact Nat.le_refl _⟩
  yld := fun i H x H' hi e ⟨y1, q, y2, y3⟩ => by
    subst y1 y3
    obtain ⟨z, hz, h1, h2, h3⟩ := dnAll_get dn y2
    exact ⟨sndZ z, by rw [List.getElem?_map, hz]; rfl, .inl ⟨rfl, h2⟩⟩
def fValsX (f : Rho → Option D) : Rho → Option (List D) := fun ρ => (f ρ).bind fun p => (itemsX p).map fun zs => zs.map sndZ
theorem if_valsX {f : Rho → Option D} (he : EF X e f) (hbase : attributeBase e "values" X.env (eval e X.env) = eval e X.env := by rfl) (hline : (apos.endLine == cpos.line) = true := by rfl) : IF X tg (.Call (.Attribute e "values" apos) [] [] cpos) (fValsX f) :=
  ⟨fW_mono, PI.imp (pi_VN he.pe hbase hline) fun σ H R ⟨B, F, ρ, R0, z, e, k⟩ => by
    obtain ⟨p, e1, e⟩ := Option.bind_eq_some_iff.mp e
    obtain ⟨zs, e2, rfl⟩ := Option.map_eq_some_iff.mp e
    unfold itemsX at e2
    split at e2
    · split at e2
      · rename_i hl
        cases e2
        refine ⟨B, F, ρ, R0, _, e1, fun F1 H1 v R1 s1 d1 => ?_⟩
        obtain ⟨a, o, L, rfl, sm, hF, dn⟩ := Dp.inv_nd d1
        exact ⟨a, o, L, rfl, sm, R1.sub _ _ hF, k F1 H1 _ R1 s1 (by rw [List.length_map]; exact hl) (wlk_VN hF dn)⟩
      · cases e2
    · cases e2⟩
theorem call_list_nd (hc : X.calm = true) : CallR X (.type "list") (fun xs H Q => ∃ d od L, xs = [V.ref d] ∧ (d == sysModules) = false ∧ H d = some (.frz od (DictNO d L)) ∧ L.length ≤ sizeLine ∧ ∀ p, H p = none → Q (.ref p) (upd H p (.lst (L.map fun q => .ref q.2.1)))) := by
  intro pins s σ H xs us Q I r h
  obtain ⟨d, od, L, rfl, hs, hd, hl, q⟩ := h
  obtain ⟨u, rfl, rx⟩ := r.one
  cases rx
  obtain ⟨hgd, hx, es, ep, hdt, hsz, ent⟩ := frzN2 I hd
  refine PySem.W.kdl_call (kdl_raw hs hx hdt) (I.ok.hd hc) hgd (by omega) fun h' tk acc' c' kp e it => ?_
  have hal : acc'.size = L.length := it.1.trans hsz
  have ea : acc'.toList = L.map fun q => Value.ref q.2.1 := by
    apply List.ext_getElem?
    intro j
    rw [List.getElem?_map]
    by_cases hj : j < L.length
    · rw [List.getElem?_eq_getElem hj]
      have hja : j < acc'.size := by omega
      have h1 : acc'.toList[j]? = some acc'[j] := by rw [Array.getElem?_toList]; exact Array.getElem?_eq_getElem hja
      obtain ⟨en, hen, hv⟩ := it.2 j acc'[j] (Array.getElem?_eq_getElem hja)
      obtain ⟨en', hen', hk, _⟩ := ent j L[j] (List.getElem?_eq_getElem hj)
      rw [hen] at hen'
      cases hen'
      rw [h1, hv, hk]; rfl
    · rw [List.getElem?_eq_none (l := acc'.toList) (by rw [Array.length_toList]; omega), List.getElem?_eq_none (l := L) (by omega)]; rfl
  have hv : Vals (L.map fun q => V.ref q.2.1) acc'.toList := by
    rw [ea]
    have := vals_refs' (L.map fun q => q.2.1)
    rw [List.map_map, List.map_map] at this
    exact this
  exact ⟨.ref s.heap.objs.size, upd H s.heap.objs.size (.lst (L.map fun q => .ref q.2.1)), I.laid (t' := tk) kp (Nat.le_refl _) (show ObjOk X.prog X.w _ _ _ (.lst (L.map fun q => V.ref q.2.1)) from ⟨by rw [List.length_map]; exact hl, acc'.toList, c', hv, by rw [Array.toArray_toList]; exact e⟩), rfl, q _ (I.hok.fresh (Nat.le_refl _))⟩
theorem dnAll_keys {K : Fg} {F : Hp} : ∀ {L : List NEnt} {zs : List D}, DnAll K F L zs → DpAll K F (L.map fun q => V.ref q.2.1) (zs.map fstZ)
  | _, _, .nil => .nil
  | _, _, .cons a b c d e t => .cons d (dnAll_keys t)
theorem nf_keysX {f : Rho → Option D} (bi : Bi X.mg) (h : EF X e f) (hc : X.calm = true := by rfl) (hg : Gl X "list" := by rfl) (he : starEach [e] X.env = (false, eval e X.env) :: starEach [] X.env := by rfl) {pos : Pos} : NF X (.Call (.Name "list" p) [e] [] pos) (fKeysX f) :=
  ⟨fW_mono, (pe_callTy (call_list_nd hc) hg bi.list bt_list (pa_cons h.pe pa_nil he) (he := he) (hpl := rfl)).imp fun σ H Q ⟨B, F, ρ, R, z, e, q⟩ => by
    obtain ⟨p, e1, e⟩ := Option.bind_eq_some_iff.mp e
    obtain ⟨zs, e2, rfl⟩ := Option.map_eq_some_iff.mp e
    unfold itemsX at e2
    split at e2
    · split at e2
      · rename_i hl
        cases e2
        refine ⟨B, F, ρ, R, _, e1, fun F1 H1 v R1 s1 d1 => ?_⟩
        obtain ⟨a, o, L, rfl, sm, hF, dn⟩ := Dp.inv_nd d1
        exact ⟨a, o, L, rfl, sm, R1.sub _ _ hF, by rw [dnAll_len dn]; exact hl, fun l hl2 => q F1 H1 l _ R1 s1 hl2 (dnAll_keys dn)⟩
      · cases e2
    · cases e2⟩
end
end L2.P


set_option Elab.async false
set_option linter.all false
set_option maxRecDepth 100000
set_option maxHeartbeats 4000000
namespace L2.P
open PySem PySem.Spec PySem.Calls PySem.W PyProof.Rows L2
def tEmptyN : TE := fun σ H Q => ∀ p, H p = none → (p == sysModules) = false → Q (.ref p) (upd H p (DictNO p []))
def tNGet2 (K : Fg) (td ty tz : TE) : TE := fun σ H Q => td σ H fun x H1 => ∃ a, x = .ref a ∧ (a == sysModules) = false ∧ (∃ L0, H1 a = some (DictNO a L0)) ∧ ty σ H1 fun y H2 => tz σ H2 fun z H3 => ∃ (b : Addr) (L : List NEnt) (k : NestedKey) (dd : D), y = .ref b ∧ H3 a = some (DictNO a L) ∧ EntsOk K H3 L ∧ NkD k dd ∧ k.depth ≤ 8 ∧ dd.plain = true ∧ Dp K H3 (.ref b) dd ∧ Q ((atN L k).getD z) H3
section
variable {X : Cx} {o e f : Expr} {pos apos cpos : Pos} {td ty tz : TE}
theorem pe_emptyN : PE X (.Dict [] [] pos) tEmptyN := by
  refine ⟨fun pins s σ H Q I q => ?_⟩
  have hn := I.hok.fresh (Nat.le_refl s.heap.objs.size)
  have sm : (s.heap.objs.size == sysModules) = false := beq_eq_false_iff_ne.mpr (Ne.symm (Nat.ne_of_lt I.big))
  have I1 := I.laid (a := s.heap.objs.size) (o := DictNO s.heap.objs.size []) (h' := s.heap.push { cls := .type "dict", data := .dict #[] }) (t' := s.toks) (fun _ _ q => Heap.get?_push_of_some _ q) (Nat.le_refl _) (dictNO_new s.heap)
  rw [arm_eval_Dict]
  refine wpAny_bind (wpAny_standAt ?_)
  show wpAny _ _ (dictDisplay []) _ _ _
  unfold dictDisplay
  simp only [List.forIn_nil, List.isEmpty_nil, if_true, pure_bind, bind_assoc]
  unfold newDict
  exact wpAny_bind (wpAny_alloc (wpAny_pure ⟨.ref s.heap.objs.size, _, I1, rfl, q _ hn sm⟩))
theorem pe_nget2 (hu : Rm X) (ho : PE X o td) (he : PE X e ty) (hf : PE X f tz) (m : M2 X o "get" apos e f cpos) : PE X (.Call (.Attribute o "get" apos) [e, f] [] cpos) (tNGet2 X.K td ty tz) := by
  refine ⟨fun pins s σ H Q I h => ?_⟩
  refine wpAny_Call_method m.base m.few m.line PySem.F.plainAttrs_dict PySem.F.slot_dict_get PySem.F.type_dict_get (thn (ho.run pins s σ H _ I h) fun u s1 ⟨x, H1, I1, rx, a, ex, sm, ⟨L0, ea⟩, q1⟩ => ?_)
  subst ex
  obtain rfl : u = Value.ref a := rx
  have hd0 : DictNF s1.heap a L0 := (I1.hok a _ ea).1
  obtain ⟨P, w, xs, ob, es, ep, rel, g, ex, dd, et, nd⟩ := hd0
  refine ⟨⟨ob, g, ex.1⟩, fun b e => by cases e; exact ⟨ob, g, ex.2.1⟩, ?_⟩
  rw [m.trees]
  refine wpAny_dict_get2_heap (knd := nestedKind X.prog X.w) (room_n (by unfold Rm at hu; omega)) sm (thn (he.run pins s1 σ H1 _ I1 q1) fun iv s2 ⟨y, H2, I2, ry, q2⟩ => thn (hf.run pins s2 σ H2 _ I2 q2) fun fv s3 ⟨z, H3, I3, rz, b, L, k, kd, ey, e3, ok, n, h8, pl, dp, q3⟩ => ?_)
  subst ey
  obtain rfl : iv = Value.ref b := ry
  obtain ⟨xs3, rel3, dd3⟩ := n_dict I3 e3 ok
  refine ⟨b, k, xs3, rfl, nk_is I3 n h8 pl dp, dd3, (atN L k).getD z, H3, I3.tok _, ?_, q3⟩
  have r := atN_rel k rel3
  cases h1 : atN L k with
  | none =>
    rw [h1] at r
    cases h2 : (atKey xs3 k).map (·.2) with
    | none => exact rz
    | some v => rw [h2] at r; exact r.elim
  | some v =>
    rw [h1] at r
    cases h2 : (atKey xs3 k).map (·.2) with
    | none => rw [h2] at r; exact r.elim
    | some v2 => rw [h2] at r; exact r
end
def lookNX (zs : List D) (k : NestedKey) : Option D := (zs.find? (nisK k)).map sndZ
theorem dnAll_at {K : Fg} {F : Hp} (k : NestedKey) : ∀ {L : List NEnt} {zs : List D}, DnAll K F L zs → (∀ v, atN L k = some v → ∃ p, lookNX zs k = some p ∧ Dp K F v p) ∧ (atN L k = none → lookNX zs k = none)
  | _, _, .nil => ⟨fun v h => by simp [atN] at h, fun _ => rfl⟩
  | _, _, .cons (k := k1) (b := b1) (v := v1) (d := d1) (p := p1) (L := L) (zs := zs) a b c d e t => by
    have ih := dnAll_at k t
    unfold atN lookNX at *
    rw [List.find?_cons, List.find?_cons, nisK_of a]
    by_cases q : k1 = k
    · rw [decide_eq_true q]
      refine ⟨fun v h => ?_, fun h => by cases h⟩
      cases h
      exact ⟨p1, rfl, e⟩
    · rw [decide_eq_false q]
      exact ih
/-- the items of the dict at the key, or none -/
def innX (zs : List D) (k : NestedKey) : Option (List D) := match lookNX zs k with
  | none => some []
  | some (.dict [(.none, .list zs')]) => some zs'
  | _ => none
def hashX (zs : List D) : Bool := decide ((zs.map fun z => (nkOf (fstZ z)).map hashN).Nodup)
theorem hashX_map {K : Fg} {F : Hp} : ∀ {L : List NEnt} {zs : List D}, DnAll K F L zs → (zs.map fun z => (nkOf (fstZ z)).map hashN) = (L.map fun q => hashN q.1).map some
  | _, _, .nil => rfl
  | _, _, .cons (k := k1) (d := d1) a b c d e t => by
    rw [List.map_cons, List.map_cons, List.map_cons, hashX_map t]
    congr 1
    show Option.map hashN (nkOf d1) = _
    rw [nkOf_of a]; rfl
theorem hashX_ok {K : Fg} {F : Hp} {L : List NEnt} {zs : List D} (h : DnAll K F L zs) (e : hashX zs = true) : (L.map fun q => hashN q.1).Nodup := by
  have e2 := of_decide_eq_true e
  rw [hashX_map h] at e2
  exact (List.pairwise_map.mp e2).imp fun {a b} hab z => hab (congrArg some z)
def vStar (i : Nat) (fkey fk fv : Rho → Option D) : Rho → Option D := fun ρ => match ρ[i]? with
  | some (.rw (some (.x zs))) => (fkey ρ).bind fun kd => (nkeyX kd).bind fun nk => (innX zs nk).bind fun zs' => (fk ρ).bind fun sd => (nkeyX sd).bind fun sk => (fv ρ).bind fun p => if hashX zs' = true ∧ zs'.length < sizeLine then some (ndD (npX zs' sk sd p)) else none
  | _ => none
section
variable {X : Cx} {x : Str} {i : Nat} {ky k v : Expr} {pos px apos cpos epos : Pos}
theorem ef_star {fkey fk fv : Rho → Option D} (hu : Rm X) (hN : X.N[i]? = some x) (hv : Vis X.env.scope x) (hky : EF X ky fkey) (hk : EF X k fk) (hw : EF X v fv)
    (hbase : attributeBase (.Name x px) "get" X.env (eval (.Name x px) X.env) = eval (.Name x px) X.env := by rfl)
    (hfew : ((backTo cpos (starEach [ky, .Dict [] [] epos] X.env)).all (fun x => !x.1) && (backToKw cpos (keywordEach [] X.env)).all (fun x => x.1.isSome) && decide (([ky, .Dict [] [] epos] : List Expr).length + ([] : List Keyword).length + (if ([] : List Keyword).isEmpty then 0 else 1) < 30)) = true := by rfl)
    (hline : (apos.endLine == cpos.line) = true := by rfl) (htr : backTo cpos (starEach [ky, .Dict [] [] epos] X.env) = [(false, eval ky X.env), (false, eval (.Dict [] [] epos) X.env)] := by rfl) (hd : (x == ("__debug__" : Str)) = false := by decide) (hcd : (x == ("__classdict__" : Str)) = false := by decide) :
    EF X (.Dict [none, some k] [.Call (.Attribute (.Name x px) "get" apos) [ky, .Dict [] [] epos] [] cpos, v] pos) (vStar i fkey fk fv) :=
  ⟨fW_mono, (pe_dispS hu (pe_nget2 hu (pe_var hN hv hd hcd) hky.pe pe_emptyN ⟨hbase, hfew, hline, htr⟩) hk.pe hw.pe).imp fun σ H Q ⟨B, F, ρ, R, z, e, q⟩ d hd sm => by
    unfold vStar at e
    split at e
    · rename_i zs hi
      obtain ⟨kd, e1, e⟩ := Option.bind_eq_some_iff.mp e
      obtain ⟨nk, e2, e⟩ := Option.bind_eq_some_iff.mp e
      obtain ⟨zs', e3, e⟩ := Option.bind_eq_some_iff.mp e
      obtain ⟨sd, e4, e⟩ := Option.bind_eq_some_iff.mp e
      obtain ⟨sk, e5, e⟩ := Option.bind_eq_some_iff.mp e
      obtain ⟨pv, e6, e⟩ := Option.bind_eq_some_iff.mp e
      split at e
      · rename_i hh
        cases e
        obtain ⟨kds, rfl, n, h8, pl⟩ := nkeyX_is e2
        obtain ⟨sds, rfl, n', h8', pl'⟩ := nkeyX_is e5
        obtain ⟨p1, p2, p3⟩ := R.fresh hd
        have hF : B.Fa d = none := R.ext.free p2
        have Rp := R.pin hd (DictNO d [])
        obtain ⟨a0, L0, hσ, fa0, ha0, sm0, hH0, _⟩ := Rp.xAt hi
        refine ⟨.ref a0, hσ, a0, rfl, sm0, ⟨L0, hH0⟩, B.pin d (DictNO d []), F, ρ, Rp, _, e1, fun F1 H1 y R1 s1 d1 => fun p0 hp0 smp0 => ?_⟩
        obtain ⟨bk, us, rfl, _, _⟩ := Dp.inv_tup d1
        have R3 := R1.lay (o := DictNO p0 []) hp0
        obtain ⟨a, L, hσ', fa, ha, _, hH, dn, nd, _⟩ := R3.xAt hi
        obtain rfl : a = a0 := by rw [hσ] at hσ'; cases hσ'; rfl
        obtain ⟨hd3, hFd⟩ := R3.pinned p3 hF (dict_nt _ _) (dict_te _ _)
        refine ⟨bk, L, nk, _, rfl, hH, dnAll_ok R3.sub dn, n, h8, pl, d1.same R3.sub, hd3, ?_⟩
        have key : ∀ (a' : Addr) (L' : List NEnt), a' ≠ d → (a' == sysModules) = false → (upd H1 p0 (DictNO p0 []) a' = some (DictNO a' L') ∨ ∃ o, upd H1 p0 (DictNO p0 []) a' = some (.frz o (DictNO a' L'))) → DnAll X.K F1 L' zs' →
            ∃ (a : Addr) (L : List NEnt), V.ref a' = .ref a ∧ a ≠ d ∧ (a == sysModules) = false ∧ (upd H1 p0 (DictNO p0 []) a = some (DictNO a L) ∨ ∃ o, upd H1 p0 (DictNO p0 []) a = some (.frz o (DictNO a L))) ∧ EntsOk X.K (upd H1 p0 (DictNO p0 [])) L ∧ (L.map fun q => hashN q.1).Nodup ∧ L.length < sizeLine ∧
              ∀ p, upd (upd H1 p0 (DictNO p0 [])) d (DictNO d L) p = none → (p == sysModules) = false → tPairs [(tW X.K (fW fk), tW X.K (fW fv))] σ (upd (upd (upd H1 p0 (DictNO p0 [])) d (DictNO d L)) p (DictNO p [])) fun ps H2 => H2 d = some (DictNO d L) ∧ H2 p = some (DictNO p []) ∧ EntsOk X.K H2 L ∧
                ∃ (b : Addr) (k : NestedKey) (dd : D) (y : V), ps = [(.ref b, y)] ∧ NkD k dd ∧ k.depth ≤ 8 ∧ dd.plain = true ∧ Dp X.K H2 (.ref b) dd ∧ ∀ od, Q (.ref d) (upd (upd H2 p (DictNO p [(k, b, y)])) d (.frz od (DictNO d (putN L k b y)))) := fun a' L' ne sma alt dn' => by
          have hll := dnAll_len dn'
          refine ⟨a', L', rfl, ne, sma, alt, dnAll_ok R3.sub dn', hashX_ok dn' hh.1, by omega, fun p hp smp => ?_⟩
          have R4 := (R3.minus p3 hF p1 (dict_nt _ _) (dict_te _ _)).pin (minusH_same _ _) (DictNO d L')
          have eu : upd (minusH (upd H1 p0 (DictNO p0 [])) d) d (DictNO d L') = upd (upd H1 p0 (DictNO p0 [])) d (DictNO d L') := by
            funext c
            by_cases hc : c = d
            · subst hc; rw [upd_same, upd_same]
            · rw [upd_ne hc, upd_ne hc, minusH_ne hc]
          rw [eu] at R4
          have hpd : p ≠ d := fun z => by rw [z, upd_same] at hp; cases hp
          obtain ⟨t1, t2, t3⟩ := R4.fresh hp
          have hF' : (B.pin d (DictNO d L')).Fa p = none := R4.ext.free t2
          refine ⟨(B.pin d (DictNO d L')).pin p (DictNO p []), F1, ρ, R4.pin hp _, _, e4, fun F2 H2 y2 R6 s6 d6 => ⟨(B.pin d (DictNO d L')).pin p (DictNO p []), F2, ρ, R6, pv, e6, fun F3 H3 u R7 s7 d7 => ?_⟩⟩
          obtain ⟨q1, q2⟩ := R7.pinned t3 hF' (dict_nt _ _) (dict_te _ _)
          obtain ⟨bb, xs, rfl, _, _⟩ := Dp.inv_tup d6
          have R8 := R7.minus t3 hF' t1 (dict_nt _ _) (dict_te _ _)
          obtain ⟨r1, r2⟩ := R8.pinned p3 hF (dict_nt _ _) (dict_te _ _)
          have r1' : H3 d = some (DictNO d L') := by rw [minusH_ne (Ne.symm hpd)] at r1; exact r1
          have dn3 := dn'.same (s6.trans s7)
          refine ⟨r1', q1, dnAll_ok R7.sub dn3, bb, sk, _, u, rfl, n', h8', pl', (d6.same s7).same R7.sub, fun od => ?_⟩
          have R9 := R8.minus p3 hF p1 (dict_nt _ _) (dict_te _ _)
          have hpn : minusH (minusH H3 p) d p = none := by rw [minusH_ne hpd]; exact minusH_same _ _
          have R10 := R9.lay (o := DictNO p [(sk, bb, u)]) hpn
          have hdn : upd (minusH (minusH H3 p) d) p (DictNO p [(sk, bb, u)]) d = none := by rw [upd_ne (Ne.symm hpd)]; exact minusH_same _ _
          have R11 := R10.grow (p := d) (o := .frz od (DictNO d (putN L' sk bb u))) hdn
          have s8 : Same F3 (upd F3 d (.frz od (DictNO d (putN L' sk bb u)))) := same_upd r2
          have := q _ _ (.ref d) R11 (((s1.trans s6).trans s7).trans s8) (.nd sm upd_same (dnAll_put n' h8' pl' ((d6.same s7).same s8) (d7.same s8) (dn3.same s8)))
          have eu2 : upd (upd (minusH (minusH H3 p) d) p (DictNO p [(sk, bb, u)])) d (.frz od (DictNO d (putN L' sk bb u))) = upd (upd H3 p (DictNO p [(sk, bb, u)])) d (.frz od (DictNO d (putN L' sk bb u))) := by
            funext c
            by_cases hc : c = d
            · subst hc; rw [upd_same, upd_same]
            · rw [upd_ne hc, upd_ne hc]
              by_cases hc2 : c = p
              · subst hc2; rw [upd_same, upd_same]
              · rw [upd_ne hc2, upd_ne hc2, minusH_ne hc, minusH_ne hc2]
          rw [eu2] at this
          exact this
        obtain ⟨g1, g2⟩ := dnAll_at nk dn
        cases hat : atN L nk with
        | none =>
          have e7 := g2 hat
          unfold innX at e3
          rw [e7] at e3
          cases e3
          refine key p0 [] (fun z => ?_) smp0 (.inl upd_same) .nil
          obtain ⟨hd1, _⟩ := R1.pinned p3 hF (dict_nt _ _) (dict_te _ _)
          rw [z, hd1] at hp0; cases hp0
        | some vv =>
          obtain ⟨pp, e7, dv⟩ := g1 vv hat
          unfold innX at e3
          rw [e7] at e3
          split at e3
          · cases ‹some pp = none›
          · rename_i zs2 eq
            cases e3
            cases eq
            obtain ⟨a', o', L', rfl, sma, hF', dn'⟩ := Dp.inv_nd (show Dp X.K F1 vv (ndD zs') from dv)
            exact key a' L' (fun z => by rw [z, hFd] at hF'; cases hF') sma (.inr ⟨o', R3.sub _ _ hF'⟩) dn'
          · cases e3
      · cases e
    · cases e⟩
end
end L2.P


set_option Elab.async false
set_option linter.all false
set_option maxRecDepth 100000
set_option maxHeartbeats 4000000
namespace L2.P
open PySem PySem.Spec PyProof.Rows L2 NdefX LamX
def fLam3 (g : GA) (q : Str) (js : List Nat) (f0 f1 f2 : Rho → Option D) : Rho → Option D := fun ρ => (f0 ρ).bind fun p0 => (f1 ρ).bind fun p1 => (f2 ρ).bind fun p2 => (capD js ρ).bind fun cs => (g [p0, p1, p2, fnD q cs]).bind fun z => if z.plain = true then some z else none
section
variable {X : Cx} {L : LamD} {q x : Str} {c P : Addr} {js : List Nat} {g : GA} {f0 f1 f2 : Rho → Option D} {e0 e1 e2 : Expr} {p pos lpos : Pos}
theorem ef_callLam3 (cc : CalX X x (spF X.K 4 (fun ps K => ∃ z, g ps = some z ∧ K z))) (h0 : EF X e0 f0) (h1 : EF X e1 f1) (h2 : EF X e2 f2) (TB : TabB X.base X.mg c P) (hcode : X.env.code = .ref c) (hq : X.env.qual ++ "<lambda>" = lamQ q) (hL : lamOf X.K q = some L)
    (hm : (P, lamQ q) ∈ tbT X.K) (hu : ∀ p ∈ tbT X.K, p.1 = P → p.2 = lamQ q) (hdef : defaultsOf L.params X.env = ([], [])) (hnd : ndefB X.env.scope L.scope L.fr = true) (hjs : js.map (fun j => X.N[j]?) = L.fr.map some) (hfn : ∀ y, X.fn y = true) (hg : Gl X x)
    (hdb : (x == ("__debug__" : Str)) = false := by decide) (he : ∀ (a : Expr) (as : List Expr), a = e0 ∨ a = e1 ∨ a = e2 ∨ a = .Lambda L.params L.body L.scope lpos → starEach (a :: as) X.env = (false, eval a X.env) :: starEach as X.env) (hpl : (backTo pos (starEach [e1, e2, .Lambda L.params L.body L.scope lpos] X.env)).any (·.1) = false := by rfl) :
    EF X (.Call (.Name x p) [e0, e1, e2, .Lambda L.params L.body L.scope lpos] [] pos) (fLam3 g q js f0 f1 f2) := by
  obtain ⟨k, fA, fd, ps0, Fo, hr, hmg, hk, hb⟩ := cc
  have pl := pe_mlam (pos := lpos) TB hcode hq hm hu hdef (ndef_free hnd)
  have pa := pa_cons h0.pe (pa_cons h1.pe (pa_cons h2.pe (pa_cons pl pa_nil (he _ _ (.inr (.inr (.inr rfl))))) (he _ _ (.inr (.inr (.inl rfl))))) (he _ _ (.inr (.inl rfl)))) (he _ _ (.inl rfl))
  refine ⟨fW_mono, (pe_callCl (fr := L.fr) (js := js) Fo hr hg hmg hk hb hfn (fun ok => Caps.made ok (ndef_free hnd) (ndef_fr hnd) hjs) pa hdb (he _ _ (.inl rfl)) hpl).imp fun σ H Q ⟨B, F, ρ, R, z, e, k⟩ => ?_⟩
  obtain ⟨p0, w0, e⟩ := Option.bind_eq_some_iff.mp e
  obtain ⟨p1, w1, e⟩ := Option.bind_eq_some_iff.mp e
  obtain ⟨p2, w2, e⟩ := Option.bind_eq_some_iff.mp e
  obtain ⟨cs, w3, e⟩ := Option.bind_eq_some_iff.mp e
  obtain ⟨z', w4, e⟩ := Option.bind_eq_some_iff.mp e
  split at e
  · rename_i hz
    cases e
    refine ⟨B, F, ρ, R, p0, w0, fun F0 H0 v0 R0 s0 d0 => ⟨B, F0, ρ, R0, p1, w1, fun F1 H1 v1 R1 s1 d1 => ⟨B, F1, ρ, R1, p2, w2, fun F2 H2 v2 R2 s2 d2 => ⟨R2.tb.2.1, fun f c' pm ctv H3 k1 k2 T3 nf hf hco => ?_⟩⟩⟩⟩
    obtain ⟨vs', hv, dcs⟩ := capD_ok R2 w3
    refine ⟨vs', hv, fun G hC cg => ?_⟩
    generalize hcl : cloFrom X.env.cells L.scope.names [] = cl at *
    have FP : F2 P = none := R2.tb.1 _ hm
    have nfC : ∀ b u, H3 b = some u → b ∉ cellsOf cl := fun b u e hb => by rw [hC b hb] at e; cases e
    have nC2 : ∀ b ∈ cellsOf cl, F2 b = none := fun b hb => R2.sub.free (k2 b (hC b hb))
    have F2f : F2 f = none := R2.sub.free nf
    have F2P : ∀ b o, F2 b = some o → b ≠ P := fun b o e z => by rw [z, FP] at e; cases e
    have up3 : ∀ b o, F2 b = some o → H3 b = some o := fun b o e => k1 b o (F2P b o e) (R2.sub b o e)
    have cellG : ∀ c ∈ cellsOf cl, ∃ o v, G c = some (exO c o) ∧ o.data = .cell v := fun c hc => by
      obtain ⟨y, hy⟩ := cells_look hc
      exact cg.cell y c hy
    -- the heap at the call
    have hP3 : ∀ p ∈ tbT X.K, ∃ ps, H3 p.1 = some (.tbl ps) := fun p hp => by obtain ⟨ps, e, _⟩ := T3 p hp; exact ⟨ps, e⟩
    have at3 : ∀ b u, H3 b = some u → gain G H3 (cellsOf cl) b = some u := fun b u e => by rw [gain_out (nfC b u e)]; exact e
    generalize hHp : gain G H3 (cellsOf cl) = Hp' at at3
    have atC : ∀ b ∈ cellsOf cl, Hp' b = G b := fun b hb => by rw [← hHp, gain_in hb]
    have outC : ∀ b, b ∉ cellsOf cl → Hp' b = H3 b := fun b hb => by rw [← hHp, gain_out hb]
    have la : LamAt X.K Hp' f q vs' L cl c' pm ctv := by
      refine ⟨hL, at3 _ _ hf, at3 _ _ hco, fun y c hy => ?_, cg.inj, cg.len, fun i y hy => ?_⟩
      · obtain ⟨o, v, a1, a2⟩ := cg.cell y c hy
        exact ⟨o, v, (atC c (look_cells hy)).trans a1, a2⟩
      · obtain ⟨c, o, u, v, a1, a2, a3, a4, a5⟩ := cg.has i y hy
        exact ⟨c, o, u, v, a1, (atC c (look_cells a1)).trans a2, a3, a4, a5⟩
    -- all that is frozen at the call
    let Dn : List Addr := f :: c' :: cellsOf cl
    have tbD : ∀ p ∈ tbT X.K, p.1 ∉ Dn := fun p hp hb => by
      obtain ⟨ps, e⟩ := hP3 p hp
      rcases List.mem_cons.mp hb with e9 | hb
      · rw [e9, hf] at e; cases e
      · rcases List.mem_cons.mp hb with e9 | hb
        · rw [e9, hco] at e; exact codeO_ne ps (Option.some.inj e)
        · rw [hC _ hb] at e; cases e
    have extD : ∀ b ∈ Dn, ∃ φ, Hp' b = some (.ext φ) := fun b hb => by
      rcases List.mem_cons.mp hb with e9 | hb
      · subst e9; exact ⟨_, at3 _ _ hf⟩
      · rcases List.mem_cons.mp hb with e9 | hb
        · subst e9; exact ⟨_, at3 _ _ hco⟩
        · obtain ⟨o, v, a1, _⟩ := cellG b hb
          exact ⟨_, (atC b hb).trans a1⟩
    have sFF : Same F2 (gain Hp' F2 Dn) := fun b o e => by
      by_cases hb : b ∈ Dn
      · rw [gain_in hb]; exact at3 _ _ (up3 b o e)
      · rw [gain_out hb]; exact e
    refine ⟨rfl, gain Hp' F2 Dn, [p0, p1, p2, fnD q cs], fun b o e => ?_, ⟨fun p hp => by rw [gain_out (tbD p hp)]; exact R2.tb.1 p hp, T3.ext at3, fun b ps e => ?_⟩,
      .cons (((d0.same s1).same s2).same sFF) (.cons ((d1.same s2).same sFF) (.cons (d2.same sFF) (.cons (.fn ⟨L, cl, c', pm, ctv, la.on fun b o hb e => ?_⟩ (dcs.same sFF)) .nil))), z, w4, fun F' H' v s' sx sf tb' fr' d' => ?_⟩
    · by_cases hb : b ∈ Dn
      · rw [gain_in hb] at e; exact e
      · rw [gain_out hb] at e; exact at3 _ _ (up3 b o e)
    · by_cases hb : b ∈ Dn
      · rw [gain_in hb] at e
        obtain ⟨φ, e2⟩ := extD b hb
        rw [e] at e2; cases e2
      · rw [gain_out hb] at e; exact R2.tb.2.2 b ps e
    · have hb' : b ∈ Dn := by
        rcases hb with hb | hb | hb
        · rw [hb]; exact List.mem_cons_self
        · rw [hb]; exact List.mem_cons_of_mem _ List.mem_cons_self
        · exact List.mem_cons_of_mem _ (List.mem_cons_of_mem _ hb)
      rw [gain_in hb']; exact e
    -- behind the call
    have tbC : ∀ b ∈ cellsOf cl, ∀ p ∈ tbT X.K, p.1 ≠ b := fun b hb p hp z => by
      obtain ⟨ps, e⟩ := hP3 p hp
      rw [z, hC b hb] at e; cases e
    have hCG : ∀ c ∈ cellsOf cl, H' c = G c := fun c hc => by
      obtain ⟨o, v, a1, _⟩ := cellG c hc
      rw [a1]
      exact sx c _ ⟨by simp, tbC c hc⟩ ((atC c hc).trans a1)
    refine ⟨hCG, ?_⟩
    have hCc : ∀ c ∈ cellsOf cl, ∃ o v, H' c = some (exO c o) ∧ o.data = .cell v := fun c hc => by
      obtain ⟨o, v, a1, a2⟩ := cellG c hc
      exact ⟨o, v, (hCG c hc).trans a1, a2⟩
    let Dx : List Addr := Dn.filter fun b => (F2 b).isNone
    have mDx : ∀ b, b ∈ Dx ↔ b ∈ Dn ∧ F2 b = none := fun b => by
      show b ∈ Dn.filter _ ↔ _
      rw [List.mem_filter, Option.isNone_iff_eq_none]
    have CDx : ∀ b ∈ cellsOf cl, b ∈ Dx := fun b hb => (mDx b).mpr ⟨List.mem_cons_of_mem _ (List.mem_cons_of_mem _ hb), nC2 b hb⟩
    have s2x : Same F2 (cut F' Dx) := fun b o e => by
      rw [cut_out (fun z => by rw [((mDx b).mp z).2] at e; cases e)]
      exact s' b o (sFF b o e)
    refine k (cut F' Dx) (cut H' (cellsOf cl)) v (R2.call s2x (fun b o hx e => ?_) (fun b o e => ?_) ⟨fun p hp => cut_none (tb'.1 p hp), tabs_cut tb'.2.1 hCc, fun b ps e => ?_⟩ fun b a1 a2 => ?_) (((s0.trans s1).trans s2).trans s2x) (d'.keepE (fun b o e nx => ?_) hz)
    · have nP : b ≠ P := fun z => hx.2 _ hm z.symm
      have e3 := k1 b o nP e
      rw [cut_out (nfC b o e3)]
      exact sx b o hx (at3 _ _ e3)
    · by_cases hb : b ∈ Dx
      · rw [cut_in hb] at e; cases e
      · rw [cut_out hb] at e
        rw [cut_out (fun z => hb (CDx b z))]
        exact sf b o e
    · by_cases hb : b ∈ Dx
      · rw [cut_in hb] at e; cases e
      · rw [cut_out hb] at e; exact tb'.2.2 b ps e
    · have nDx : b ∉ Dx := fun z => a2 (cut_in z)
      rw [cut_out nDx] at a2
      have nD : b ∉ Dn := fun z => nDx ((mDx b).mpr ⟨z, a1⟩)
      have nCb : b ∉ cellsOf cl := fun z => nD (List.mem_cons_of_mem _ (List.mem_cons_of_mem _ z))
      have fz := fr' b (by rw [gain_out nD]; exact a1) a2
      rw [outC b nCb] at fz
      cases e2 : H2 b with
      | none => exact .inl rfl
      | some o =>
        by_cases hb : b = P
        · obtain ⟨ps, e3⟩ := hP3 _ hm
          rw [hb] at fz
          have e3 : H3 P = some (.tbl ps) := e3
          rcases fz with fz | ⟨xs, fz⟩
          · rw [e3] at fz; cases fz
          · rw [e3] at fz; cases fz
        · have e3 := k1 b o hb e2
          rw [e3] at fz
          rcases fz with fz | ⟨xs, fz⟩
          · cases fz
          · exact .inr ⟨xs, fz⟩
    · rw [cut_out (fun z => ?_)]
      · exact e
      · have hb := ((mDx b).mp z).1
        obtain ⟨φ, e2⟩ := extD b hb
        have e3 := s' b _ (show gain Hp' F2 Dn b = some (.ext φ) by rw [gain_in hb]; exact e2)
        rw [e] at e3
        exact nx φ (Option.some.inj e3)
  · cases e
end
end L2.P


set_option Elab.async false
set_option linter.all false
set_option maxRecDepth 100000
set_option maxHeartbeats 4000000
namespace L2.P
open PySem PySem.Spec PyProof.Rows L2 NdefX LamX
def ovl (H : Hp) (cs : List Addr) (g : Addr → HO) : Hp := fun b => if b ∈ cs then some (g b) else H b
section
variable {H : Hp} {cs : List Addr} {g : Addr → HO} {b c : Addr}
theorem ovl_in (h : b ∈ cs) : ovl H cs g b = some (g b) := if_pos h
theorem ovl_out (h : b ∉ cs) : ovl H cs g b = H b := if_neg h
theorem ovl_nil : ovl H [] g = H := funext fun b => if_neg (List.not_mem_nil)
theorem ovl_cons : ovl H (c :: cs) g = ovl (upd H c (g c)) cs g := funext fun b => by
  by_cases h1 : b ∈ cs
  · rw [ovl_in h1, ovl_in (List.mem_cons_of_mem _ h1)]
  · rw [ovl_out h1]
    by_cases h2 : b = c
    · subst h2; rw [ovl_in List.mem_cons_self, upd_same]
    · rw [ovl_out (fun z => (List.mem_cons.mp z).elim h2 h1), upd_ne h2]
theorem ovl_congr {g' : Addr → HO} (h : ∀ c ∈ cs, g c = g' c) : ovl H cs g = ovl H cs g' := funext fun b => by
  by_cases h1 : b ∈ cs
  · rw [ovl_in h1, ovl_in h1, h b h1]
  · rw [ovl_out h1, ovl_out h1]
end
section
variable {X : Cx} {pins : List (Addr × Obj)} {σ : St} {s : Shared}
theorem inv_locks (Lf : Addr → List NEnt) : ∀ (cs : List Addr) {H : Hp}, L2.Inv X pins σ H s → cs.Nodup → (∀ c ∈ cs, H c = some (DictNO c (Lf c))) → ∃ od : Addr → Obj, L2.Inv X pins σ (ovl H cs fun b => .frz (od b) (DictNO b (Lf b))) s
  | [], H, I, _, _ => ⟨fun _ => { cls := .none, data := .fields #[] }, by rw [ovl_nil]; exact I⟩
  | c :: cs, H, I, nd, h => by
    obtain ⟨n1, n2⟩ := List.nodup_cons.mp nd
    obtain ⟨o1, I1⟩ := I.lock (h c List.mem_cons_self) True.intro
    have ne : ∀ q ∈ cs, q ≠ c := fun q hq z => n1 (z ▸ hq)
    obtain ⟨o2, I2⟩ := inv_locks Lf cs I1 n2 fun q hq => by rw [upd_ne (ne q hq)]; exact h q (List.mem_cons_of_mem _ hq)
    refine ⟨fun b => if b = c then o1 else o2 b, ?_⟩
    rw [ovl_cons]
    show L2.Inv X pins σ (ovl (upd H c (.frz (if c = c then o1 else o2 c) (DictNO c (Lf c)))) cs _) s
    rw [if_pos rfl, ovl_congr (g' := fun b => .frz (o2 b) (DictNO b (Lf b))) fun q hq => by show HO.frz (if q = c then o1 else o2 q) _ = _; rw [if_neg (ne q hq)]]
    exact I2
theorem inv_unlocks {u : Addr → HO} {od : Addr → Obj} : ∀ (cs : List Addr) {H : Hp}, L2.Inv X pins σ H s → cs.Nodup → (∀ c ∈ cs, H c = some (.frz (od c) (u c))) → (∀ c ∈ cs, ∀ o' u', X.H_0 c ≠ some (.frz o' u')) → L2.Inv X pins σ (ovl H cs u) s
  | [], H, I, _, _, _ => by rw [ovl_nil]; exact I
  | c :: cs, H, I, nd, h, hn => by
    obtain ⟨n1, n2⟩ := List.nodup_cons.mp nd
    have I1 := I.unlock (h c List.mem_cons_self) (hn c List.mem_cons_self)
    rw [ovl_cons]
    have ne : ∀ q ∈ cs, q ≠ c := fun q hq z => n1 (z ▸ hq)
    exact inv_unlocks (od := od) cs I1 n2 (fun q hq => by rw [upd_ne (ne q hq)]; exact h q (List.mem_cons_of_mem _ hq)) fun q hq => hn q (List.mem_cons_of_mem _ hq)
/-- the rest runs with these dicts locked -/
def tLocked (X : Cx) (t : TS) : TS := fun D σ H => ∃ (cs : List Addr) (Lf : Addr → List NEnt), cs.Nodup ∧ (∀ c ∈ cs, H c = some (DictNO c (Lf c))) ∧ ∀ od : Addr → Obj, (∀ c ∈ cs, ∀ o' u', X.H_0 c ≠ some (.frz o' u')) → t D σ (ovl H cs fun b => .frz (od b) (DictNO b (Lf b)))
def tUnlocked (X : Cx) (t : TS) : TS := fun D σ H => ∃ (cs : List Addr) (u : Addr → HO) (od : Addr → Obj), cs.Nodup ∧ (∀ c ∈ cs, H c = some (.frz (od c) (u c))) ∧ (∀ c ∈ cs, ∀ o' u', X.H_0 c ≠ some (.frz o' u')) ∧ t D σ (ovl H cs u)
variable {ss rest : List Stmt} {S : Stmt} {t : TS}
theorem pss_locked (h : PSs X ss t) : PSs X ss (tLocked X t) := ⟨fun pins s σ H D I ⟨cs, Lf, nd, hc, hw⟩ => by
  obtain ⟨od, I1⟩ := inv_locks Lf cs I nd hc
  exact h.run pins s σ _ D I1 (hw od fun c hm => I.nofrz (hc c hm) True.intro)⟩
theorem pss_unlocked (h : PSs X ss t) : PSs X ss (tUnlocked X t) := ⟨fun pins s σ H D I ⟨cs, u, od, nd, hc, hn, hw⟩ => h.run pins s σ _ D (inv_unlocks cs I nd hc hn) hw⟩
/-- a piece, then the rest -/
def tSq (K : Fg) (f : Rho → Option Fl) (u : TS) : TS := fun En σ H => ∃ B F ρ ρ', Rs K B F H σ ρ ∧ f ρ = some (.nx ρ') ∧ ∀ F' H' σ', Rs K B F' H' σ' ρ' → Same F F' → u En σ' H'
theorem pss_sq1 {f : Rho → Option Fl} (h : SF X S f) (hu : PSs X rest t) : PSs X (S :: rest) (tSq X.K f t) := (pss_cons h.ps hu).imp fun En σ H ⟨B, F, ρ, ρ', R, e, k⟩ => ⟨B, F, ρ, R, .nx ρ', e, fun F' H' σ' R' s' => k F' H' σ' R' s'⟩
theorem pss_sq2 {f g : Rho → Option Fl} (h : SF X S f) (hu : PSs X rest (tSq X.K g t)) : PSs X (S :: rest) (tSq X.K (sSeq f g) t) := (pss_sq1 h hu).imp fun En σ H ⟨B, F, ρ, ρ', R, e, k⟩ => by
  unfold sSeq at e
  split at e
  · rename_i ρ1 e1
    exact ⟨B, F, ρ, ρ1, R, e1, fun F1 H1 σ1 R1 s1 => ⟨B, F1, ρ1, ρ', R1, e, fun F2 H2 σ2 R2 s2 => k F2 H2 σ2 R2 (s1.trans s2)⟩⟩
  · rename_i hne
    exact absurd e (hne ρ')
end
structure NIn where
  k : NestedKey
  b : Addr
  c : Addr
  L : List NEnt
  d : D
  zs : List D
def topL (es : List NIn) : List NEnt := es.map fun e => (e.k, e.b, V.ref e.c)
def nzs (es : List NIn) : List D := es.map fun e => .tuple [e.d, ndD e.zs]
structure Nst (K : Fg) (B : Bs) (F H : Hp) (a : Addr) (es : List NIn) : Prop where
  sm : (a == sysModules) = false
  fa : F a = none
  ha : B.Ha a = none
  hh : H a = some (DictNO a (topL es))
  kn : (es.map (·.k)).Nodup
  len : es.length ≤ sizeLine
  cn : (a :: es.map (·.c)).Nodup
  ent : ∀ e ∈ es, NkD e.k e.d ∧ e.k.depth ≤ 8 ∧ e.d.plain = true ∧ Dp K F (.ref e.b) e.d
  fc : ∀ e ∈ es, F e.c = none ∧ B.Ha e.c = none ∧ (e.c == sysModules) = false
  hc : ∀ e ∈ es, H e.c = some (DictNO e.c e.L)
  inn : ∀ e ∈ es, DnAll K F e.L e.zs ∧ (e.L.map (·.1)).Nodup ∧ e.L.length ≤ sizeLine
/-- the frame between two turns: nothing of its own but the dicts -/
structure NJ (K : Fg) (B : Bs) (F H : Hp) (σ : St) (ρ : Rho) (ix : Nat) (a : Addr) (es : List NIn) : Prop where
  R : Rs K B F H σ ρ
  no : ρ[ix]? = some .no
  own : ∀ (j : Nat) (s : Sl), ρ[j]? = some s → s.owns = false
  hσ : σ[ix]? = some (some (.ref a))
  N : Nst K B F H a es
def lfOf (es : List NIn) (b : Addr) : List NEnt := match es.find? (fun e => decide (e.c = b)) with
  | some e => e.L
  | none => []
theorem lf_of : ∀ {es : List NIn}, (es.map (·.c)).Nodup → ∀ {e : NIn}, e ∈ es → lfOf es e.c = e.L
  | [], _, e, h => by cases h
  | x :: es, nd, e, h => by
    rw [List.map_cons, List.nodup_cons] at nd
    unfold lfOf
    rw [List.find?_cons]
    rcases List.mem_cons.mp h with rfl | h
    · rw [decide_eq_true rfl]
    · have ne : ¬ x.c = e.c := fun z => nd.1 (z ▸ List.mem_map.mpr ⟨e, h, rfl⟩)
      rw [decide_eq_false ne]
      exact lf_of nd.2 h
/-- data without dicts -/
def fnP : D → Bool
  | .dict [(.none, .tuple (.str _ :: ps))] => PyData.plainAll ps
  | _ => false
def okSl : Sl → Bool
  | .no => true
  | .v p => p.plain || fnP p
  | .ol _ => true
  | _ => false
def wipS (s : Sl) : Sl := if s.owns then .no else s
theorem wip_owns (s : Sl) : (wipS s).owns = false := by
  unfold wipS
  by_cases h : s.owns = true
  · rw [if_pos h]; rfl
  · rw [if_neg h]; simpa using h
/-- no locked dict of nested keys -/
def NotD (b : Addr) (o : HO) : Prop := ∀ (oc : Obj) (L : List NEnt), o ≠ .frz oc (DictNO b L)
mutual
theorem Dp.keepD {K : Fg} {F F' : Hp} (e : ∀ b o, F b = some o → NotD b o → F' b = some o) : ∀ {v : V} {p : D}, Dp K F v p → p.plain = true → Dp K F' v p
  | _, _, .non, _ => .non
  | _, _, .bl b, _ => .bl b
  | _, _, .int i, _ => .int i
  | _, _, .str i, _ => .str i
  | _, _, .tup s r, h => .tup (e _ _ s (fun _ _ z => by cases z)) (DpAll.keepD e r (by simpa [PyData.plain] using h))
  | _, _, .tupK a b c d f g r, h => .tupK a b c d f g (DpAll.keepD e r (by simpa [PyData.plain] using h))
  | _, _, .lst s r, h => .lst (by
      rcases s with (s | ⟨o, s⟩) | s
      · exact .inl (.inl (e _ _ s (fun _ _ z => by cases z)))
      · exact .inl (.inr ⟨o, e _ _ s (fun _ _ z => by unfold DictNO at z; cases z)⟩)
      · exact .inr s) (DpAll.keepD e r (by simpa [PyData.plain] using h))
  | _, _, .dk s r, h => by simp [PyData.plain] at h
  | _, _, .dt s r, h => by simp [PyData.plain] at h
  | _, _, .q a b c d f, _ => .q a b c d f
  | _, _, .fn _ _, h => by simp [fnD, PyData.plain] at h
  | _, _, .nd _ _ _, h => by simp [PyData.plain] at h
theorem DpAll.keepD {K : Fg} {F F' : Hp} (e : ∀ b o, F b = some o → NotD b o → F' b = some o) : ∀ {vs : List V} {ps : List D}, DpAll K F vs ps → PyData.plainAll ps = true → DpAll K F' vs ps
  | _, _, .nil, _ => .nil
  | _, _, .cons a b, h => by
    rw [PyData.plainAll, Bool.and_eq_true] at h
    exact .cons (Dp.keepD e a h.1) (DpAll.keepD e b h.2)
end
theorem fnP_is {p : D} (h : fnP p = true) : ∃ q ps, p = fnD q ps ∧ PyData.plainAll ps = true := by
  unfold fnP at h
  split at h
  · exact ⟨_, _, rfl, h⟩
  · cases h
theorem dp_fn {K : Fg} {F : Hp} {v : V} {q : Str} {ps : List D} (h : Dp K F v (fnD q ps)) : ∃ a vs, v = .ref a ∧ LamHere K F a q vs ∧ DpAll K F vs ps := by
  generalize hp : fnD q ps = p at h
  cases h with
  | fn l d => cases hp; exact ⟨_, _, rfl, l, d⟩
  | non => cases hp
  | bl b => cases hp
  | int i => cases hp
  | str i => cases hp
  | lst s r => cases hp
  | tup s r => cases hp
  | tupK a b c d f g r => cases hp
  | dk s r => cases r <;> cases hp
  | dt s r => cases r <;> cases hp
  | q a b c d f => cases hp
  | nd a b c => cases hp
theorem dp_cut {K : Fg} {F : Hp} {cs : List Addr} (hc : ∀ c ∈ cs, ∃ (o : Obj) (L : List NEnt), F c = some (.frz o (DictNO c L))) {v : V} {p : D} (h : Dp K F v p) (hp : (p.plain || fnP p) = true) : Dp K (cut F cs) v p := by
  have keep : ∀ b o, F b = some o → NotD b o → cut F cs b = some o := fun b o e n => by
    rw [cut_out fun z => by obtain ⟨oc, L, e2⟩ := hc b z; rw [e] at e2; exact n _ _ (Option.some.inj e2)]
    exact e
  rw [Bool.or_eq_true] at hp
  rcases hp with hp | hp
  · exact h.keepD keep hp
  · obtain ⟨q, ps, rfl, hps⟩ := fnP_is hp
    obtain ⟨a, vs, rfl, ⟨L, cl, c', pm, ctv, la⟩, d⟩ := dp_fn h
    have kx : ∀ b (φ : Heap → Prop), F b = some (.ext φ) → cut F cs b = some (.ext φ) := fun b φ e => keep b _ e fun _ _ z => by cases z
    exact .fn ⟨L, cl, c', pm, ctv, la.of, kx _ _ la.obj, kx _ _ la.code, fun y c hy => by
      obtain ⟨o, v, e1, e2⟩ := la.cell y c hy
      exact ⟨o, v, kx _ _ e1, e2⟩, la.inj, la.len, fun i y hy => by
      obtain ⟨c, o, u, v, e1, e2, e3, e4, e5⟩ := la.has i y hy
      exact ⟨c, o, u, v, e1, kx _ _ e2, e3, e4, e5⟩⟩ (d.keepD keep hps)
/-- what the frame needs to lock its dicts -/
theorem NJ.lockR {K : Fg} {B : Bs} {F H : Hp} {σ : St} {ρ : Rho} {ix : Nat} {a : Addr} {es : List NIn} (J : NJ K B F H σ ρ ix a es) (od : Addr → Obj) :
    Rs K ⟨ovl F (es.map (·.c)) fun b => .frz (od b) (DictNO b (lfOf es b)), ovl H (es.map (·.c)) fun b => .frz (od b) (DictNO b (lfOf es b)), some a, some (.o a (DictNO a (topL es)))⟩ (ovl F (es.map (·.c)) fun b => .frz (od b) (DictNO b (lfOf es b))) (ovl H (es.map (·.c)) fun b => .frz (od b) (DictNO b (lfOf es b))) σ (ρ.set ix (.rw (some (.o a (DictNO a (topL es)))))) := by
  obtain ⟨R, no, own, hσ, N⟩ := J
  obtain ⟨an, cn⟩ := List.nodup_cons.mp N.cn
  have hcs : ∀ c ∈ es.map (·.c), F c = none ∧ H c = some (DictNO c (lfOf es c)) := fun c hc => by
    obtain ⟨e, he, rfl⟩ := List.mem_map.mp hc
    exact ⟨(N.fc e he).1, by rw [lf_of cn he]; exact N.hc e he⟩
  generalize es.map (·.c) = cs at hcs an ⊢
  have sFF : Same F (ovl F cs fun b => .frz (od b) (DictNO b (lfOf es b))) := fun b x e => by
    rw [ovl_out fun z => by rw [(hcs b z).1] at e; cases e]; exact e
  have rok : RowOk K (some (.o a (DictNO a (topL es)))) (ovl F cs fun b => .frz (od b) (DictNO b (lfOf es b))) (ovl H cs fun b => .frz (od b) (DictNO b (lfOf es b))) a := ⟨rfl, by rw [ovl_out an]; exact N.hh, dict_nt _ _, dict_te _ _⟩
  have fa : (ovl F cs fun b => HO.frz (od b) (DictNO b (lfOf es b))) a = none := by rw [ovl_out an]; exact N.fa
  have hl : ix < ρ.length := (List.getElem?_eq_some_iff.mp no).1
  refine ⟨fun b x e => ?_, Same.refl _, fun b h1 h2 => absurd h1 h2, SameX.refl _, fun r hr => ?_, fun r hr => ?_, by rw [List.length_set]; exact R.len, fun j t ht => ?_, fun j k c t u hjk h1 h2 o1 o2 e1 e2 => ?_, ⟨fun p hp => ?_, tabs_ext R.tb.2.1 fun b o e te => ?_, fun b ps e => ?_⟩, fun p hp => ?_⟩
  · by_cases hb : b ∈ cs
    · rw [ovl_in hb] at e ⊢; exact e
    · rw [ovl_out hb] at e ⊢; exact R.sub _ _ e
  · cases hr; exact ⟨fa, rok⟩
  · cases hr
    have e : (ovl H cs fun b => HO.frz (od b) (DictNO b (lfOf es b))) a = some (DictNO a (topL es)) := by rw [ovl_out an]; exact N.hh
    exact fun z => by have := e.symm.trans z; cases this
  · rcases set_some ht with ⟨rfl, _, rfl⟩ | ⟨ne, ht⟩
    · rw [hσ]; exact .row fa (.inr ⟨rfl, rfl, trivial⟩) rok
    · have q := R.at_ j t ht
      have o := own j t ht
      generalize hx : σ[j]? = x at q
      cases q with
      | no => exact .no
      | v d => exact .v (d.same sFF)
      | ol => cases o
      | row => cases o
      | od => cases o
  · rcases set_some h1 with ⟨rfl, _, rfl⟩ | ⟨ne, h1⟩
    · rcases set_some h2 with ⟨rfl, _, rfl⟩ | ⟨ne2, h2⟩
      · exact hjk rfl
      · rw [own k u h2] at o2; cases o2
    · rw [own j t h1] at o1; cases o1
  · rw [ovl_out fun z => R.tb.ne (hcs _ z).2 (dict_te _ _) p hp rfl]; exact R.tb.1 p hp
  · rw [ovl_out fun z => by rw [(hcs b z).2] at e; cases e; exact dict_te _ _ te]; exact e
  · by_cases hb : b ∈ cs
    · rw [ovl_in hb] at e; cases e
    · rw [ovl_out hb] at e; exact R.tb.2.2 b ps e
  · obtain ⟨ps, e, _⟩ := R.tb.2.1 p hp
    have e3 : (ovl H cs fun b => HO.frz (od b) (DictNO b (lfOf es b))) p.1 = some (.tbl ps) := by rw [ovl_out fun z => R.tb.ne (hcs _ z).2 (dict_te _ _) p hp rfl]; exact e
    exact ⟨ps, e3⟩
/-- behind the piece: the dicts as they were, all else forgotten but plain data -/
theorem NJ.unlockR {K : Fg} {B : Bs} {F H F3 H3 : Hp} {σ σ3 : St} {ρ ρ3 : Rho} {ix : Nat} {a : Addr} {es : List NIn} (J : NJ K B F H σ ρ ix a es) (od : Addr → Obj) (hix : ix < ρ3.length) (hok : ∀ (j : Nat) (s : Sl), ρ3[j]? = some s → okSl s = true)
    (R3 : Rs K ⟨ovl F (es.map (·.c)) fun b => .frz (od b) (DictNO b (lfOf es b)), ovl H (es.map (·.c)) fun b => .frz (od b) (DictNO b (lfOf es b)), some a, some (.o a (DictNO a (topL es)))⟩ F3 H3 σ3 (ρ3.set ix (.rw (some (.o a (DictNO a (topL es)))))))
    (s3 : Same (ovl F (es.map (·.c)) fun b => .frz (od b) (DictNO b (lfOf es b))) F3) :
    (∀ c ∈ es.map (·.c), H3 c = some (.frz (od c) (DictNO c (lfOf es c)))) ∧ Same F (cut F3 (es.map (·.c))) ∧ NJ K B (cut F3 (es.map (·.c))) (ovl H3 (es.map (·.c)) fun b => DictNO b (lfOf es b)) σ3 ((ρ3.map wipS).set ix .no) ix a es := by
  obtain ⟨R, no, own, hσ, N⟩ := J
  obtain ⟨an, cn⟩ := List.nodup_cons.mp N.cn
  have hcs : ∀ c ∈ es.map (·.c), F c = none ∧ H c = some (DictNO c (lfOf es c)) ∧ B.Ha c = none := fun c hc => by
    obtain ⟨e, he, rfl⟩ := List.mem_map.mp hc
    exact ⟨(N.fc e he).1, by rw [lf_of cn he]; exact N.hc e he, (N.fc e he).2.1⟩
  have hF3 : ∀ c ∈ es.map (·.c), F3 c = some (.frz (od c) (DictNO c (lfOf es c))) := fun c hc => s3 c _ (ovl_in hc)
  have hH3 : ∀ c ∈ es.map (·.c), H3 c = some (.frz (od c) (DictNO c (lfOf es c))) := fun c hc => R3.sub _ _ (hF3 c hc)
  have hent := N.ent
  have hinn := N.inn
  have hhc : ∀ e ∈ es, (ovl H3 (es.map (·.c)) fun b => DictNO b (lfOf es b)) e.c = some (DictNO e.c e.L) := fun e he => by
    rw [ovl_in (List.mem_map.mpr ⟨e, he, rfl⟩), lf_of cn he]
  have hfc : ∀ e ∈ es, cut F3 (es.map (·.c)) e.c = none ∧ B.Ha e.c = none ∧ (e.c == sysModules) = false := fun e he => ⟨cut_in (List.mem_map.mpr ⟨e, he, rfl⟩), (N.fc e he).2⟩
  have ixs : (ρ3.set ix (.rw (some (.o a (DictNO a (topL es))))))[ix]? = some (.rw (some (.o a (DictNO a (topL es))))) := List.getElem?_set_self hix
  obtain ⟨ha3, hfa3, hσ3⟩ : H3 a = some (DictNO a (topL es)) ∧ F3 a = none ∧ σ3[ix]? = some (some (.ref a)) := by
    have w := R3.at_ ix _ ixs
    obtain ⟨o, ho⟩ : ∃ o, σ3[ix]? = o := ⟨_, rfl⟩
    rw [ho] at w ⊢
    cases w with
    | row f h0 ok =>
      obtain ⟨rfl, h, _⟩ := ok
      exact ⟨h, f, rfl⟩
  have hsm := N.sm
  have hha := N.ha
  have hkn := N.kn
  have hlen := N.len
  have hcn := N.cn
  have hNa := N.fa
  have hNh := N.hh
  clear N
  generalize hcse : es.map (·.c) = cs at *
  have sF1 : Same F (ovl F cs fun b => .frz (od b) (DictNO b (lfOf es b))) := fun b x e => by
    rw [ovl_out fun z => by rw [(hcs b z).1] at e; cases e]; exact e
  have sF : Same F (cut F3 cs) := fun b x e => by
    rw [cut_out fun z => by rw [(hcs b z).1] at e; cases e]; exact s3 b x (sF1 b x e)
  have kept : ∀ b o, b ≠ a → b ∉ cs → (∀ p ∈ tbT K, p.1 ≠ b) → H b = some o → H3 b = some o := fun b o n1 n2 n3 e => R3.old b o ⟨fun z => n1 (Option.some.inj z), n3⟩ ((ovl_out (g := fun b => HO.frz (od b) (DictNO b (lfOf es b))) n2).trans e)
  refine ⟨hH3, sF, ⟨⟨fun b x e => ?_, R.ext.trans sF, fun b h1 h2 => ?_, fun b x hb e => ?_, fun r hr => ?_, R.hr2, ?_, fun j t ht => ?_, fun j k c t u hjk h1 h2 o1 o2 e1 e2 => ?_, ⟨fun p hp => cut_none (R3.tb.1 p hp), tabs_ext R3.tb.2.1 fun b o e te => ?_, fun b ps e => ?_⟩, R.tbh⟩, ?_, fun j s hs => ?_, hσ3, ⟨hsm, ?_, hha, ?_, hkn, hlen, by rw [hcse]; exact hcn, fun e he => ?_, hfc, hhc, fun e he => ?_⟩⟩⟩
  · by_cases hb : b ∈ cs
    · rw [cut_in hb] at e; cases e
    · rw [cut_out hb] at e; rw [ovl_out hb]; exact R3.sub _ _ e
  · by_cases hb : b ∈ cs
    · exact absurd (cut_in hb) h2
    · rw [cut_out hb] at h2
      by_cases hF : F b = none
      · have fz := R3.new b ((ovl_out (g := fun b => HO.frz (od b) (DictNO b (lfOf es b))) hb).trans hF) h2
        have fz : Fz ((ovl H cs fun b => .frz (od b) (DictNO b (lfOf es b))) b) := fz
        rw [ovl_out hb] at fz
        exact R.fz fz
      · exact R.new b h1 hF
  · have hbc : b ∉ cs := fun z => by rw [(hcs b z).2.2] at e; cases e
    rw [ovl_out hbc]
    exact kept b x (fun z => by rw [z, hha] at e; cases e) hbc hb.2 (R.old b x hb e)
  · obtain ⟨g1, g2⟩ := R.hrow r hr
    have hr0 := R.hr2 r hr
    have rc : r ∉ cs := fun z => hr0 (hcs r z).2.2
    have ra : r ≠ a := fun z => hr0 (z ▸ hha)
    have tb := g2.nob R.tb
    refine ⟨?_, g2.mono sF fun o e => by rw [ovl_out rc]; exact kept r o ra rc tb e⟩
    rw [cut_out rc]
    cases q : F3 r with
    | none => rfl
    | some u =>
      have fz := R3.new r ((ovl_out (g := fun b => HO.frz (od b) (DictNO b (lfOf es b))) rc).trans g1) (by rw [q]; exact fun z => by cases z)
      have fz : Fz ((ovl H cs fun b => .frz (od b) (DictNO b (lfOf es b))) r) := fz
      rw [ovl_out rc] at fz
      obtain ⟨o, e, nt⟩ := g2.thereN
      rcases fz with fz | ⟨xs, fz⟩
      · rw [e] at fz; cases fz
      · rw [e] at fz; exact absurd (Option.some.inj fz) (nt xs)
  · rw [List.length_set, List.length_map]
    have := R3.len
    rw [List.length_set] at this
    exact this
  · rcases set_some ht with ⟨rfl, _, rfl⟩ | ⟨ne, ht⟩
    · exact .no
    · rw [List.getElem?_map] at ht
      obtain ⟨s0, hs0, rfl⟩ := Option.map_eq_some_iff.mp ht
      have q := R3.at_ j s0 (by rw [List.getElem?_set_ne ne]; exact hs0)
      have o := hok j s0 hs0
      cases s0 with
      | no => exact .no
      | v p =>
        generalize hx : σ3[j]? = x at q
        cases q with
        | v d => exact .v (dp_cut (fun c hc => ⟨_, _, hF3 c hc⟩) d o)
      | ol ps => exact .no
      | rw m => cases o
      | od t kvs => cases o
  · rcases set_some h1 with ⟨rfl, _, rfl⟩ | ⟨ne, h1⟩
    · cases o1
    · rw [List.getElem?_map] at h1
      obtain ⟨s0, hs0, rfl⟩ := Option.map_eq_some_iff.mp h1
      rw [wip_owns] at o1; cases o1
  · rw [ovl_out fun z => by
      rw [hH3 b z] at e
      cases e
      rcases te with ⟨ps, te⟩ | ⟨c, q, te⟩
      · cases te
      · unfold LamX.CodeO at te; cases te]
    exact e
  · by_cases hb : b ∈ cs
    · rw [cut_in hb] at e; cases e
    · rw [cut_out hb] at e; exact R3.tb.2.2 b ps e
  · rw [List.getElem?_set_self (by rw [List.length_map]; exact hix)]
  · rcases set_some hs with ⟨rfl, _, rfl⟩ | ⟨ne, hs⟩
    · rfl
    · rw [List.getElem?_map] at hs
      obtain ⟨s0, hs0, rfl⟩ := Option.map_eq_some_iff.mp hs
      exact wip_owns s0
  · exact cut_none hfa3
  · rw [ovl_out an]; exact ha3
  · obtain ⟨q1, q2, q3, q4⟩ := hent e he
    exact ⟨q1, q2, q3, q4.same sF⟩
  · obtain ⟨q1, q2, q3⟩ := hinn e he
    exact ⟨q1.same sF, q2, q3⟩
/-- cells that nobody of the frame looks at may change -/
theorem Rs.quiet {K : Fg} {B : Bs} {F H H' : Hp} {σ : St} {ρ : Rho} (R : Rs K B F H σ ρ) (own : ∀ (j : Nat) (s : Sl), ρ[j]? = some s → s.owns = false) (D : List Addr) (hD : ∀ b ∈ D, F b = none ∧ B.Ha b = none ∧ (H b = none ∨ ∃ L, H b = some (DictNO b L))) (hk : ∀ b o, b ∉ D → H b = some o → H' b = some o) : Rs K B F H' σ ρ := by
  have nD : ∀ b x, F b = some x → b ∉ D := fun b x e z => by rw [(hD b z).1] at e; cases e
  refine ⟨fun b x e => hk b x (nD b x e) (R.sub b x e), R.ext, R.new, fun b x hb e => hk b x (fun z => by rw [(hD b z).2.1] at e; cases e) (R.old b x hb e), fun r hr => ?_, R.hr2, R.len, fun j t ht => ?_, fun j k c t u hjk h1 h2 o1 o2 e1 e2 => ?_, ⟨R.tb.1, tabs_ext R.tb.2.1 fun b o e te => hk b o (fun z => ?_) e, R.tb.2.2⟩, R.tbh⟩
  · obtain ⟨g1, g2⟩ := R.hrow r hr
    have rD : r ∉ D := fun z => R.hr2 r hr (hD r z).2.1
    exact ⟨g1, g2.mono (Same.refl _) fun o e => hk r o rD e⟩
  · have q := R.at_ j t ht
    have o := own j t ht
    generalize hx : σ[j]? = x at q
    cases q with
    | no => exact .no
    | v d => exact .v d
    | ol => cases o
    | row => cases o
    | od => cases o
  · rw [own j t h1] at o1; cases o1
  · rcases (hD b z).2.2 with q | ⟨L, q⟩
    · rw [q] at e; cases e
    · rw [q] at e; cases e; exact dict_te _ _ te
theorem topL_at {es : List NIn} {nk : NestedKey} : (∀ v, atN (topL es) nk = some v → ∃ e ∈ es, e.k = nk ∧ v = .ref e.c) ∧ (atN (topL es) nk = none → ∀ e ∈ es, e.k ≠ nk) := by
  induction es with
  | nil => exact ⟨fun v h => by simp [atN, topL] at h, fun _ e he => by cases he⟩
  | cons x es ih =>
    unfold atN topL at *
    rw [List.map_cons, List.find?_cons]
    by_cases q : x.k = nk
    · rw [decide_eq_true q]
      exact ⟨fun v h => ⟨x, List.mem_cons_self, q, by cases h; rfl⟩, fun h => by cases h⟩
    · rw [decide_eq_false q]
      refine ⟨fun v h => ?_, fun h e he => ?_⟩
      · obtain ⟨e, he, a, b⟩ := ih.1 v h
        exact ⟨e, List.mem_cons_of_mem _ he, a, b⟩
      · rcases List.mem_cons.mp he with rfl | he
        · exact q
        · exact ih.2 h e he
theorem map_one {α β : Type} (g : α → β) : ∀ {es : List α}, (es.map g).Nodup → ∀ {e f : α}, e ∈ es → f ∈ es → g e = g f → e = f
  | [], _, e, f, h, _, _ => by cases h
  | x :: es, nd, e, f, he, hf, ek => by
    rw [List.map_cons, List.nodup_cons] at nd
    obtain ⟨nd1, nd2⟩ := nd
    rcases List.mem_cons.mp he with h1 | h1
    · rcases List.mem_cons.mp hf with h2 | h2
      · rw [h1, h2]
      · exact absurd (List.mem_map.mpr ⟨f, h2, by rw [← ek, h1]⟩) nd1
    · rcases List.mem_cons.mp hf with h2 | h2
      · exact absurd (List.mem_map.mpr ⟨e, h1, by rw [ek, h2]⟩) nd1
      · exact map_one g nd2 h1 h2 ek
theorem key_one {es : List NIn} (nd : (es.map (·.k)).Nodup) {e f : NIn} (he : e ∈ es) (hf : f ∈ es) (ek : e.k = f.k) : e = f := map_one (·.k) nd he hf ek
theorem look_nzs {nk : NestedKey} : ∀ {es : List NIn}, (∀ e ∈ es, NkD e.k e.d) → (∀ e ∈ es, e.k = nk → (es.map (·.k)).Nodup → lookNX (nzs es) nk = some (ndD e.zs)) ∧ ((∀ e ∈ es, e.k ≠ nk) → lookNX (nzs es) nk = none ∧ nhX (nzs es) nk = false)
  | [], _ => ⟨(fun e h => by cases h), fun _ => ⟨rfl, rfl⟩⟩
  | x :: es, h => by
    have ih := look_nzs (nk := nk) (es := es) fun e he => h e (List.mem_cons_of_mem _ he)
    have hx : nisK nk (.tuple [x.d, ndD x.zs]) = decide (x.k = nk) := nisK_of (h x List.mem_cons_self)
    have e0 : nzs (x :: es) = .tuple [x.d, ndD x.zs] :: nzs es := rfl
    have l0 : lookNX (nzs (x :: es)) nk = if x.k = nk then some (ndD x.zs) else lookNX (nzs es) nk := by
      rw [e0]
      unfold lookNX
      rw [List.find?_cons, hx]
      by_cases q : x.k = nk
      · rw [if_pos q, decide_eq_true q]; rfl
      · rw [if_neg q, decide_eq_false q]
    have n0 : nhX (nzs (x :: es)) nk = (decide (x.k = nk) || nhX (nzs es) nk) := by
      rw [e0]
      unfold nhX
      rw [List.any_cons, hx]
    refine ⟨fun e he ek nd => ?_, fun hn => ?_⟩
    · by_cases q : x.k = nk
      · have : e = x := key_one nd he List.mem_cons_self (ek.trans q.symm)
        rw [l0, if_pos q, this]
      · rw [l0, if_neg q]
        rcases List.mem_cons.mp he with h1 | h1
        · exact absurd (h1 ▸ ek) q
        · rw [List.map_cons, List.nodup_cons] at nd
          exact ih.1 e h1 ek nd.2
    · have q := hn x List.mem_cons_self
      rw [l0, if_neg q, n0, decide_eq_false q, Bool.false_or]
      exact ih.2 fun e he => hn e (List.mem_cons_of_mem _ he)
/-- the entries behind the two puts -/
def upE (nk hk : NestedKey) (bh : Addr) (hd : D) (e : NIn) : NIn := if e.k = nk then { e with L := putN e.L hk bh (.bl true), zs := npX e.zs hk hd (.bool true) } else e
theorem upE_k {nk hk : NestedKey} {bh : Addr} {hd : D} (e : NIn) : (upE nk hk bh hd e).k = e.k ∧ (upE nk hk bh hd e).b = e.b ∧ (upE nk hk bh hd e).c = e.c ∧ (upE nk hk bh hd e).d = e.d := by
  unfold upE; split <;> exact ⟨rfl, rfl, rfl, rfl⟩
theorem NJ.put {K : Fg} {B : Bs} {F H : Hp} {σ : St} {ρ : Rho} {ix kx hx : Nat} {a : Addr} {es : List NIn} {kd hd : D} {nk hk : NestedKey} {ws : List D} {En : Ends} (J : NJ K B F H σ ρ ix a es) (e1 : ρ[kx]? = some (.v kd)) (e2 : ρ[hx]? = some (.v hd)) (e3 : nkeyX kd = some nk) (e4 : nkeyX hd = some hk) (e5 : innX (nzs es) nk = some ws) (hl : es.length < sizeLine) (hw : ws.length < sizeLine)
    (k : ∀ H' es', NJ K B F H' σ ρ ix a es' → nzs es' = npX (nzs es) nk kd (ndD (npX ws hk hd (.bool true))) → En.nx σ H') :
    tSeq (sNPut K (tVar ix) (tVar kx) (tNGet2 K (tVar ix) (tVar kx) tEmptyN)) (sNPut K (tNGet K (tVar ix) (tVar kx)) (tVar hx) (tC (.bl true))) En σ H := by
  obtain ⟨R, no, own, hσ, N⟩ := J
  obtain ⟨ds, rfl, n, h8, pl⟩ := nkeyX_is e3
  obtain ⟨ds2, rfl, n2, h82, pl2⟩ := nkeyX_is e4
  have slot : ∀ {i : Nat} {p : D}, ρ[i]? = some (.v p) → ∃ v, σ[i]? = some (some v) ∧ Dp K F v p := fun {i p} h => by
    have q := R.at_ i _ h
    obtain ⟨o, ho⟩ : ∃ o, σ[i]? = o := ⟨_, rfl⟩
    rw [ho] at q ⊢
    cases q with
    | v d => exact ⟨_, rfl, d⟩
  obtain ⟨vk, hvk, dk⟩ := slot e1
  obtain ⟨vh, hvh, dh⟩ := slot e2
  obtain ⟨bk, _, rfl, _, _⟩ := Dp.inv_tup dk
  obtain ⟨bh, _, rfl, _, _⟩ := Dp.inv_tup dh
  obtain ⟨an, cn⟩ := List.nodup_cons.mp N.cn
  have ents : ∀ {H' : Hp}, Same F H' → EntsOk K H' (topL es) := fun {H'} s p hp => by
    obtain ⟨e, he, rfl⟩ := List.mem_map.mp hp
    obtain ⟨q1, q2, q3, q4⟩ := N.ent e he
    exact ⟨e.d, q1, q2, q3, q4.same s⟩
  refine ⟨.ref a, hσ, a, rfl, N.sm, ⟨_, N.hh⟩, .ref bk, hvk, fun p hp smp => ?_⟩
  have pa : a ≠ p := fun z => by rw [← z, N.hh] at hp; cases hp
  have pF : F p = none := R.sub.free hp
  have pB := (R.fresh hp).1
  have s5 : Same F (upd H p (DictNO p [])) := fun b x e => by
    rw [upd_ne (fun z => by rw [z, pF] at e; cases e)]; exact R.sub b x e
  have h5a : (upd H p (DictNO p [])) a = some (DictNO a (topL es)) := by rw [upd_ne pa]; exact N.hh
  refine ⟨bk, topL es, nk, _, rfl, h5a, ents s5, n, h8, pl, dk.same s5, .ref a, hσ, .ref bk, hvk, a, bk, topL es, nk, _, rfl, rfl, h5a, ents s5, n, h8, pl, dk.same s5, by unfold topL; rw [List.length_map]; omega, ?_⟩
  have s6 : ∀ u, Same F (upd (upd H p (DictNO p [])) a u) := fun u b x e => by
    rw [upd_ne (fun z => by rw [z, N.fa] at e; cases e)]; exact s5 b x e
  have entp : ∀ {H' : Hp} {v : V}, Same F H' → EntsOk K H' (putN (topL es) nk bk v) := fun {H' v} s q hq => by
    unfold putN at hq
    split at hq
    · obtain ⟨q0, hq0, rfl⟩ := List.mem_map.mp hq
      have := ents s q0 hq0
      split <;> exact this
    · rcases List.mem_append.mp hq with hq | hq
      · exact ents s q hq
      · rw [List.mem_singleton.mp hq]; exact ⟨_, n, h8, pl, dk.same s⟩
  have inner : ∀ {H' : Hp} {L : List NEnt} {zs : List D}, Same F H' → DnAll K F L zs → EntsOk K H' L := fun {H' L zs} s d => dnAll_ok s d
  refine ⟨.ref a, hσ, .ref bk, hvk, a, bk, putN (topL es) nk bk _, nk, _, _, rfl, rfl, upd_same, entp (s6 _), n, h8, pl, dk.same (s6 _), atN_put, ?_⟩
  cases hat : atN (topL es) nk with
  | some v =>
    obtain ⟨e0, he0, ek, rfl⟩ := topL_at.1 v hat
    have hlk := (look_nzs (nk := nk) (es := es) fun e he => (N.ent e he).1).1 e0 he0 ek N.kn
    have hws : ws = e0.zs := by
      unfold innX at e5
      rw [hlk] at e5
      exact (Option.some.inj e5).symm
    subst hws
    obtain ⟨dn, ndL, hL⟩ := N.inn e0 he0
    have c0a : e0.c ≠ a := fun z => an (z ▸ List.mem_map.mpr ⟨e0, he0, rfl⟩)
    have c0p : e0.c ≠ p := fun z => by have := N.hc e0 he0; rw [z, hp] at this; cases this
    have hput : putN (topL es) nk bk (.ref e0.c) = topL es := by
      unfold putN
      rw [hat]
      show (topL es).map _ = _
      refine (List.map_congr_left (g := id) fun q hq => ?_).trans (List.map_id _)
      obtain ⟨e, he, rfl⟩ := List.mem_map.mp hq
      by_cases c : e.k = nk
      · have : e = e0 := key_one N.kn he he0 (c.trans ek.symm)
        rw [this]
        show (if e0.k = nk then (e0.k, e0.b, V.ref e0.c) else _) = _
        rw [if_pos ek]; rfl
      · show (if e.k = nk then _ else _) = _
        rw [if_neg c]; rfl
    refine ⟨.ref bh, hvh, e0.c, bh, e0.L, hk, _, rfl, rfl, by show upd _ a _ e0.c = _; rw [upd_ne c0a, upd_ne c0p]; exact N.hc e0 he0, inner (s6 _) dn, n2, h82, pl2, dh.same (s6 _), by omega, ?_⟩
    show En.nx σ (upd (upd (upd H p (DictNO p [])) a (DictNO a (putN (topL es) nk bk (.ref e0.c)))) e0.c (DictNO e0.c (putN e0.L hk bh (.bl true))))
    rw [hput]
    have hmk : (es.map (upE nk hk bh (.tuple ds2))).map (·.k) = es.map (·.k) := by rw [List.map_map]; exact List.map_congr_left fun e _ => (upE_k e).1
    have hmc : (es.map (upE nk hk bh (.tuple ds2))).map (·.c) = es.map (·.c) := by rw [List.map_map]; exact List.map_congr_left fun e _ => (upE_k e).2.2.1
    have hmt : topL (es.map (upE nk hk bh (.tuple ds2))) = topL es := by
      unfold topL
      rw [List.map_map]
      exact List.map_congr_left fun e _ => by
        obtain ⟨q1, q2, q3, _⟩ := upE_k (nk := nk) (hk := hk) (bh := bh) (hd := .tuple ds2) e
        show (_, _, V.ref _) = _
        rw [q1, q2, q3]
    refine k _ (es.map (upE nk hk bh (.tuple ds2))) ⟨R.quiet own [p, a, e0.c] (fun b hb => ?_) (fun b o hb e => ?_), no, own, hσ, ⟨N.sm, N.fa, N.ha, ?_, by rw [hmk]; exact N.kn, by rw [List.length_map]; exact N.len, by rw [hmc]; exact N.cn, fun e he => ?_, fun e he => ?_, fun e he => ?_, fun e he => ?_⟩⟩ ?_
    · simp only [List.mem_cons, List.not_mem_nil, or_false] at hb
      rcases hb with rfl | rfl | rfl
      · exact ⟨pF, pB, .inl hp⟩
      · exact ⟨N.fa, N.ha, .inr ⟨_, N.hh⟩⟩
      · exact ⟨(N.fc e0 he0).1, (N.fc e0 he0).2.1, .inr ⟨_, N.hc e0 he0⟩⟩
    · simp only [List.mem_cons, List.not_mem_nil, or_false, not_or] at hb
      rw [upd_ne hb.2.2, upd_ne hb.2.1, upd_ne hb.1]; exact e
    · rw [hmt, upd_ne (Ne.symm c0a), upd_same]
    · obtain ⟨f, hf, rfl⟩ := List.mem_map.mp he
      obtain ⟨q1, q2, q3, q4⟩ := upE_k (nk := nk) (hk := hk) (bh := bh) (hd := .tuple ds2) f
      rw [q1, q2, q4]; exact N.ent f hf
    · obtain ⟨f, hf, rfl⟩ := List.mem_map.mp he
      rw [(upE_k f).2.2.1]; exact N.fc f hf
    · obtain ⟨f, hf, rfl⟩ := List.mem_map.mp he
      by_cases c : f.k = nk
      · have : f = e0 := key_one N.kn hf he0 (c.trans ek.symm)
        subst this
        unfold upE
        rw [if_pos c]
        exact upd_same
      · have fc : f.c ≠ e0.c := fun z => by
          have : f = e0 := map_one (·.c) cn hf he0 z
          exact c (this ▸ ek)
        have fa : f.c ≠ a := fun z => an (z ▸ List.mem_map.mpr ⟨f, hf, rfl⟩)
        have fp : f.c ≠ p := fun z => by have := N.hc f hf; rw [z, hp] at this; cases this
        unfold upE
        rw [if_neg c, upd_ne fc, upd_ne fa, upd_ne fp]
        exact N.hc f hf
    · obtain ⟨f, hf, rfl⟩ := List.mem_map.mp he
      by_cases c : f.k = nk
      · have : f = e0 := key_one N.kn hf he0 (c.trans ek.symm)
        subst this
        unfold upE
        rw [if_pos c]
        have hz := dnAll_len dn
        have := putN_len (L := f.L) (k := hk) (b := bh) (v := .bl true)
        exact ⟨dnAll_put n2 h82 pl2 dh (.bl true) dn, putN_nodup ndL, by show (putN f.L hk bh (.bl true)).length ≤ _; omega⟩
      · unfold upE
        rw [if_neg c]; exact N.inn f hf
    · have hh : nhX (nzs es) nk = true := by
        unfold nhX
        rw [List.any_eq_true]
        exact ⟨_, List.mem_map.mpr ⟨e0, he0, rfl⟩, by rw [nisK_of (N.ent e0 he0).1, decide_eq_true ek]⟩
      unfold npX
      rw [if_pos hh]
      unfold nzs
      rw [List.map_map, List.map_map]
      refine List.map_congr_left fun e he => ?_
      show _ = if nisK nk (.tuple [e.d, ndD e.zs]) = true then PyData.tuple [e.d, _] else PyData.tuple [e.d, ndD e.zs]
      rw [nisK_of (N.ent e he).1]
      by_cases c : e.k = nk
      · have : e = e0 := key_one N.kn he he0 (c.trans ek.symm)
        subst this
        rw [if_pos (decide_eq_true c)]
        show PyData.tuple [(upE nk hk bh (.tuple ds2) e).d, ndD (upE nk hk bh (.tuple ds2) e).zs] = _
        unfold upE
        rw [if_pos c]
        rfl
      · rw [if_neg (by rw [decide_eq_false c]; simp)]
        show PyData.tuple [(upE nk hk bh (.tuple ds2) e).d, ndD (upE nk hk bh (.tuple ds2) e).zs] = _
        unfold upE
        rw [if_neg c]
  | none =>
    have hno := topL_at.2 hat
    obtain ⟨hlk, hnh⟩ := (look_nzs (nk := nk) (es := es) fun e he => (N.ent e he).1).2 hno
    have hws : ws = [] := by
      unfold innX at e5
      rw [hlk] at e5
      exact (Option.some.inj e5).symm
    subst hws
    have hput : putN (topL es) nk bk (.ref p) = topL es ++ [(nk, bk, .ref p)] := by
      unfold putN
      rw [hat]; rfl
    refine ⟨.ref bh, hvh, p, bh, [], hk, _, rfl, rfl, by show upd _ a _ p = _; rw [upd_ne (Ne.symm pa), upd_same], fun q hq => (by cases hq), n2, h82, pl2, dh.same (s6 _), Nat.zero_le _, ?_⟩
    show En.nx σ (upd (upd (upd H p (DictNO p [])) a (DictNO a (putN (topL es) nk bk (.ref p)))) p (DictNO p (putN [] hk bh (.bl true))))
    rw [hput]
    have pcs : p ∉ es.map (·.c) := fun z => by
      obtain ⟨e, he, hc⟩ := List.mem_map.mp z
      have := N.hc e he
      rw [show e.c = p from hc, hp] at this; cases this
    refine k _ (es ++ [⟨nk, bk, p, putN [] hk bh (.bl true), .tuple ds, npX [] hk (.tuple ds2) (.bool true)⟩]) ⟨R.quiet own [p, a] (fun b hb => ?_) (fun b o hb e => ?_), no, own, hσ, ⟨N.sm, N.fa, N.ha, ?_, ?_, by rw [List.length_append, List.length_singleton]; omega, ?_, fun e he => ?_, fun e he => ?_, fun e he => ?_, fun e he => ?_⟩⟩ ?_
    · simp only [List.mem_cons, List.not_mem_nil, or_false] at hb
      rcases hb with rfl | rfl
      · exact ⟨pF, pB, .inl hp⟩
      · exact ⟨N.fa, N.ha, .inr ⟨_, N.hh⟩⟩
    · simp only [List.mem_cons, List.not_mem_nil, or_false, not_or] at hb
      rw [upd_ne hb.1, upd_ne hb.2, upd_ne hb.1]; exact e
    · rw [upd_ne pa, upd_same]
      unfold topL
      rw [List.map_append]; rfl
    · rw [List.map_append]
      refine List.nodup_append.mpr ⟨N.kn, by simp, fun x hx y hy e => ?_⟩
      obtain ⟨f, hf, rfl⟩ := List.mem_map.mp hx
      exact hno f hf (e.trans (by simpa using hy))
    · rw [List.map_append]
      refine List.nodup_cons.mpr ⟨fun z => ?_, List.nodup_append.mpr ⟨cn, by simp, fun x hx y hy e => ?_⟩⟩
      · rcases List.mem_append.mp z with z | z
        · exact an z
        · exact pa (by simpa using z)
      · have : y = p := by simpa using hy
        exact pcs (this ▸ e ▸ hx)
    · rcases List.mem_append.mp he with he | he
      · exact N.ent e he
      · rw [List.mem_singleton.mp he]; exact ⟨n, h8, pl, dk⟩
    · rcases List.mem_append.mp he with he | he
      · exact N.fc e he
      · rw [List.mem_singleton.mp he]; exact ⟨pF, pB, smp⟩
    · rcases List.mem_append.mp he with he | he
      · have ep : e.c ≠ p := fun z => pcs (z ▸ List.mem_map.mpr ⟨e, he, rfl⟩)
        have ea : e.c ≠ a := fun z => an (z ▸ List.mem_map.mpr ⟨e, he, rfl⟩)
        rw [upd_ne ep, upd_ne ea, upd_ne ep]; exact N.hc e he
      · rw [List.mem_singleton.mp he]; exact upd_same
    · rcases List.mem_append.mp he with he | he
      · exact N.inn e he
      · rw [List.mem_singleton.mp he]
        exact ⟨dnAll_put n2 h82 pl2 dh (.bl true) .nil, putN_nodup (L := []) List.nodup_nil, by
          have := putN_len (L := []) (k := hk) (b := bh) (v := .bl true)
          show (putN [] hk bh (.bl true)).length ≤ _
          rw [sizeLine_eq]
          simp at this
          omega⟩
    · unfold npX
      rw [if_neg (show ¬ nhX (nzs es) nk = true by rw [hnh]; simp)]
      unfold nzs
      rw [List.map_append]
      rfl
theorem ps_lockEnd {X : Cx} {S : Stmt} {t : TS} (h : PS X S t) : PS X S (fun D σ H => t { D with nx := fun σ' H' => ∃ (cs : List Addr) (Lf : Addr → List NEnt), cs.Nodup ∧ (∀ c ∈ cs, H' c = some (DictNO c (Lf c))) ∧ ∀ od : Addr → Obj, D.nx σ' (ovl H' cs fun b => .frz (od b) (DictNO b (Lf b))) } σ H) := ⟨fun pins s σ H D I hw => thn (h.run pins s σ H _ I hw) fun f s1 q => by
  cases f with
  | next =>
    obtain ⟨σ', H', I2, cs, Lf, nd, hc, q⟩ := q
    obtain ⟨od, I3⟩ := inv_locks Lf cs I2 nd hc
    exact ⟨σ', _, I3, q od⟩
  | brk => exact q
  | cont => exact q
  | ret v => exact q⟩
theorem Rs.forget {K : Fg} {B : Bs} {F H : Hp} {σ : St} {ρ : Rho} (R : Rs K B F H σ ρ) (ix : Nat) : Rs K B F H σ ((ρ.map wipS).set ix .no) := by
  refine ⟨R.sub, R.ext, R.new, R.old, R.hrow, R.hr2, by rw [List.length_set, List.length_map]; exact R.len, fun j t ht => ?_, fun j k c t u hjk h1 h2 o1 o2 e1 e2 => ?_, R.tb, R.tbh⟩
  · rcases set_some ht with ⟨rfl, _, rfl⟩ | ⟨ne, ht⟩
    · exact .no
    · rw [List.getElem?_map] at ht
      obtain ⟨s0, hs0, rfl⟩ := Option.map_eq_some_iff.mp ht
      unfold wipS
      split
      · exact .no
      · exact R.at_ j s0 hs0
  · rcases set_some h1 with ⟨rfl, _, rfl⟩ | ⟨ne, h1⟩
    · cases o1
    · rw [List.getElem?_map] at h1
      obtain ⟨s0, hs0, rfl⟩ := Option.map_eq_some_iff.mp h1
      rw [wip_owns] at o1; cases o1
theorem forget_own {ρ : Rho} {ix : Nat} : ∀ (j : Nat) (s : Sl), ((ρ.map wipS).set ix .no)[j]? = some s → s.owns = false := fun j s hs => by
  rcases set_some hs with ⟨rfl, _, rfl⟩ | ⟨ne, hs⟩
  · rfl
  · rw [List.getElem?_map] at hs
    obtain ⟨s0, hs0, rfl⟩ := Option.map_eq_some_iff.mp hs
    exact wip_owns s0
theorem dn_top {K : Fg} {F : Hp} : ∀ {es : List NIn}, (∀ e ∈ es, NkD e.k e.d ∧ e.k.depth ≤ 8 ∧ e.d.plain = true ∧ Dp K F (.ref e.b) e.d ∧ Dp K F (.ref e.c) (ndD e.zs)) → DnAll K F (topL es) (nzs es)
  | [], _ => .nil
  | e :: es, h => by
    obtain ⟨a, b, c, d, f⟩ := h e List.mem_cons_self
    exact .cons a b c d f (dn_top fun x hx => h x (List.mem_cons_of_mem _ hx))
/-- all of it handed to the frame: the dict its own, the inner ones locked -/
theorem NJ.toOwn {K : Fg} {B : Bs} {F H : Hp} {σ : St} {ρ : Rho} {ix : Nat} {a : Addr} {es : List NIn} (J : NJ K B F H σ ρ ix a es) (od : Addr → Obj) :
    Same F (ovl F (es.map (·.c)) fun b => .frz (od b) (DictNO b (lfOf es b))) ∧ Rs K B (ovl F (es.map (·.c)) fun b => .frz (od b) (DictNO b (lfOf es b))) (ovl H (es.map (·.c)) fun b => .frz (od b) (DictNO b (lfOf es b))) σ (ρ.set ix (.rw (some (.x (nzs es))))) := by
  obtain ⟨R, no, own, hσ, N⟩ := J
  obtain ⟨an, cn⟩ := List.nodup_cons.mp N.cn
  have hcs : ∀ c ∈ es.map (·.c), F c = none ∧ H c = some (DictNO c (lfOf es c)) ∧ B.Ha c = none := fun c hc => by
    obtain ⟨e, he, rfl⟩ := List.mem_map.mp hc
    exact ⟨(N.fc e he).1, by rw [lf_of cn he]; exact N.hc e he, (N.fc e he).2.1⟩
  have hin : ∀ e ∈ es, (ovl F (es.map (·.c)) fun b => .frz (od b) (DictNO b (lfOf es b))) e.c = some (.frz (od e.c) (DictNO e.c e.L)) := fun e he => by
    rw [ovl_in (List.mem_map.mpr ⟨e, he, rfl⟩), lf_of cn he]
  have hent := N.ent
  have hinn := N.inn
  have hfc := N.fc
  have hh := N.hh
  have hfa := N.fa
  have hkn : ((topL es).map (·.1)).Nodup := by
    unfold topL
    rw [List.map_map]; exact N.kn
  have hlen : (topL es).length ≤ sizeLine := by unfold topL; rw [List.length_map]; exact N.len
  have hsm := N.sm
  have hha := N.ha
  clear N
  generalize es.map (·.c) = cs at *
  have sFF : Same F (ovl F cs fun b => .frz (od b) (DictNO b (lfOf es b))) := fun b x e => by
    rw [ovl_out fun z => by rw [(hcs b z).1] at e; cases e]; exact e
  have rok : RowOk K (some (.x (nzs es))) (ovl F cs fun b => .frz (od b) (DictNO b (lfOf es b))) (ovl H cs fun b => .frz (od b) (DictNO b (lfOf es b))) a := ⟨topL es, hsm, by rw [ovl_out an]; exact hh, dn_top fun e he => by
    obtain ⟨q1, q2, q3, q4⟩ := hent e he
    exact ⟨q1, q2, q3, q4.same sFF, .nd (hfc e he).2.2 (hin e he) ((hinn e he).1.same sFF)⟩, hkn, hlen⟩
  have fa : (ovl F cs fun b => HO.frz (od b) (DictNO b (lfOf es b))) a = none := by rw [ovl_out an]; exact hfa
  refine ⟨sFF, ⟨fun b x e => ?_, R.ext.trans sFF, fun b h1 h2 => ?_, fun b x hb e => ?_, fun r hr => ?_, R.hr2, by rw [List.length_set]; exact R.len, fun j t ht => ?_, fun j k c t u hjk h1 h2 o1 o2 e1 e2 => ?_, ⟨fun p hp => ?_, tabs_ext R.tb.2.1 fun b o e te => ?_, fun b ps e => ?_⟩, R.tbh⟩⟩
  · by_cases hb : b ∈ cs
    · rw [ovl_in hb] at e ⊢; exact e
    · rw [ovl_out hb] at e ⊢; exact R.sub _ _ e
  · by_cases hb : b ∈ cs
    · exact .inl (hcs b hb).2.2
    · rw [ovl_out hb] at h2; exact R.new b h1 h2
  · rw [ovl_out fun z => by rw [(hcs b z).2.2] at e; cases e]
    exact R.old b x hb e
  · obtain ⟨g1, g2⟩ := R.hrow r hr
    have rc : r ∉ cs := fun z => R.hr2 r hr (hcs r z).2.2
    exact ⟨by rw [ovl_out rc]; exact g1, g2.mono sFF fun o e => by rw [ovl_out rc]; exact e⟩
  · rcases set_some ht with ⟨rfl, _, rfl⟩ | ⟨ne, ht⟩
    · rw [hσ]; exact .row fa (.inl hha) rok
    · have q := R.at_ j t ht
      have o := own j t ht
      generalize hx : σ[j]? = x at q
      cases q with
      | no => exact .no
      | v d => exact .v (d.same sFF)
      | ol => cases o
      | row => cases o
      | od => cases o
  · rcases set_some h1 with ⟨rfl, _, rfl⟩ | ⟨ne, h1⟩
    · rcases set_some h2 with ⟨rfl, _, rfl⟩ | ⟨ne2, h2⟩
      · exact hjk rfl
      · rw [own k u h2] at o2; cases o2
    · rw [own j t h1] at o1; cases o1
  · rw [ovl_out fun z => R.tb.ne (hcs _ z).2.1 (dict_te _ _) p hp rfl]; exact R.tb.1 p hp
  · rw [ovl_out fun z => by rw [(hcs b z).2.1] at e; cases e; exact dict_te _ _ te]; exact e
  · by_cases hb : b ∈ cs
    · rw [ovl_in hb] at e; cases e
    · rw [ovl_out hb] at e; exact R.tb.2.2 b ps e
theorem NJ.yl {K : Fg} {B : Bs} {F0 F H H' : Hp} {σ : St} {ρ : Rho} {ix : Nat} {a : Addr} {es : List NIn} {x : V} {p : D} (J : NJ K B F H σ ρ ix a es) (e : Same F0 F) (y : Yl K F0 H H' x p) : ∃ F1, NJ K B F1 H' σ ρ ix a es ∧ Same F F1 ∧ Dp K F1 x p := by
  rcases y with ⟨rfl, d⟩ | ⟨T, v1, v2, q1, q2, rfl, n, rfl, rfl, d1, d2⟩
  · exact ⟨F, J, Same.refl _, d.same e⟩
  · obtain ⟨R, no, own, hσ, N⟩ := J
    have n' := R.sub.free n
    have s : Same F (upd F T (.tup [v1, v2])) := same_upd n'
    have ne : ∀ b o, H b = some o → b ≠ T := fun b o h => ne_of_none h n
    refine ⟨_, ⟨R.grow n, no, own, hσ, ⟨N.sm, by rw [upd_ne (ne _ _ N.hh)]; exact N.fa, N.ha, by rw [upd_ne (ne _ _ N.hh)]; exact N.hh, N.kn, N.len, N.cn, fun e he => ?_, fun e he => ?_, fun e he => ?_, fun e he => ?_⟩⟩, s, .tup upd_same (.cons ((d1.same e).same s) (.cons ((d2.same e).same s) .nil))⟩
    · obtain ⟨a1, a2, a3, a4⟩ := N.ent e he
      exact ⟨a1, a2, a3, a4.same s⟩
    · rw [upd_ne (ne _ _ (N.hc e he))]; exact N.fc e he
    · rw [upd_ne (ne _ _ (N.hc e he))]; exact N.hc e he
    · exact ⟨(N.inn e he).1.same s, (N.inn e he).2⟩
def stepN (f : Rho → Option Fl) (ix kx hx : Nat) (ρ : Rho) (zs : List D) : Option (Rho × List D) := match f (ρ.set ix .no) with
  | some (.nx ρ2) => if ρ2.all okSl = true ∧ ix < ρ2.length ∧ zs.length < sizeLine then match ((ρ2.map wipS).set ix .no)[kx]?, ((ρ2.map wipS).set ix .no)[hx]? with
    | some (.v kd), some (.v hd) => (nkeyX kd).bind fun nk => (nkeyX hd).bind fun hk => (innX zs nk).bind fun ws => if ws.length < sizeLine then some ((ρ2.map wipS).set ix .no, npX zs nk kd (ndD (npX ws hk hd (.bool true)))) else none
    | _, _ => none
    else none
  | _ => none
def forN (g : Tg) (f : Rho → Option Fl) (ix kx hx : Nat) : List D → Rho → List D → Option (Rho × List D)
  | [], ρ, zs => some (ρ, zs)
  | p :: ps, ρ, zs => (g p ρ).bind fun ρ1 => (stepN f ix kx hx ρ1 zs).bind fun r => forN g f ix kx hx ps r.1 r.2
def sForN (g : Tg) (u : Rho → Option (List D)) (f : Rho → Option Fl) (ix kx hx : Nat) : Rho → Option Fl := fun ρ => match ρ[ix]? with
  | some (.rw (some (.x []))) => (u ρ).bind fun ps => (forN g f ix kx hx ps ((ρ.map wipS).set ix .no) []).map fun r => .nx (r.1.set ix (.rw (some (.x r.2))))
  | _ => none
section
variable {X : Cx} {tg iter : Expr} {S1 S2 S3 : Stmt} {g : Tg} {is : List Nat} {u : Rho → Option (List D)} {f1 f2 f3 : Rho → Option Fl} {ix kx hx : Nat} {xd xk xh : Str} {j : Nat} {pd1 pk1 ps1 pd pk pe apos cpos pos4 pd2 pk2 ps2 ph2 ps3 pc pos5 pos : Pos}
theorem sf_forNest (hu : Rm X) (hp : PassesOwn (model X.prog X.w) X.A X.env X.xe) (hc : X.calm = true) (hi : IF X tg iter u) (hg : GW X tg g is) (h1 : SF X S1 f1) (h2 : SF X S2 f2) (h3 : SF X S3 f3)
    (hN : X.N[ix]? = some xd) (hv : Vis X.env.scope xd) (hNk : X.N[kx]? = some xk) (hvk : Vis X.env.scope xk) (hNh : X.N[hx]? = some xh) (hvh : Vis X.env.scope xh)
    (hInd : ∀ (ρ : Rho) (s : Sl) (ρ2 : Rho), sSeq f1 (sSeq f2 f3) (ρ.set ix .no) = some (.nx ρ2) → sSeq f1 (sSeq f2 f3) (ρ.set ix s) = some (.nx (ρ2.set ix s)))
    (hix : ix ∉ is) (hgo : ∀ p ρ ρ', g p ρ = some ρ' → ∀ (j : Nat) (s : Sl), ρ'[j]? = some s → s.owns = false ∨ ρ[j]? = some s)
    (hm : M2 X (.Name xd pd) "get" apos (.Name xk pk) (.Dict [] [] pe) cpos) (hs4 : swapsWith (.Call (.Attribute (.Name xd pd) "get" apos) [.Name xk pk, .Dict [] [] pe] [] cpos) (some (.Subscript (.Name xd pd1) (.Name xk pk1) ps1)) pos4.line X.env = pure false := by rfl)
    (hs5 : swapsWith (.Constant (.bool true) j pc) (some (.Subscript (.Subscript (.Name xd pd2) (.Name xk pk2) ps2) (.Name xh ph2) ps3)) pos5.line X.env = pure false := by rfl) (hsl : NoSl (.Name xk pk2) := by rfl)
    (d1 : (xd == ("__debug__" : Str)) = false := by decide) (d2 : (xd == ("__classdict__" : Str)) = false := by decide) (d3 : (xk == ("__debug__" : Str)) = false := by decide) (d4 : (xk == ("__classdict__" : Str)) = false := by decide) (d5 : (xh == ("__debug__" : Str)) = false := by decide) (d6 : (xh == ("__classdict__" : Str)) = false := by decide)
    (hs : ∀ x, foldedSetIterable iter X.env x = pure x := by intro _; rfl) :
    SF X (.For tg iter [S1, S2, S3, .Assign [.Subscript (.Name xd pd1) (.Name xk pk1) ps1] (.Call (.Attribute (.Name xd pd) "get" apos) [.Name xk pk, .Dict [] [] pe] [] cpos) pos4,
      .Assign [.Subscript (.Subscript (.Name xd pd2) (.Name xk pk2) ps2) (.Name xh ph2) ps3] (.Constant (.bool true) j pc) pos5] [] pos) (sForN g u (sSeq f1 (sSeq f2 f3)) ix kx hx) := by
  have p4 := ps_nput (pos := pos4) hu (pe_var (pos := pd1) hN hv d1 d2) (pe_var (pos := pk1) hNk hvk d3 d4) (pe_nget2 hu (pe_var (pos := pd) hN hv d1 d2) (pe_var (pos := pk) hNk hvk d3 d4) (pe_emptyN (X := X) (pos := pe)) hm) hs4
  have p5 := ps_nput (pos := pos5) hu (pe_nget (pos := ps2) hu (pe_var (pos := pd2) hN hv d1 d2) (pe_var (pos := pk2) hNk hvk d3 d4) hsl) (pe_var (pos := ph2) hNh hvh d5 d6) (pe_bl (X := X) (b := true) (j := j) (pos := pc)) hs5
  have hb := pss_locked (pss_sq2 h1 (pss_sq2 h2 (pss_sq1 h3 (pss_unlocked (pss_cons p4 (pss_one p5))))))
  refine ⟨fW_mono, (ps_lockEnd (ps_for (pos := pos) hp hc hi.pi hg hb hs)).imp fun En σ H ⟨B, F, ρ, R, fl, e, k⟩ => ?_⟩
  unfold sForN at e
  split at e
  case h_2 => cases e
  rename_i hx0
  obtain ⟨us, eu, e⟩ := Option.bind_eq_some_iff.mp e
  obtain ⟨⟨ρe, zse⟩, eN, rfl⟩ := Option.map_eq_some_iff.mp e
  refine ⟨B, F, ρ, R, us, eu, fun F1 H1 J R1 s1 hz wk => ?_⟩
  obtain ⟨a, L, hσ, fa, ha, sm, hH, dn, _, _⟩ := R1.xAt hx0
  have hL : L = [] := by cases dn; rfl
  subst hL
  have hlx : ix < ρ.length := (List.getElem?_eq_some_iff.mp hx0).1
  have J0 : NJ X.K B F1 H1 σ ((ρ.map wipS).set ix .no) ix a [] := ⟨R1.forget ix, List.getElem?_set_self (by rw [List.length_map]; exact hlx), forget_own, hσ, ⟨sm, fa, ha, hH, List.nodup_nil, Nat.zero_le _, List.nodup_cons.mpr ⟨by simp, List.nodup_nil⟩, fun _ h => (by cases h), fun _ h => (by cases h), fun _ h => (by cases h), fun _ h => (by cases h)⟩⟩
  refine ⟨fun i m σ H => m = us.length - i ∧ i ≤ us.length ∧ ∃ F2 ρ2 es, NJ X.K B F2 H σ ρ2 ix a es ∧ Same F1 F2 ∧ forN g (sSeq f1 (sSeq f2 f3)) ix kx hx (us.drop i) ρ2 (nzs es) = some (ρe, zse), ⟨us.length, by simp, Nat.zero_le _, F1, _, [], J0, Same.refl _, eN⟩, ?_⟩
  rintro i m σ2 H2 ⟨rfl, hi2, F2, ρ2, es, J2, s2, q2⟩
  have sH : Same F1 H2 := s2.trans J2.R.sub
  by_cases hlt : i < us.length
  · refine .inr ⟨wk.go i H2 hlt sH, fun σ' H' => ∃ F3 ρ3 es3, NJ X.K B F3 H' σ' ρ3 ix a es3 ∧ Same F1 F3 ∧ forN g (sSeq f1 (sSeq f2 f3)) ix kx hx (us.drop (i + 1)) ρ3 (nzs es3) = some (ρe, zse), fun σ' H' n => ⟨us.length - (i + 1), by omega, rfl, hlt, n⟩, fun x H' hy => ?_⟩
    obtain ⟨p, hp', y⟩ := wk.yld i H2 x H' hlt sH hy
    have e0 : us.drop i = p :: us.drop (i + 1) := by
      rw [List.drop_eq_getElem_cons hlt]
      obtain ⟨_, e⟩ := List.getElem?_eq_some_iff.mp hp'
      rw [e]
    rw [e0] at q2
    unfold forN at q2
    obtain ⟨ρ', eg, q2⟩ := Option.bind_eq_some_iff.mp q2
    obtain ⟨⟨ρn, zn⟩, es1, q2⟩ := Option.bind_eq_some_iff.mp q2
    obtain ⟨F3, J3, s3, d3⟩ := J2.yl s2 y
    refine ⟨B, F3, ρ2, p, ρ', J3.R, d3, eg, fun σ' R4 _ hσ4 hρ4 => ?_⟩
    have J4 : NJ X.K B F3 H' σ' ρ' ix a es := ⟨R4, (hρ4 ix hix).trans J3.no, fun j s hs => (hgo p ρ2 ρ' eg j s hs).elim id fun h => J3.own j s h, (hσ4 ix hix).trans J3.hσ, J3.N⟩
    unfold stepN at es1
    split at es1
    case h_2 => cases es1
    rename_i ρ3 ef
    split at es1
    case isFalse => cases es1
    rename_i hok
    obtain ⟨ok1, ok2, ok3⟩ := hok
    split at es1
    case h_2 => cases es1
    rename_i kd hd ek eh
    obtain ⟨nk, n1, es1⟩ := Option.bind_eq_some_iff.mp es1
    obtain ⟨hk, n2, es1⟩ := Option.bind_eq_some_iff.mp es1
    obtain ⟨ws, n3, es1⟩ := Option.bind_eq_some_iff.mp es1
    split at es1
    case isFalse => cases es1
    rename_i hwl
    cases es1
    have cn := (List.nodup_cons.mp J4.N.cn).2
    refine ⟨es.map (·.c), lfOf es, cn, fun c hc => ?_, fun od hn => ⟨_, _, _, ρ3.set ix _, J4.lockR od, hInd _ _ _ ef, fun F5 H5 σ5 R5 s5 => ?_⟩⟩
    · obtain ⟨e, he, rfl⟩ := List.mem_map.mp hc
      rw [lf_of cn he]; exact J4.N.hc e he
    obtain ⟨hH5, sF5, J5⟩ := J4.unlockR od ok2 (fun j s hs => List.all_eq_true.mp ok1 s (List.mem_of_getElem? hs)) R5 s5
    refine ⟨es.map (·.c), fun b => DictNO b (lfOf es b), od, cn, hH5, hn, ?_⟩
    refine J5.put ek eh n1 n2 n3 (by unfold nzs at ok3; rw [List.length_map] at ok3; exact ok3) hwl fun H6 es6 J6 hz6 => ⟨_, _, es6, J6, (s2.trans s3).trans sF5, ?_⟩
    rw [hz6]; exact q2
  · have e : i = us.length := by omega
    subst e
    rw [List.drop_length] at q2
    unfold forN at q2
    cases q2
    refine .inl ⟨wk.stop H2 sH, es.map (·.c), lfOf es, (List.nodup_cons.mp J2.N.cn).2, fun c hc => ?_, fun od => ?_⟩
    · obtain ⟨e, he, rfl⟩ := List.mem_map.mp hc
      rw [lf_of (List.nodup_cons.mp J2.N.cn).2 he]; exact J2.N.hc e he
    · obtain ⟨s9, R9⟩ := J2.toOwn od
      exact k _ _ _ R9 ((s1.trans s2).trans s9)
end
end L2.P


set_option Elab.async false
set_option linter.all false
set_option maxRecDepth 100000
set_option maxHeartbeats 4000000
namespace L2.P
open PySem PySem.Spec PyProof.Rows L2
def IndE {α : Type} (i : Nat) (f : Rho → α) : Prop := ∀ ρ s, f (ρ.set i s) = f ρ
def setF (i : Nat) (s : Sl) : Fl → Fl
  | .nx ρ => .nx (ρ.set i s)
  | .rt v => .rt v
  | .bk ρ => .bk (ρ.set i s)
  | .ct ρ => .ct (ρ.set i s)
def IndS (i : Nat) (f : Rho → Option Fl) : Prop := ∀ ρ s, f (ρ.set i s) = (f ρ).map (setF i s)
theorem set_two {α : Type} (l : List α) (i : Nat) (a b : α) : (l.set i a).set i b = l.set i b := by simp
theorem IndS.ind {i : Nat} {f : Rho → Option Fl} (h : IndS i f) : ∀ (ρ : Rho) (s : Sl) (ρ2 : Rho), f (ρ.set i .no) = some (.nx ρ2) → f (ρ.set i s) = some (.nx (ρ2.set i s)) := fun ρ s ρ2 e => by
  rw [h] at e ⊢
  obtain ⟨fl, e1, e2⟩ := Option.map_eq_some_iff.mp e
  rw [e1]
  cases fl with
  | nx ρ0 => cases e2; show some (Fl.nx (ρ0.set i s)) = _; rw [set_two]
  | rt v => cases e2
  | bk ρ0 => cases e2
  | ct ρ0 => cases e2
section
variable {i j : Nat} {A B : Rho → Option D} {C : Rho → Option (List D)} {o : G2} {f g : Rho → Option Fl} {t : Rho → Option Bool} {U V : Rho → Option (List Pv)}
theorem ie_gV (h : j ≠ i) : IndE i (gV j) := fun ρ s => by unfold gV; rw [List.getElem?_set_ne (Ne.symm h)]
theorem ie_gX (h : j ≠ i) : IndE i (gX j) := fun ρ s => by unfold gX; rw [List.getElem?_set_ne (Ne.symm h)]
theorem ie_gC {p : D} : IndE i (gC p) := fun _ _ => rfl
theorem ie_b2 (ha : IndE i A) (hb : IndE i B) : IndE i (b2 o A B) := fun ρ s => by unfold b2; rw [ha ρ s, hb ρ s]
theorem ie_aNil : IndE i aNil := fun _ _ => rfl
theorem ie_aCons (ha : IndE i A) (hc : IndE i C) : IndE i (aCons A C) := fun ρ s => by unfold aCons; rw [ha ρ s, hc ρ s]
theorem ie_aOf {α : Type} {G : List D → Option α} (hc : IndE i C) : IndE i (aOf G C) := fun ρ s => by unfold aOf; rw [hc ρ s]
theorem ie_vTup (hc : IndE i C) : IndE i (vTup C) := fun ρ s => by unfold vTup; rw [hc ρ s]
theorem ie_bB (ha : IndE i A) : IndE i (bB A) := fun ρ s => by unfold bB; rw [ha ρ s]
theorem ie_vIf (ht : IndE i t) (ha : IndE i A) (hb : IndE i B) : IndE i (vIf t A B) := fun ρ s => by unfold vIf; rw [ht ρ s, ha ρ s, hb ρ s]
theorem ie_items (ha : IndE i A) : IndE i (fItems A) := fun ρ s => by unfold fItems; rw [ha ρ s]
theorem ie_pNil : IndE i pNil := fun _ _ => rfl
theorem ie_pF (ha : IndE i A) (hu : IndE i U) : IndE i (pF A U) := fun ρ s => by unfold pF; rw [ha ρ s, hu ρ s]
theorem ie_pO (hc : IndE i C) (hu : IndE i U) : IndE i (pO C U) := fun ρ s => by unfold pO; rw [hc ρ s, hu ρ s]
theorem is_seq (hf : IndS i f) (hg : IndS i g) : IndS i (sSeq f g) := fun ρ s => by
  unfold sSeq
  rw [hf ρ s]
  cases e : f ρ with
  | none => rfl
  | some fl =>
    cases fl with
    | nx ρ1 => exact hg ρ1 s
    | rt v => rfl
    | bk ρ1 => rfl
    | ct ρ1 => rfl
theorem is_set (h : j ≠ i) (ha : IndE i A) : IndS i (sSet j A) := fun ρ s => by
  unfold sSet
  rw [ha ρ s, Option.map_map]
  congr 1
  funext p
  show Fl.nx ((ρ.set i s).set j (.v p)) = Fl.nx ((ρ.set j (.v p)).set i s)
  rw [List.set_comm _ _ (Ne.symm h)]
theorem puts_comm {s : Sl} : ∀ (is : List Nat) (ps : List Pv) (ρ : Rho), (∀ k ∈ is, k ≠ i) → putsR (ρ.set i s) is ps = (putsR ρ is ps).set i s
  | [], _, _, _ => rfl
  | _ :: _, [], _, _ => rfl
  | k :: is, p :: ps, ρ, h => by
    show putsR ((ρ.set i s).set k p.sl) is ps = (putsR (ρ.set k p.sl) is ps).set i s
    rw [List.set_comm _ _ (Ne.symm (h k List.mem_cons_self))]
    exact puts_comm is ps _ fun m hm => h m (List.mem_cons_of_mem _ hm)
theorem is_puts {is : List Nat} {n : Nat} (h : ∀ k ∈ is, k ≠ i) (hu : IndE i U) : IndS i (sPuts is n U) := fun ρ s => by
  unfold sPuts
  rw [hu ρ s]
  cases U ρ with
  | none => rfl
  | some ps =>
    show (if ps.length = n then _ else _) = Option.map _ (if ps.length = n then _ else _)
    split
    · rw [puts_comm is ps ρ h]; rfl
    · rfl
theorem is_app (h : j ≠ i) (ha : IndE i A) : IndS i (sApp j A) := fun ρ s => by
  unfold sApp
  rw [List.getElem?_set_ne (Ne.symm h), ha ρ s]
  generalize ρ[j]? = x
  cases x with
  | none => rfl
  | some x =>
    cases x with
    | ol ps =>
      cases A ρ with
      | none => rfl
      | some p =>
        show (if ps.length < sizeLine then _ else _) = Option.map _ (if ps.length < sizeLine then _ else _)
        split
        · show some (Fl.nx ((ρ.set i s).set j _)) = some (Fl.nx ((ρ.set j _).set i s))
          rw [List.set_comm _ _ (Ne.symm h)]
        · rfl
    | no => rfl
    | v p => rfl
    | rw m => rfl
    | od t kvs => rfl
theorem is_forF (h : j ≠ i) (hf : IndS i f) (s : Sl) : ∀ (ps : List D) (ρ : Rho), forF (tgN j) f ps (ρ.set i s) = (forF (tgN j) f ps ρ).map (setF i s)
  | [], ρ => rfl
  | p :: ps, ρ => by
    unfold forF
    show (some ((ρ.set i s).set j (.v p))).bind _ = Option.map _ ((some (ρ.set j (.v p))).bind _)
    rw [Option.bind_some, Option.bind_some, List.set_comm _ _ (Ne.symm h), hf]
    cases f (ρ.set j (.v p)) with
    | none => rfl
    | some fl =>
      cases fl with
      | nx ρ1 => exact is_forF h hf s ps ρ1
      | rt v => rfl
      | bk ρ1 => rfl
      | ct ρ1 => exact is_forF h hf s ps ρ1
theorem is_for (h : j ≠ i) (hc : IndE i C) (hf : IndS i f) : IndS i (sFor (tgN j) C f) := fun ρ s => by
  unfold sFor
  rw [hc ρ s]
  cases C ρ with
  | none => rfl
  | some ps => exact is_forF h hf s ps ρ
theorem tgN_own : ∀ (p : D) (ρ ρ' : Rho), tgN j p ρ = some ρ' → ∀ (k : Nat) (s : Sl), ρ'[k]? = some s → s.owns = false ∨ ρ[k]? = some s := fun p ρ ρ' e k s hs => by
  cases e
  rcases set_some hs with ⟨_, _, rfl⟩ | ⟨_, hs⟩
  · exact .inl rfl
  · exact .inr hs
end
end L2.P


set_option Elab.async false
set_option linter.all false
set_option maxRecDepth 100000
set_option maxHeartbeats 4000000
namespace L2.P
open PySem PySem.Spec PyProof.Rows L2 LamX
theorem MkT.tmq {K : Fg} {mg : Str → Option Value} {base : Heap} {q x : Str} (mt : MkT K mg base x) (h : lamQ q = lamQ x) : (He.tabOf K (He.codeOf K (x, none)), lamQ q) ∈ tbT K := by rw [h]; exact mt.tm
theorem MkT.tuq {K : Fg} {mg : Str → Option Value} {base : Heap} {q x : Str} (mt : MkT K mg base x) (h : lamQ q = lamQ x) : ∀ p ∈ tbT K, p.1 = He.tabOf K (He.codeOf K (x, none)) → p.2 = lamQ q := by rw [h]; exact mt.tu
theorem lamQ_0 : lamQ "law0" = lamQ "law" := by decide +kernel
theorem lamQ_1 : lamQ "law1" = lamQ "law" := by decide +kernel
theorem lamQ_2 : lamQ "law2" = lamQ "law" := by decide +kernel
theorem lamQ_law : ("law" ++ ".<locals>." ++ "<lambda>" : Str) = lamQ "law" := by decide +kernel
end L2.P


set_option Elab.async false
set_option linter.all false
set_option maxRecDepth 100000
set_option maxHeartbeats 4000000
namespace W
open PySem PySem.Spec PyProof.Rows L2 L2.P
def topS (i : Nat) : Stmt := PySem.Challenge.pw_tallsits_k26_whole_unsure_people.main.body.getD i (.Pass ⟨0, 0, 0, 0⟩)
noncomputable section
variable {P : Program} {w : World} {K : PySem.W.Frag} {mg : Str → Option Value} {base : Heap} {S C : Addr}
def B_is_integer : Rho → Option Fl := (sRet (vAnd (vIsi "int" (gX 0)) (vNot (vIsi "bool" (gX 0)))))
def g_is_integer : GA := runF 1 B_is_integer

abbrev s_is_integer : Stmt := topS 1
theorem sc_is_integer : FnScope ["value"] ["value"] (defScope s_is_integer) := ⟨rfl, rfl, rfl, by decide +kernel, rfl, by decide +kernel, by decide +kernel⟩
theorem ok_is_integer (bi : Bi mg) (Fd : ∃ f fd, FunD K "is_integer" "is_integer" (defArgs s_is_integer) (defBody s_is_integer) (defScope s_is_integer) [] [] f fd ∧ mg "is_integer" = some (.ref f)) : DG P w K mg base "is_integer" 1 1 g_is_integer := by
  obtain ⟨f, fd, Fd, m⟩ := Fd
  refine ⟨f, fd, ["value"], fn_pureF (k := 0) (N := ["value"]) (g := B_is_integer) Fd sc_is_integer rfl (by decide) (fun cdv A outer s H E hr => ?_), m, Fd.kp, Fd.bindsN fun _ _ _ _ _ _ us hl => match us, hl with | [_], _ => by kernel_rfl⟩
  have rm := rm_of (X := (cxOf CX0 P w K mg base ["value"] "is_integer" (defScope s_is_integer) f cdv A outer s H E).nox) hr
  have nd := sc_is_integer.nd
  exact (sws_one (sf_ret (ef_and (ef_isi (T := "int") (xv 0) rfl bi.isinstance rfl bi.int bt_int (hv := bt_isi)) (ef_one (ef_not (ef_isi (T := "bool") (xv 0) rfl bi.isinstance rfl bi.bool bt_bool (hv := bt_isi)))))))

def B_is_in : Rho → Option Fl := (sRet (vAnd (aOf g_is_integer (aCons (gV 0) aNil)) (b3 dLe dLe (gX 1) (gX 0) (gX 2))))
def g_is_in : GA := runF 3 B_is_in

abbrev s_is_in : Stmt := topS 2
theorem sc_is_in : FnScope ["value", "least", "most"] ["value", "least", "most"] (defScope s_is_in) := ⟨rfl, rfl, rfl, by decide +kernel, rfl, by decide +kernel, by decide +kernel⟩
theorem ok_is_in (bi : Bi mg) (c_is_integer : DG P w K mg base "is_integer" 1 1 g_is_integer) (Fd : ∃ f fd, FunD K "is_in" "is_in" (defArgs s_is_in) (defBody s_is_in) (defScope s_is_in) [] [] f fd ∧ mg "is_in" = some (.ref f)) : DG P w K mg base "is_in" 2 3 g_is_in := by
  obtain ⟨f, fd, Fd, m⟩ := Fd
  refine ⟨f, fd, ["value", "least", "most"], fn_pureF (k := 1) (N := ["value", "least", "most"]) (g := B_is_in) Fd sc_is_in rfl (by decide) (fun cdv A outer s H E hr => ?_), m, Fd.kp, Fd.bindsN fun _ _ _ _ _ _ us hl => match us, hl with | [_, _, _], _ => by kernel_rfl⟩
  have rm := rm_of (X := (cxOf CX0 P w K mg base ["value", "least", "most"] "is_in" (defScope s_is_in) f cdv A outer s H E).nox) hr
  have nd := sc_is_in.nd
  exact (sws_one (sf_ret (ef_and (ef_call (c_is_integer.cal hr) (ea_cons (ev 0) ea_nil) (lenA_cons lenA_nil) rfl) (ef_one (ef_chain og_le og_le (xv 1) (xv 0) (xv 2))))))

def B_is_list : Rho → Option Fl := (sRet (vAnd (vIsi "tuple" (gX 0)) (b3 dLe dLe (gX 1) (aOf gLen (aCons (gX 0) aNil)) (gX 2))))
def g_is_list : GA := runF 3 B_is_list

abbrev s_is_list : Stmt := topS 3
theorem sc_is_list : FnScope ["value", "least", "most"] ["value", "least", "most"] (defScope s_is_list) := ⟨rfl, rfl, rfl, by decide +kernel, rfl, by decide +kernel, by decide +kernel⟩
theorem ok_is_list (bi : Bi mg) (Fd : ∃ f fd, FunD K "is_list" "is_list" (defArgs s_is_list) (defBody s_is_list) (defScope s_is_list) [] [] f fd ∧ mg "is_list" = some (.ref f)) : DG P w K mg base "is_list" 1 3 g_is_list := by
  obtain ⟨f, fd, Fd, m⟩ := Fd
  refine ⟨f, fd, ["value", "least", "most"], fn_pureF (k := 0) (N := ["value", "least", "most"]) (g := B_is_list) Fd sc_is_list rfl (by decide) (fun cdv A outer s H E hr => ?_), m, Fd.kp, Fd.bindsN fun _ _ _ _ _ _ us hl => match us, hl with | [_, _, _], _ => by kernel_rfl⟩
  have rm := rm_of (X := (cxOf CX0 P w K mg base ["value", "least", "most"] "is_list" (defScope s_is_list) f cdv A outer s H E).nox) hr
  have nd := sc_is_list.nd
  exact (sws_one (sf_ret (ef_and (ef_isi (T := "tuple") (xv 0) rfl bi.isinstance rfl bi.tuple bt_tuple (hv := bt_isi)) (ef_one (ef_chain og_le og_le (xv 1) (EW.x (c_len bi (xa_cons (xv 0) xa_nil))) (xv 2))))))

def B_need_web : Rho → Option Fl := (sSeq (sIf (bNot (bB (aOf g_is_list (aCons (gV 0) (aCons (gC (.int 1)) (aCons (gC (.int 7)) aNil)))))) sNever sNil)
  (sSeq (sSet 1 (aOf gLen (aCons (gX 0) aNil)))
  (sSeq (sFor (tg2 2 3) (fEnum (gV 0)) (sSeq (sIf (bOr (bNot (bB (aOf g_is_list (aCons (gV 3) (aCons (gC (.int 0)) (aCons (b2 dSub (gX 1) (gC (.int 1))) aNil)))))) (bNot (bB (aOf gAll (aCons (fun ρ => ((cLc [4] (tgN 4) fYes (aOf g_is_in (aCons (gV 4) (aCons (gC (.int 0)) (aCons (b2 dSub (gX 1) (gC (.int 1))) aNil)))) (fItems (gV 3))) ρ).map PyData.list) aNil))))) sNever sNil)
  (sIf (bOr (bB (b2 dNe (fun ρ => ((aOf gLst (aCons (gX 3) aNil)) ρ).map PyData.list) (fun ρ => ((nSortSet (gX 3)) ρ).map PyData.list))) (bB (b2 dIn (gX 2) (gX 3)))) sNever sNil)))
  (sFor (tg2 2 3) (fEnum (gV 0)) (sIf (bB (aOf gAny (aCons (fun ρ => ((cLc [4] (tgN 4) fYes (b2 dNotIn (gX 2) (b2 dIx (gX 0) (gX 4))) (fItems (gV 3))) ρ).map PyData.list) aNil))) sNever sNil)))))
def g_need_web : GA := runF 5 B_need_web

abbrev s_need_web : Stmt := topS 12
theorem sc_need_web : FnScope ["web", "people", "index", "friends", "other"] ["web"] (defScope s_need_web) := ⟨rfl, rfl, rfl, by decide +kernel, rfl, by decide +kernel, by decide +kernel⟩
theorem ok_need_web (bi : Bi mg) (k_MOST_PEOPLE : ∃ t, mg "MOST_PEOPLE" = some (.int 7 t)) (c_is_list : DG P w K mg base "is_list" 1 3 g_is_list) (c_is_in : DG P w K mg base "is_in" 2 3 g_is_in) (Fd : ∃ f fd, FunD K "need_web" "need_web" (defArgs s_need_web) (defBody s_need_web) (defScope s_need_web) [] [] f fd ∧ mg "need_web" = some (.ref f)) : DG P w K mg base "need_web" 3 1 g_need_web := by
  obtain ⟨f, fd, Fd, m⟩ := Fd
  refine ⟨f, fd, ["web"], fn_pureF (k := 2) (N := ["web", "people", "index", "friends", "other"]) (g := B_need_web) Fd sc_need_web rfl (by decide) (fun cdv A outer s H E hr => ?_), m, Fd.kp, Fd.bindsN fun _ _ _ _ _ _ us hl => match us, hl with | [_], _ => by kernel_rfl⟩
  have rm := rm_of (X := (cxOf CX0 P w K mg base ["web", "people", "index", "friends", "other"] "need_web" (defScope s_need_web) f cdv A outer s H E).nox) hr
  have nd := sc_need_web.nd
  exact (sfs_cons (sf_if (tf_not (tf_val (ef_call (c_is_list.cal hr) (ea_cons (ev 0) (ea_cons ef_int (ea_cons (ef_gint k_MOST_PEOPLE) ea_nil))) (lenA_cons (lenA_cons (lenA_cons lenA_nil))) rfl))) (sws_one sf_never) sfs_nil)
    (sfs_cons (sf_set (i := 1) nd rfl (by first | exact Or.inl rfl | exact Or.inr rfl) (c_len bi (xa_cons (xv 0) xa_nil)))
    (sfs_cons (sf_for PassesOwn.never rfl (if_enum bi (ev 0)) (gw_two (i := 2) (j := 3) rfl nd rfl (by first | exact Or.inl rfl | exact Or.inr rfl) rfl (by first | exact Or.inl rfl | exact Or.inr rfl)) (sfs_cons (sf_if (TWW.t (tf_or (tf_not (tf_val (ef_call (c_is_list.cal hr) (ea_cons (ev 3) (ea_cons ef_int (ea_cons (ef_bin og_sub (xv 1) (EW.x ef_int)) ea_nil))) (lenA_cons (lenA_cons (lenA_cons lenA_nil))) rfl))) (tf_or1 (tf_not (tf_val (c_all bi (xa_cons (EW.x (NF.e (NW.lc (nw_lc (own := [("other", 4)]) (g := (tgN 4)) (T := fW fYes) (E := fW (aOf g_is_in (aCons (gV 4) (aCons (gC (.int 0)) (aCons (b2 dSub (gX 1) (gC (.int 1))) aNil))))) rfl nd (if_seq (ev 3)) (blkOk_by (own := [("other", 4)]) (by kernel_rfl)) (fun _ _ _ _ _ => (gw_sub (gw_name (i := 4) nd rfl (by first | exact Or.inl rfl | exact Or.inr rfl)))) (fun _ _ _ _ _ => ts_nil) (fun _ _ _ _ _ => (ef_call (c_is_in.cal hr) (ea_cons (ev 4) (ea_cons ef_int (ea_cons (ef_bin og_sub (xv 1) (EW.x ef_int)) ea_nil))) (lenA_cons (lenA_cons (lenA_cons lenA_nil))) rfl)) s)))) xa_nil))))))) (sws_one sf_never) sfs_nil)
    (sws_one (sf_if (TWW.t (tf_or (tf_cmp (og_ne rm) (EW.x (NF.e (n_list bi (xa_cons (xv 3) xa_nil)))) (EW.x (NF.e (n_sortSet bi (xv 3)))) (nomark _)) (tf_or1 (tf_cmp (og_in rm) (xv 2) (xv 3) (by rfl))))) (sws_one sf_never) sfs_nil))))
    (sws_one (sf_for PassesOwn.never rfl (if_enum bi (ev 0)) (gw_two (i := 2) (j := 3) rfl nd rfl (by first | exact Or.inl rfl | exact Or.inr rfl) rfl (by first | exact Or.inl rfl | exact Or.inr rfl)) (sws_one (sf_if (tf_val (c_any bi (xa_cons (EW.x (NF.e (NW.lc (nw_lc (own := [("other", 4)]) (g := (tgN 4)) (T := fW fYes) (E := fW (b2 dNotIn (gX 2) (b2 dIx (gX 0) (gX 4)))) rfl nd (if_seq (ev 3)) (blkOk_by (own := [("other", 4)]) (by kernel_rfl)) (fun _ _ _ _ _ => (gw_sub (gw_name (i := 4) nd rfl (by first | exact Or.inl rfl | exact Or.inr rfl)))) (fun _ _ _ _ _ => ts_nil) (fun _ _ _ _ _ => (ef_cmp (og_notIn rm) (xv 2) (EW.x (ef_ix (xv 0) (xv 4))) (by rfl))) s)))) xa_nil))) (sws_one sf_never) sfs_nil)))))))

def B_is_set : Rho → Option Fl := (sSeq (sSet 2 (aOf gLen (aCons (gX 0) aNil)))
  (sSeq (sIf (bOr (bNot (bB (aOf g_is_list (aCons (gV 1) (aCons (gC (.int 0)) (aCons (gV 2) aNil)))))) (bNot (bB (aOf gAll (aCons (fun ρ => ((cLc [3] (tgN 3) fYes (aOf g_is_in (aCons (gV 3) (aCons (gC (.int 0)) (aCons (b2 dSub (gX 2) (gC (.int 1))) aNil)))) (fItems (gV 1))) ρ).map PyData.list) aNil))))) (sRet (gC (.bool false))) sNil)
  (sRet (b2 dEq (fun ρ => ((aOf gLst (aCons (gX 1) aNil)) ρ).map PyData.list) (fun ρ => ((nSortSet (gX 1)) ρ).map PyData.list)))))
def g_is_set : GA := runF 4 B_is_set

abbrev s_is_set : Stmt := topS 13
theorem sc_is_set : FnScope ["web", "people", "many", "person"] ["web", "people"] (defScope s_is_set) := ⟨rfl, rfl, rfl, by decide +kernel, rfl, by decide +kernel, by decide +kernel⟩
theorem ok_is_set (bi : Bi mg) (c_is_list : DG P w K mg base "is_list" 1 3 g_is_list) (c_is_in : DG P w K mg base "is_in" 2 3 g_is_in) (Fd : ∃ f fd, FunD K "is_set" "is_set" (defArgs s_is_set) (defBody s_is_set) (defScope s_is_set) [] [] f fd ∧ mg "is_set" = some (.ref f)) : DG P w K mg base "is_set" 3 2 g_is_set := by
  obtain ⟨f, fd, Fd, m⟩ := Fd
  refine ⟨f, fd, ["web", "people"], fn_pureF (k := 2) (N := ["web", "people", "many", "person"]) (g := B_is_set) Fd sc_is_set rfl (by decide) (fun cdv A outer s H E hr => ?_), m, Fd.kp, Fd.bindsN fun _ _ _ _ _ _ us hl => match us, hl with | [_, _], _ => by kernel_rfl⟩
  have rm := rm_of (X := (cxOf CX0 P w K mg base ["web", "people", "many", "person"] "is_set" (defScope s_is_set) f cdv A outer s H E).nox) hr
  have nd := sc_is_set.nd
  exact (sfs_cons (sf_set (i := 2) nd rfl (by first | exact Or.inl rfl | exact Or.inr rfl) (c_len bi (xa_cons (xv 0) xa_nil)))
    (sfs_cons (sf_if (TWW.t (tf_or (tf_not (tf_val (ef_call (c_is_list.cal hr) (ea_cons (ev 1) (ea_cons ef_int (ea_cons (ev 2) ea_nil))) (lenA_cons (lenA_cons (lenA_cons lenA_nil))) rfl))) (tf_or1 (tf_not (tf_val (c_all bi (xa_cons (EW.x (NF.e (NW.lc (nw_lc (own := [("person", 3)]) (g := (tgN 3)) (T := fW fYes) (E := fW (aOf g_is_in (aCons (gV 3) (aCons (gC (.int 0)) (aCons (b2 dSub (gX 2) (gC (.int 1))) aNil))))) rfl nd (if_seq (ev 1)) (blkOk_by (own := [("person", 3)]) (by kernel_rfl)) (fun _ _ _ _ _ => (gw_sub (gw_name (i := 3) nd rfl (by first | exact Or.inl rfl | exact Or.inr rfl)))) (fun _ _ _ _ _ => ts_nil) (fun _ _ _ _ _ => (ef_call (c_is_in.cal hr) (ea_cons (ev 3) (ea_cons ef_int (ea_cons (ef_bin og_sub (xv 2) (EW.x ef_int)) ea_nil))) (lenA_cons (lenA_cons (lenA_cons lenA_nil))) rfl)) s)))) xa_nil))))))) (sws_one (sf_ret ef_bl)) sfs_nil)
    (sws_one (sf_ret (ef_cmp (og_eq rm) (EW.x (NF.e (n_list bi (xa_cons (xv 1) xa_nil)))) (EW.x (NF.e (n_sortSet bi (xv 1)))) (nomark _))))))

def B_need_person : Rho → Option Fl := (sIf (bNot (bB (aOf g_is_in (aCons (gV 1) (aCons (gC (.int 0)) (aCons (b2 dSub (aOf gLen (aCons (gX 0) aNil)) (gC (.int 1))) aNil)))))) sNever sNil)
def g_need_person : GA := runF 2 B_need_person

abbrev s_need_person : Stmt := topS 14
theorem sc_need_person : FnScope ["web", "person"] ["web", "person"] (defScope s_need_person) := ⟨rfl, rfl, rfl, by decide +kernel, rfl, by decide +kernel, by decide +kernel⟩
theorem ok_need_person (bi : Bi mg) (c_is_in : DG P w K mg base "is_in" 2 3 g_is_in) (Fd : ∃ f fd, FunD K "need_person" "need_person" (defArgs s_need_person) (defBody s_need_person) (defScope s_need_person) [] [] f fd ∧ mg "need_person" = some (.ref f)) : DG P w K mg base "need_person" 3 2 g_need_person := by
  obtain ⟨f, fd, Fd, m⟩ := Fd
  refine ⟨f, fd, ["web", "person"], fn_pureF (k := 2) (N := ["web", "person"]) (g := B_need_person) Fd sc_need_person rfl (by decide) (fun cdv A outer s H E hr => ?_), m, Fd.kp, Fd.bindsN fun _ _ _ _ _ _ us hl => match us, hl with | [_, _], _ => by kernel_rfl⟩
  have rm := rm_of (X := (cxOf CX0 P w K mg base ["web", "person"] "need_person" (defScope s_need_person) f cdv A outer s H E).nox) hr
  have nd := sc_need_person.nd
  exact (sws_one (sf_if (tf_not (tf_val (ef_call (c_is_in.cal hr) (ea_cons (ev 1) (ea_cons ef_int (ea_cons (ef_bin og_sub (EW.x (c_len bi (xa_cons (xv 0) xa_nil))) (EW.x ef_int)) ea_nil))) (lenA_cons (lenA_cons (lenA_cons lenA_nil))) rfl))) (sws_one sf_never) sfs_nil))

def B_need_calls : Rho → Option Fl := (sSeq (sIf (bNot (bB (aOf g_is_list (aCons (gV 1) (aCons (gC (.int 0)) (aCons (gC (.int 60)) aNil)))))) sNever sNil)
  (sFor (tg2 2 3) (fEnum (gV 1)) (sIf (bNot (bB (aOf g_is_in (aCons (gV 3) (aCons (gC (.int 0)) (aCons (b2 dSub (aOf gLen (aCons (gX 0) aNil)) (gC (.int 1))) aNil)))))) sNever sNil)))
def g_need_calls : GA := runF 4 B_need_calls

abbrev s_need_calls : Stmt := topS 17
theorem sc_need_calls : FnScope ["web", "calls", "index", "person"] ["web", "calls"] (defScope s_need_calls) := ⟨rfl, rfl, rfl, by decide +kernel, rfl, by decide +kernel, by decide +kernel⟩
theorem ok_need_calls (bi : Bi mg) (k_MOST_CALLS : ∃ t, mg "MOST_CALLS" = some (.int 60 t)) (c_is_list : DG P w K mg base "is_list" 1 3 g_is_list) (c_is_in : DG P w K mg base "is_in" 2 3 g_is_in) (Fd : ∃ f fd, FunD K "need_calls" "need_calls" (defArgs s_need_calls) (defBody s_need_calls) (defScope s_need_calls) [] [] f fd ∧ mg "need_calls" = some (.ref f)) : DG P w K mg base "need_calls" 3 2 g_need_calls := by
  obtain ⟨f, fd, Fd, m⟩ := Fd
  refine ⟨f, fd, ["web", "calls"], fn_pureF (k := 2) (N := ["web", "calls", "index", "person"]) (g := B_need_calls) Fd sc_need_calls rfl (by decide) (fun cdv A outer s H E hr => ?_), m, Fd.kp, Fd.bindsN fun _ _ _ _ _ _ us hl => match us, hl with | [_, _], _ => by kernel_rfl⟩
  have rm := rm_of (X := (cxOf CX0 P w K mg base ["web", "calls", "index", "person"] "need_calls" (defScope s_need_calls) f cdv A outer s H E).nox) hr
  have nd := sc_need_calls.nd
  exact (sfs_cons (sf_if (tf_not (tf_val (ef_call (c_is_list.cal hr) (ea_cons (ev 1) (ea_cons ef_int (ea_cons (ef_gint k_MOST_CALLS) ea_nil))) (lenA_cons (lenA_cons (lenA_cons lenA_nil))) rfl))) (sws_one sf_never) sfs_nil)
    (sws_one (sf_for PassesOwn.never rfl (if_enum bi (ev 1)) (gw_two (i := 2) (j := 3) rfl nd rfl (by first | exact Or.inl rfl | exact Or.inr rfl) rfl (by first | exact Or.inl rfl | exact Or.inr rfl)) (sws_one (sf_if (tf_not (tf_val (ef_call (c_is_in.cal hr) (ea_cons (ev 3) (ea_cons ef_int (ea_cons (ef_bin og_sub (EW.x (c_len bi (xa_cons (xv 0) xa_nil))) (EW.x ef_int)) ea_nil))) (lenA_cons (lenA_cons (lenA_cons lenA_nil))) rfl))) (sws_one sf_never) sfs_nil)))))

def B_call_in : Rho → Option Fl := (sSeq (sIf (bB (b2 dNotIn (gX 2) (gX 1))) (sRet (gV 1)) sNil)
  (sRet (aOf gTup (aCons (fun ρ => ((cLc [3] (tgN 3) (bOr (bB (b2 dGe (gX 3) (gX 2))) (bB (b2 dNotIn (gX 3) (b2 dIx (gX 0) (gX 2))))) (gV 3) (fItems (gV 1))) ρ).map PyData.list) aNil))))
def g_call_in : GA := runF 4 B_call_in

abbrev s_call_in : Stmt := topS 18
theorem sc_call_in : FnScope ["web", "standing", "person", "other"] ["web", "standing", "person"] (defScope s_call_in) := ⟨rfl, rfl, rfl, by decide +kernel, rfl, by decide +kernel, by decide +kernel⟩
theorem ok_call_in (bi : Bi mg) (Fd : ∃ f fd, FunD K "call_in" "call_in" (defArgs s_call_in) (defBody s_call_in) (defScope s_call_in) [] [] f fd ∧ mg "call_in" = some (.ref f)) : DG P w K mg base "call_in" 1 3 g_call_in := by
  obtain ⟨f, fd, Fd, m⟩ := Fd
  refine ⟨f, fd, ["web", "standing", "person"], fn_pureF (k := 0) (N := ["web", "standing", "person", "other"]) (g := B_call_in) Fd sc_call_in rfl (by decide) (fun cdv A outer s H E hr => ?_), m, Fd.kp, Fd.bindsN fun _ _ _ _ _ _ us hl => match us, hl with | [_, _, _], _ => by kernel_rfl⟩
  have rm := rm_of (X := (cxOf CX0 P w K mg base ["web", "standing", "person", "other"] "call_in" (defScope s_call_in) f cdv A outer s H E).nox) hr
  have nd := sc_call_in.nd
  exact (sfs_cons (sf_if (tf_cmp (og_notIn rm) (xv 2) (xv 1) (by rfl)) (sws_one (sf_ret (ev 1))) sfs_nil)
    (sws_one (sf_ret (c_tuple bi (xa_cons (EW.x (NF.e (NW.lc (nw_lc (own := [("other", 3)]) (g := (tgN 3)) (T := fW (bOr (bB (b2 dGe (gX 3) (gX 2))) (bB (b2 dNotIn (gX 3) (b2 dIx (gX 0) (gX 2)))))) (E := fW (gV 3)) rfl nd (if_seq (ev 1)) (blkOk_by (own := [("other", 3)]) (by kernel_rfl)) (fun _ _ _ _ _ => (gw_sub (gw_name (i := 3) nd rfl (by first | exact Or.inl rfl | exact Or.inr rfl)))) (fun _ _ _ _ _ => (ts_one (TWW.t (tf_or (tf_cmp og_ge (xv 3) (xv 2) (nomark _)) (tf_or1 (tf_cmp (og_notIn rm) (xv 3) (EW.x (ef_ix (xv 0) (xv 2))) (by rfl))))))) (fun _ _ _ _ _ => (ev 3)) s)))) xa_nil)))))

def B_story_in : Rho → Option Fl := (sSeq (sSetO 3 (aCons (gV 1) aNil))
  (sSeq (sFor (tgN 4) (fItems (gV 2)) (sApp 3 (aOf g_call_in (aCons (gV 0) (aCons (b2 dIx (gX 3) (vNeg (gC (.int 1)))) (aCons (gV 4) aNil))))))
  (sRet (gX 3))))
def g_story_in : GA := runF 5 B_story_in

abbrev s_story_in : Stmt := topS 19
theorem sc_story_in : FnScope ["web", "standing", "calls", "found", "person"] ["web", "standing", "calls"] (defScope s_story_in) := ⟨rfl, rfl, rfl, by decide +kernel, rfl, by decide +kernel, by decide +kernel⟩
theorem ok_story_in (bi : Bi mg) (c_call_in : DG P w K mg base "call_in" 1 3 g_call_in) (Fd : ∃ f fd, FunD K "story_in" "story_in" (defArgs s_story_in) (defBody s_story_in) (defScope s_story_in) [] [] f fd ∧ mg "story_in" = some (.ref f)) : DG P w K mg base "story_in" 2 3 g_story_in := by
  obtain ⟨f, fd, Fd, m⟩ := Fd
  refine ⟨f, fd, ["web", "standing", "calls"], fn_pureF (k := 1) (N := ["web", "standing", "calls", "found", "person"]) (g := B_story_in) Fd sc_story_in rfl (by decide) (fun cdv A outer s H E hr => ?_), m, Fd.kp, Fd.bindsN fun _ _ _ _ _ _ us hl => match us, hl with | [_, _, _], _ => by kernel_rfl⟩
  have rm := rm_of (X := (cxOf CX0 P w K mg base ["web", "standing", "calls", "found", "person"] "story_in" (defScope s_story_in) f cdv A outer s H E).nox) hr
  have nd := sc_story_in.nd
  exact (sfs_cons (NSF.so (ns_set (i := 3) nd rfl (by first | exact Or.inl rfl | exact Or.inr rfl) (nf_lst (ea_cons (ev 1) ea_nil) (lenA_cons lenA_nil))))
    (sfs_cons (sf_for PassesOwn.never rfl (if_seq (ev 2)) (gw_name (i := 4) nd rfl (by first | exact Or.inl rfl | exact Or.inr rfl)) (sws_one (sf_app (i := 3) rfl (by first | exact Or.inl rfl | exact Or.inr (Or.inl rfl) | exact Or.inr (Or.inr rfl)) (ef_call (c_call_in.cal hr) (ea_cons (ev 0) (ea_cons (ef_ix (xv 3) (EW.x (ef_neg ef_int))) (ea_cons (ev 4) ea_nil))) (lenA_cons (lenA_cons (lenA_cons lenA_nil))) rfl))))
    (sws_one (sf_retx (xv 3)))))

def B_need_knowledge : Rho → Option Fl := (sSeq (sDrop (aOf g_need_web (aCons (gV 0) aNil)))
  (sSeq (sIf (bNot (bB (aOf g_is_list (aCons (gV 1) (aCons (gC (.int 1)) (aCons (gC (.int 128)) aNil)))))) sNever sNil)
  (sFor (tg2 2 3) (fEnum (gV 1)) (sIf (bOr (bNot (bB (aOf g_is_set (aCons (gV 0) (aCons (gV 3) aNil))))) (bAnd (bB (b2 dGt (gX 2) (gC (.int 0)))) (bB (b2 dGeP (b2 dIx (gX 1) (b2 dSub (gX 2) (gC (.int 1)))) (gX 3))))) sNever sNil))))
def g_need_knowledge : GA := runF 4 B_need_knowledge

abbrev s_need_knowledge : Stmt := topS 22
theorem sc_need_knowledge : FnScope ["web", "knowledge", "index", "standing"] ["web", "knowledge"] (defScope s_need_knowledge) := ⟨rfl, rfl, rfl, by decide +kernel, rfl, by decide +kernel, by decide +kernel⟩
theorem ok_need_knowledge (bi : Bi mg) (k_MOST_KNOWN : ∃ t, mg "MOST_KNOWN" = some (.int 128 t)) (c_need_web : DG P w K mg base "need_web" 3 1 g_need_web) (c_is_list : DG P w K mg base "is_list" 1 3 g_is_list) (c_is_set : DG P w K mg base "is_set" 3 2 g_is_set) (Fd : ∃ f fd, FunD K "need_knowledge" "need_knowledge" (defArgs s_need_knowledge) (defBody s_need_knowledge) (defScope s_need_knowledge) [] [] f fd ∧ mg "need_knowledge" = some (.ref f)) : DG P w K mg base "need_knowledge" 4 2 g_need_knowledge := by
  obtain ⟨f, fd, Fd, m⟩ := Fd
  refine ⟨f, fd, ["web", "knowledge"], fn_pureF (k := 3) (N := ["web", "knowledge", "index", "standing"]) (g := B_need_knowledge) Fd sc_need_knowledge rfl (by decide) (fun cdv A outer s H E hr => ?_), m, Fd.kp, Fd.bindsN fun _ _ _ _ _ _ us hl => match us, hl with | [_, _], _ => by kernel_rfl⟩
  have rm := rm_of (X := (cxOf CX0 P w K mg base ["web", "knowledge", "index", "standing"] "need_knowledge" (defScope s_need_knowledge) f cdv A outer s H E).nox) hr
  have nd := sc_need_knowledge.nd
  exact (sfs_cons (sf_expr (ef_call (c_need_web.cal hr) (ea_cons (ev 0) ea_nil) (lenA_cons lenA_nil) rfl))
    (sfs_cons (sf_if (tf_not (tf_val (ef_call (c_is_list.cal hr) (ea_cons (ev 1) (ea_cons ef_int (ea_cons (ef_gint k_MOST_KNOWN) ea_nil))) (lenA_cons (lenA_cons (lenA_cons lenA_nil))) rfl))) (sws_one sf_never) sfs_nil)
    (sws_one (sf_for PassesOwn.never rfl (if_enum bi (ev 1)) (gw_two (i := 2) (j := 3) rfl nd rfl (by first | exact Or.inl rfl | exact Or.inr rfl) rfl (by first | exact Or.inl rfl | exact Or.inr rfl)) (sws_one (sf_if (TWW.t (tf_or (tf_not (tf_val (ef_call (c_is_set.cal hr) (ea_cons (ev 0) (ea_cons (ev 3) ea_nil)) (lenA_cons (lenA_cons lenA_nil)) rfl))) (tf_or1 (TWW.t (tf_and (tf_cmp og_gt (xv 2) (EW.x ef_int) (nomark _)) (tf_and1 (tf_cmp (og_geP rm) (EW.x (ef_ix (xv 1) (EW.x (ef_bin og_sub (xv 2) (EW.x ef_int))))) (xv 3) (nomark _)))))))) (sws_one sf_never) sfs_nil))))))

def B_spread_in : Rho → Option Fl := (sRet (aOf gTup (aCons (fun ρ => ((nSortAll (fun ρ => ((cLc [3] (tgN 3) fYes (b2 dIx (aOf g_story_in (aCons (gV 0) (aCons (gV 3) (aCons (gV 2) aNil)))) (vNeg (gC (.int 1)))) (fItems (gV 1))) ρ).map PyData.list)) ρ).map PyData.list) aNil)))
def g_spread_in : GA := runF 4 B_spread_in

abbrev s_spread_in : Stmt := topS 23
theorem sc_spread_in : FnScope ["web", "knowledge", "calls", "standing"] ["web", "knowledge", "calls"] (defScope s_spread_in) := ⟨rfl, rfl, rfl, by decide +kernel, rfl, by decide +kernel, by decide +kernel⟩
theorem ok_spread_in (bi : Bi mg) (c_story_in : DG P w K mg base "story_in" 2 3 g_story_in) (Fd : ∃ f fd, FunD K "spread_in" "spread_in" (defArgs s_spread_in) (defBody s_spread_in) (defScope s_spread_in) [] [] f fd ∧ mg "spread_in" = some (.ref f)) : DG P w K mg base "spread_in" 3 3 g_spread_in := by
  obtain ⟨f, fd, Fd, m⟩ := Fd
  refine ⟨f, fd, ["web", "knowledge", "calls"], fn_pureF (k := 2) (N := ["web", "knowledge", "calls", "standing"]) (g := B_spread_in) Fd sc_spread_in rfl (by decide) (fun cdv A outer s H E hr => ?_), m, Fd.kp, Fd.bindsN fun _ _ _ _ _ _ us hl => match us, hl with | [_, _, _], _ => by kernel_rfl⟩
  have rm := rm_of (X := (cxOf CX0 P w K mg base ["web", "knowledge", "calls", "standing"] "spread_in" (defScope s_spread_in) f cdv A outer s H E).nox) hr
  have nd := sc_spread_in.nd
  exact (sws_one (sf_ret (c_tuple bi (xa_cons (EW.x (NF.e (n_sortAll bi rm (EW.x (NF.e (NW.lc (nw_lc (own := [("standing", 3)]) (g := (tgN 3)) (T := fW fYes) (E := fW (b2 dIx (aOf g_story_in (aCons (gV 0) (aCons (gV 3) (aCons (gV 2) aNil)))) (vNeg (gC (.int 1))))) rfl nd (if_seq (ev 1)) (blkOk_by (own := [("standing", 3)]) (by kernel_rfl)) (fun _ _ _ _ _ => (gw_sub (gw_name (i := 3) nd rfl (by first | exact Or.inl rfl | exact Or.inr rfl)))) (fun _ _ _ _ _ => ts_nil) (fun _ _ _ _ _ => (ef_ix (EW.x (ef_call (c_story_in.cal hr) (ea_cons (ev 0) (ea_cons (ev 3) (ea_cons (ev 2) ea_nil))) (lenA_cons (lenA_cons (lenA_cons lenA_nil))) rfl)) (EW.x (ef_neg ef_int)))) s))))))) xa_nil))))

def B_spread : Rho → Option Fl := (sSeq (sDrop (aOf g_need_knowledge (aCons (gV 0) (aCons (gV 1) aNil))))
  (sSeq (sDrop (aOf g_need_calls (aCons (gV 0) (aCons (gV 2) aNil))))
  (sRet (aOf g_spread_in (aCons (gV 0) (aCons (gV 1) (aCons (gV 2) aNil)))))))
def g_spread : GA := runF 3 B_spread

abbrev s_spread : Stmt := topS 24
theorem sc_spread : FnScope ["web", "knowledge", "calls"] ["web", "knowledge", "calls"] (defScope s_spread) := ⟨rfl, rfl, rfl, by decide +kernel, rfl, by decide +kernel, by decide +kernel⟩
theorem ok_spread (bi : Bi mg) (c_need_knowledge : DG P w K mg base "need_knowledge" 4 2 g_need_knowledge) (c_need_calls : DG P w K mg base "need_calls" 3 2 g_need_calls) (c_spread_in : DG P w K mg base "spread_in" 3 3 g_spread_in) (Fd : ∃ f fd, FunD K "spread" "spread" (defArgs s_spread) (defBody s_spread) (defScope s_spread) [] [] f fd ∧ mg "spread" = some (.ref f)) : DG P w K mg base "spread" 5 3 g_spread := by
  obtain ⟨f, fd, Fd, m⟩ := Fd
  refine ⟨f, fd, ["web", "knowledge", "calls"], fn_pureF (k := 4) (N := ["web", "knowledge", "calls"]) (g := B_spread) Fd sc_spread rfl (by decide) (fun cdv A outer s H E hr => ?_), m, Fd.kp, Fd.bindsN fun _ _ _ _ _ _ us hl => match us, hl with | [_, _, _], _ => by kernel_rfl⟩
  have rm := rm_of (X := (cxOf CX0 P w K mg base ["web", "knowledge", "calls"] "spread" (defScope s_spread) f cdv A outer s H E).nox) hr
  have nd := sc_spread.nd
  exact (sfs_cons (sf_expr (ef_call (c_need_knowledge.cal hr) (ea_cons (ev 0) (ea_cons (ev 1) ea_nil)) (lenA_cons (lenA_cons lenA_nil)) rfl))
    (sfs_cons (sf_expr (ef_call (c_need_calls.cal hr) (ea_cons (ev 0) (ea_cons (ev 2) ea_nil)) (lenA_cons (lenA_cons lenA_nil)) rfl))
    (sws_one (sf_ret (ef_call (c_spread_in.cal hr) (ea_cons (ev 0) (ea_cons (ev 1) (ea_cons (ev 2) ea_nil))) (lenA_cons (lenA_cons (lenA_cons lenA_nil))) rfl)))))

abbrev s_law0 : Stmt := topS 41
def L_law0 : LamD := (((defBody s_law0).filterMap lamIn)[0]?).getD ⟨defArgs s_law0, .Name "x" ⟨0, 0, 0, 0⟩, defScope s_law0⟩
theorem le_law0 : ((defBody s_law0).filterMap lamIn)[0]? = some L_law0 := by kernel_rfl
theorem lf_law0 : L_law0.fr ++ lamX "law0" = (["_law_person"] : List Str) := by kernel_rfl
def BL_law0 : Rho → Option D := (b2 dIn (gX 1) (gX 0))
theorem lam_law0 (bi : Bi mg) {X : Cx} (hP : X.prog = P) (hw : X.w = w) (hK : X.K = K) (hmg : X.mg = mg) (hba : X.base = base) : LamOk X 0 "law0" L_law0 "_law_here" (tW X.K (fW BL_law0)) := by
  subst hP hw hK hmg hba
  refine ⟨lscope_by (by decide +kernel), fun cl pm cv ctv u => by kernel_rfl, fun cl c' f s H hr => ?_⟩
  have rm := rm_of (X := lamCx X ["_law_here", "_law_person"] "law0" L_law0 cl c' f s H) hr
  have nd : (["_law_here", "_law_person"] : List Str).Nodup := by decide +kernel
  have key : EF (lamCx X ["_law_here", "_law_person"] "law0" L_law0 cl c' f s H) L_law0.body BL_law0 := (ef_cmp (og_in rm) (xv 1) (xv 0) (by rfl))
  rw [lf_law0]
  exact key.pe

abbrev s_law1 : Stmt := topS 41
def L_law1 : LamD := (((defBody s_law1).filterMap lamIn)[1]?).getD ⟨defArgs s_law1, .Name "x" ⟨0, 0, 0, 0⟩, defScope s_law1⟩
theorem le_law1 : ((defBody s_law1).filterMap lamIn)[1]? = some L_law1 := by kernel_rfl
theorem lf_law1 : L_law1.fr ++ lamX "law1" = ([] : List Str) := by kernel_rfl
def BL_law1 : Rho → Option D := (aOf gLen (aCons (gX 0) aNil))
theorem lam_law1 (bi : Bi mg) {X : Cx} (hP : X.prog = P) (hw : X.w = w) (hK : X.K = K) (hmg : X.mg = mg) (hba : X.base = base) : LamOk X 0 "law1" L_law1 "_law_here" (tW X.K (fW BL_law1)) := by
  subst hP hw hK hmg hba
  refine ⟨lscope_by (by decide +kernel), fun cl pm cv ctv u => by kernel_rfl, fun cl c' f s H hr => ?_⟩
  have rm := rm_of (X := lamCx X ["_law_here"] "law1" L_law1 cl c' f s H) hr
  have nd : (["_law_here"] : List Str).Nodup := by decide +kernel
  have key : EF (lamCx X ["_law_here"] "law1" L_law1 cl c' f s H) L_law1.body BL_law1 := (c_len bi (xa_cons (xv 0) xa_nil))
  rw [lf_law1]
  exact key.pe

abbrev s_law2 : Stmt := topS 41
def L_law2 : LamD := (((defBody s_law2).filterMap lamIn)[2]?).getD ⟨defArgs s_law2, .Name "x" ⟨0, 0, 0, 0⟩, defScope s_law2⟩
theorem le_law2 : ((defBody s_law2).filterMap lamIn)[2]? = some L_law2 := by kernel_rfl
theorem lf_law2 : L_law2.fr ++ lamX "law2" = ([] : List Str) := by kernel_rfl
def BL_law2 : Rho → Option D := (vIf (bB (b2 dNe (gX 0) (vTup aNil))) (aOf gMaxA (aCons (gX 0) aNil)) (gC .none))
theorem lam_law2 (bi : Bi mg) {X : Cx} (hP : X.prog = P) (hw : X.w = w) (hK : X.K = K) (hmg : X.mg = mg) (hba : X.base = base) : LamOk X 0 "law2" L_law2 "_law_here" (tW X.K (fW BL_law2)) := by
  subst hP hw hK hmg hba
  refine ⟨lscope_by (by decide +kernel), fun cl pm cv ctv u => by kernel_rfl, fun cl c' f s H hr => ?_⟩
  have rm := rm_of (X := lamCx X ["_law_here"] "law2" L_law2 cl c' f s H) hr
  have nd : (["_law_here"] : List Str).Nodup := by decide +kernel
  have key : EF (lamCx X ["_law_here"] "law2" L_law2 cl c' f s H) L_law2.body BL_law2 := (ef_if (tf_cmp (og_ne rm) (xv 0) (EW.x (ef_tup ea_nil lenA_nil)) (nomark _)) (c_maxA bi rm (xa_cons (xv 0) xa_nil)) ef_non)
  rw [lf_law2]
  exact key.pe

abbrev s_seen_numbers : Stmt := topS 27
def L_seen_numbers : LamD := ((defBody s_seen_numbers).getLast?.bind lamSt).getD ⟨defArgs s_seen_numbers, .Name "x" ⟨0, 0, 0, 0⟩, defScope s_seen_numbers⟩
theorem le_seen_numbers : (defBody s_seen_numbers).getLast?.bind lamSt = some L_seen_numbers := by kernel_rfl
theorem lf_seen_numbers : L_seen_numbers.fr ++ lamX "seen_numbers" = ([] : List Str) := by kernel_rfl
def BL_seen_numbers : Rho → Option D := (aOf gLen (aCons (gX 0) aNil))
theorem lam_seen_numbers (bi : Bi mg) {X : Cx} (hP : X.prog = P) (hw : X.w = w) (hK : X.K = K) (hmg : X.mg = mg) (hba : X.base = base) : LamOk X 0 "seen_numbers" L_seen_numbers "here" (tW X.K (fW BL_seen_numbers)) := by
  subst hP hw hK hmg hba
  refine ⟨lscope_by (by decide +kernel), fun cl pm cv ctv u => by kernel_rfl, fun cl c' f s H hr => ?_⟩
  have rm := rm_of (X := lamCx X ["here"] "seen_numbers" L_seen_numbers cl c' f s H) hr
  have nd : (["here"] : List Str).Nodup := by decide +kernel
  have key : EF (lamCx X ["here"] "seen_numbers" L_seen_numbers cl c' f s H) L_seen_numbers.body BL_seen_numbers := (c_len bi (xa_cons (xv 0) xa_nil))
  rw [lf_seen_numbers]
  exact key.pe

abbrev s_seen_person : Stmt := topS 26
def L_seen_person : LamD := ((defBody s_seen_person).getLast?.bind lamSt).getD ⟨defArgs s_seen_person, .Name "x" ⟨0, 0, 0, 0⟩, defScope s_seen_person⟩
theorem le_seen_person : (defBody s_seen_person).getLast?.bind lamSt = some L_seen_person := by kernel_rfl
theorem lf_seen_person : L_seen_person.fr ++ lamX "seen_person" = (["person"] : List Str) := by kernel_rfl
def BL_seen_person : Rho → Option D := (b2 dIn (gX 1) (gX 0))
theorem lam_seen_person (bi : Bi mg) {X : Cx} (hP : X.prog = P) (hw : X.w = w) (hK : X.K = K) (hmg : X.mg = mg) (hba : X.base = base) : LamOk X 0 "seen_person" L_seen_person "here" (tW X.K (fW BL_seen_person)) := by
  subst hP hw hK hmg hba
  refine ⟨lscope_by (by decide +kernel), fun cl pm cv ctv u => by kernel_rfl, fun cl c' f s H hr => ?_⟩
  have rm := rm_of (X := lamCx X ["here", "person"] "seen_person" L_seen_person cl c' f s H) hr
  have nd : (["here", "person"] : List Str).Nodup := by decide +kernel
  have key : EF (lamCx X ["here", "person"] "seen_person" L_seen_person cl c' f s H) L_seen_person.body BL_seen_person := (ef_cmp (og_in rm) (xv 1) (xv 0) (by rfl))
  rw [lf_seen_person]
  exact key.pe

abbrev s_seen_tallest : Stmt := topS 28
def L_seen_tallest : LamD := ((defBody s_seen_tallest).getLast?.bind lamSt).getD ⟨defArgs s_seen_tallest, .Name "x" ⟨0, 0, 0, 0⟩, defScope s_seen_tallest⟩
theorem le_seen_tallest : (defBody s_seen_tallest).getLast?.bind lamSt = some L_seen_tallest := by kernel_rfl
theorem lf_seen_tallest : L_seen_tallest.fr ++ lamX "seen_tallest" = ([] : List Str) := by kernel_rfl
def BL_seen_tallest : Rho → Option D := (vIf (bB (b2 dNe (gX 0) (vTup aNil))) (aOf gMaxA (aCons (gX 0) aNil)) (gC .none))
theorem lam_seen_tallest (bi : Bi mg) {X : Cx} (hP : X.prog = P) (hw : X.w = w) (hK : X.K = K) (hmg : X.mg = mg) (hba : X.base = base) : LamOk X 0 "seen_tallest" L_seen_tallest "here" (tW X.K (fW BL_seen_tallest)) := by
  subst hP hw hK hmg hba
  refine ⟨lscope_by (by decide +kernel), fun cl pm cv ctv u => by kernel_rfl, fun cl c' f s H hr => ?_⟩
  have rm := rm_of (X := lamCx X ["here"] "seen_tallest" L_seen_tallest cl c' f s H) hr
  have nd : (["here"] : List Str).Nodup := by decide +kernel
  have key : EF (lamCx X ["here"] "seen_tallest" L_seen_tallest cl c' f s H) L_seen_tallest.body BL_seen_tallest := (ef_if (tf_cmp (og_ne rm) (xv 0) (EW.x (ef_tup ea_nil lenA_nil)) (nomark _)) (c_maxA bi rm (xa_cons (xv 0) xa_nil)) ef_non)
  rw [lf_seen_tallest]
  exact key.pe

def lg : Str → Rho → Option D := fun q => if q = "law0" then BL_law0 else if q = "law1" then BL_law1 else if q = "law2" then BL_law2 else if q = "seen_numbers" then BL_seen_numbers else if q = "seen_person" then BL_seen_person else if q = "seen_tallest" then BL_seen_tallest else fun _ => none
theorem lg_law0 : lg "law0" = BL_law0 := by kernel_rfl
theorem lg_law1 : lg "law1" = BL_law1 := by kernel_rfl
theorem lg_law2 : lg "law2" = BL_law2 := by kernel_rfl
theorem lg_seen_numbers : lg "seen_numbers" = BL_seen_numbers := by kernel_rfl
theorem lg_seen_person : lg "seen_person" = BL_seen_person := by kernel_rfl
theorem lg_seen_tallest : lg "seen_tallest" = BL_seen_tallest := by kernel_rfl
theorem lam_all (bi : Bi mg) (l_law0 : lamOf K "law0" = some L_law0) (l_law1 : lamOf K "law1" = some L_law1) (l_law2 : lamOf K "law2" = some L_law2) (l_seen_numbers : lamOf K "seen_numbers" = some L_seen_numbers) (l_seen_person : lamOf K "seen_person" = some L_seen_person) (l_seen_tallest : lamOf K "seen_tallest" = some L_seen_tallest) {X : Cx} (hP : X.prog = P) (hw : X.w = w) (hK : X.K = K) (hmg : X.mg = mg) (hba : X.base = base) : ∀ q L, lamOf X.K q = some L → (∃ ρ z, lg q ρ = some z) → ∃ z, LamOk X 0 q L z (tW X.K (fW (lg q))) := by
  intro q L hq ⟨ρ, z, e⟩
  by_cases h0 : q = "law0"
  · subst h0
    rw [hK, l_law0] at hq
    cases hq
    rw [lg_law0]
    exact ⟨_, lam_law0 bi hP hw hK hmg hba⟩
  by_cases h1 : q = "law1"
  · subst h1
    rw [hK, l_law1] at hq
    cases hq
    rw [lg_law1]
    exact ⟨_, lam_law1 bi hP hw hK hmg hba⟩
  by_cases h2 : q = "law2"
  · subst h2
    rw [hK, l_law2] at hq
    cases hq
    rw [lg_law2]
    exact ⟨_, lam_law2 bi hP hw hK hmg hba⟩
  by_cases h3 : q = "seen_numbers"
  · subst h3
    rw [hK, l_seen_numbers] at hq
    cases hq
    rw [lg_seen_numbers]
    exact ⟨_, lam_seen_numbers bi hP hw hK hmg hba⟩
  by_cases h4 : q = "seen_person"
  · subst h4
    rw [hK, l_seen_person] at hq
    cases hq
    rw [lg_seen_person]
    exact ⟨_, lam_seen_person bi hP hw hK hmg hba⟩
  by_cases h5 : q = "seen_tallest"
  · subst h5
    rw [hK, l_seen_tallest] at hq
    cases hq
    rw [lg_seen_tallest]
    exact ⟨_, lam_seen_tallest bi hP hw hK hmg hba⟩
  unfold lg at e
  rw [if_neg h0, if_neg h1, if_neg h2, if_neg h3, if_neg h4, if_neg h5] at e
  cases e

def B_watch : Rho → Option Fl := (sSeq (sSetD 4 true (fun _ => some []))
  (fun ρ => (sSeq (sFor (tgN 5) (fItems (gV 1)) (sSeq (sSet 6 (aOf g_story_in (aCons (gV 0) (aCons (gV 5) (aCons (gV 2) aNil)))))
  (sSeq (sSet 7 (aOf gTup (aCons (fun ρ => ((cLc [8] (tgN 8) fYes (b2 (dApp lg) (gV 3) (gV 8)) (fItems (gV 6))) ρ).map PyData.list) aNil)))
  (sPutX 4 (vStar 4 (gV 7) (b2 dIx (gX 6) (vNeg (gC (.int 1)))) (gC (.bool true))) (gV 7)))))
  (fun ρ => (sRet (aOf gTup (aCons (fun ρ => ((aOf gSrt (aCons (fun ρ => ((cLc [9] (tgN 9) fYes (aOf gTup (aCons (fun ρ => ((aOf gSrt (aCons (fun ρ => ((fKeysX (gV 9)) ρ).map PyData.list) aNil)) ρ).map PyData.list) aNil)) (fValsX (gV 4))) ρ).map PyData.list) aNil)) ρ).map PyData.list) aNil))) (lckX ρ 4))) (toXR ρ 4)))
def g_watch : GA := runF 10 B_watch

abbrev s_watch : Stmt := topS 25
theorem sc_watch : FnScope ["web", "knowledge", "calls", "look", "found", "standing", "states", "key", "here", "part"] ["web", "knowledge", "calls", "look"] (defScope s_watch) := ⟨rfl, rfl, rfl, by decide +kernel, rfl, by decide +kernel, by decide +kernel⟩
theorem ok_watch (bi : Bi mg) (c_story_in : DG P w K mg base "story_in" 2 3 g_story_in) (l_law0 : lamOf K "law0" = some L_law0) (l_law1 : lamOf K "law1" = some L_law1) (l_law2 : lamOf K "law2" = some L_law2) (l_seen_numbers : lamOf K "seen_numbers" = some L_seen_numbers) (l_seen_person : lamOf K "seen_person" = some L_seen_person) (l_seen_tallest : lamOf K "seen_tallest" = some L_seen_tallest) (Fd : ∃ f fd, FunD K "watch" "watch" (defArgs s_watch) (defBody s_watch) (defScope s_watch) [] [] f fd ∧ mg "watch" = some (.ref f)) : DG P w K mg base "watch" 3 4 g_watch := by
  obtain ⟨f, fd, Fd, m⟩ := Fd
  refine ⟨f, fd, ["web", "knowledge", "calls", "look"], fn_pureF (k := 2) (N := ["web", "knowledge", "calls", "look", "found", "standing", "states", "key", "here", "part"]) (g := B_watch) Fd sc_watch rfl (by decide) (fun cdv A outer s H E hr => ?_), m, Fd.kp, Fd.bindsN fun _ _ _ _ _ _ us hl => match us, hl with | [_, _, _, _], _ => by kernel_rfl⟩
  have rm := rm_of (X := (cxOf CX0 P w K mg base ["web", "knowledge", "calls", "look", "found", "standing", "states", "key", "here", "part"] "watch" (defScope s_watch) f cdv A outer s H E).nox) hr
  have nd := sc_watch.nd
  exact (sfs_cons (sf_setD (i := 4) nd rfl (by first | exact Or.inl rfl | exact Or.inr rfl) nd_nilT)
    (sfs_toX 4 (sfs_cons (sf_for PassesOwn.never rfl (if_seq (ev 1)) (gw_name (i := 5) nd rfl (by first | exact Or.inl rfl | exact Or.inr rfl)) (sfs_cons (sf_set (i := 6) nd rfl (by first | exact Or.inl rfl | exact Or.inr rfl) (ef_call (c_story_in.cal hr) (ea_cons (ev 0) (ea_cons (ev 5) (ea_cons (ev 2) ea_nil))) (lenA_cons (lenA_cons (lenA_cons lenA_nil))) rfl))
    (sfs_cons (sf_set (i := 7) nd rfl (by first | exact Or.inl rfl | exact Or.inr rfl) (c_tuple bi (xa_cons (EW.x (NF.e (NW.lc (nw_lc (own := [("here", 8)]) (g := (tgN 8)) (T := fW fYes) (E := fW (b2 (dApp lg) (gV 3) (gV 8))) rfl nd (if_seq (ev 6)) (blkOk_by (own := [("here", 8)]) (by kernel_rfl)) (fun _ _ _ _ _ => (gw_sub (gw_name (i := 8) nd rfl (by first | exact Or.inl rfl | exact Or.inr rfl)))) (fun _ _ _ _ _ => ts_nil) (fun _ _ _ _ _ => (ef_app (lg := lg) (lam_all bi l_law0 l_law1 l_law2 l_seen_numbers l_seen_person l_seen_tallest (X := _) rfl rfl rfl rfl rfl) (hr.mono (by decide)) (i := 3) rfl (by first | exact Or.inl rfl | exact Or.inr (Or.inl rfl) | exact Or.inr (Or.inr rfl)) (ev 8))) s)))) xa_nil)))
    (sws_one (sf_putX (i := 4) rm rfl (by first | exact Or.inl rfl | exact Or.inr (Or.inl rfl) | exact Or.inr (Or.inr rfl)) (ef_star (i := 4) rm rfl (by first | exact Or.inl rfl | exact Or.inr (Or.inl rfl) | exact Or.inr (Or.inr rfl)) (ev 7) (ef_ix (xv 6) (EW.x (ef_neg ef_int))) ef_bl) (ev 7))))))
    (sfs_lockX 4 (sws_one (sf_ret (c_tuple bi (xa_cons (EW.x (NF.e (n_sorted bi rm (xa_cons (EW.x (NF.e (NW.lc (nw_lc (own := [("part", 9)]) (g := (tgN 9)) (T := fW fYes) (E := fW (aOf gTup (aCons (fun ρ => ((aOf gSrt (aCons (fun ρ => ((fKeysX (gV 9)) ρ).map PyData.list) aNil)) ρ).map PyData.list) aNil))) rfl nd (if_valsX (ev 4)) (blkOk_by (own := [("part", 9)]) (by kernel_rfl)) (fun _ _ _ _ _ => (gw_sub (gw_name (i := 9) nd rfl (by first | exact Or.inl rfl | exact Or.inr rfl)))) (fun _ _ _ _ _ => ts_nil) (fun _ _ _ _ _ => (c_tuple bi (xa_cons (EW.x (NF.e (n_sorted bi rm (xa_cons (EW.x (NF.e (nf_keysX bi (ev 9)))) xa_nil)))) xa_nil))) s)))) xa_nil)))) xa_nil))))))))

def B_seen_person : Rho → Option Fl := (sSeq (sDrop (aOf g_need_knowledge (aCons (gV 0) (aCons (gV 1) aNil))))
  (sSeq (sDrop (aOf g_need_calls (aCons (gV 0) (aCons (gV 2) aNil))))
  (sSeq (sDrop (aOf g_need_person (aCons (gV 0) (aCons (gV 3) aNil))))
  (sRet (fLam3 g_watch "seen_person" [3] (gV 0) (gV 1) (gV 2))))))
def g_seen_person : GA := runF 4 B_seen_person


theorem sc_seen_person : FnScope ["web", "knowledge", "calls", "person"] ["web", "knowledge", "calls", "person"] (defScope s_seen_person) := ⟨rfl, rfl, rfl, by decide +kernel, rfl, by decide +kernel, by decide +kernel⟩
theorem ok_seen_person (bi : Bi mg) (c_need_knowledge : DG P w K mg base "need_knowledge" 4 2 g_need_knowledge) (c_need_calls : DG P w K mg base "need_calls" 3 2 g_need_calls) (c_need_person : DG P w K mg base "need_person" 3 2 g_need_person) (c_watch : DG P w K mg base "watch" 3 4 g_watch) (mk : MkOk K mg base "seen_person" L_seen_person) (Fd : ∃ fd, FunD K "seen_person" "seen_person" (defArgs s_seen_person) (defBody s_seen_person) (defScope s_seen_person) [] [] (He.fAd K ("seen_person", none)) fd ∧ mg "seen_person" = some (.ref (He.fAd K ("seen_person", none)))) : DG P w K mg base "seen_person" 5 4 g_seen_person := by
  obtain ⟨fd, Fd, m⟩ := Fd
  refine ⟨_, fd, ["web", "knowledge", "calls", "person"], fn_pureFC (k := 4) (N := ["web", "knowledge", "calls", "person"]) (g := B_seen_person) Fd sc_seen_person rfl (by decide) (fun A outer s H E hr => ?_), m, Fd.kp, Fd.bindsN fun _ _ _ _ _ _ us hl => match us, hl with | [_, _, _, _], _ => by kernel_rfl⟩
  have rm := rm_of (X := (cxOf CX0 P w K mg base ["web", "knowledge", "calls", "person"] "seen_person" (defScope s_seen_person) (He.fAd K ("seen_person", none)) (.ref (He.codeOf K ("seen_person", none))) A outer s H E).nox) hr
  have nd := sc_seen_person.nd
  exact (sfs_cons (sf_expr (ef_call (c_need_knowledge.cal hr) (ea_cons (ev 0) (ea_cons (ev 1) ea_nil)) (lenA_cons (lenA_cons lenA_nil)) rfl))
    (sfs_cons (sf_expr (ef_call (c_need_calls.cal hr) (ea_cons (ev 0) (ea_cons (ev 2) ea_nil)) (lenA_cons (lenA_cons lenA_nil)) rfl))
    (sfs_cons (sf_expr (ef_call (c_need_person.cal hr) (ea_cons (ev 0) (ea_cons (ev 3) ea_nil)) (lenA_cons (lenA_cons lenA_nil)) rfl))
    (sws_one (sf_ret (ef_callLam3 (L := L_seen_person) (q := "seen_person") (js := [3]) (c_watch.cal hr) (ev 0) (ev 1) (ev 2) mk.tb rfl rfl mk.ll mk.tm mk.tu rfl (show NdefX.ndefB (defScope s_seen_person) L_seen_person.scope L_seen_person.fr = true by decide +kernel) rfl (fun _ => rfl) rfl (he := fun a as h => by rcases h with h | h | h | h <;> subst h <;> rfl)))))))

def B_seen_numbers : Rho → Option Fl := (sSeq (sDrop (aOf g_need_knowledge (aCons (gV 0) (aCons (gV 1) aNil))))
  (sSeq (sDrop (aOf g_need_calls (aCons (gV 0) (aCons (gV 2) aNil))))
  (sRet (fLam3 g_watch "seen_numbers" [] (gV 0) (gV 1) (gV 2)))))
def g_seen_numbers : GA := runF 3 B_seen_numbers


theorem sc_seen_numbers : FnScope ["web", "knowledge", "calls"] ["web", "knowledge", "calls"] (defScope s_seen_numbers) := ⟨rfl, rfl, rfl, by decide +kernel, rfl, by decide +kernel, by decide +kernel⟩
theorem ok_seen_numbers (bi : Bi mg) (c_need_knowledge : DG P w K mg base "need_knowledge" 4 2 g_need_knowledge) (c_need_calls : DG P w K mg base "need_calls" 3 2 g_need_calls) (c_watch : DG P w K mg base "watch" 3 4 g_watch) (mk : MkOk K mg base "seen_numbers" L_seen_numbers) (Fd : ∃ fd, FunD K "seen_numbers" "seen_numbers" (defArgs s_seen_numbers) (defBody s_seen_numbers) (defScope s_seen_numbers) [] [] (He.fAd K ("seen_numbers", none)) fd ∧ mg "seen_numbers" = some (.ref (He.fAd K ("seen_numbers", none)))) : DG P w K mg base "seen_numbers" 5 3 g_seen_numbers := by
  obtain ⟨fd, Fd, m⟩ := Fd
  refine ⟨_, fd, ["web", "knowledge", "calls"], fn_pureFC (k := 4) (N := ["web", "knowledge", "calls"]) (g := B_seen_numbers) Fd sc_seen_numbers rfl (by decide) (fun A outer s H E hr => ?_), m, Fd.kp, Fd.bindsN fun _ _ _ _ _ _ us hl => match us, hl with | [_, _, _], _ => by kernel_rfl⟩
  have rm := rm_of (X := (cxOf CX0 P w K mg base ["web", "knowledge", "calls"] "seen_numbers" (defScope s_seen_numbers) (He.fAd K ("seen_numbers", none)) (.ref (He.codeOf K ("seen_numbers", none))) A outer s H E).nox) hr
  have nd := sc_seen_numbers.nd
  exact (sfs_cons (sf_expr (ef_call (c_need_knowledge.cal hr) (ea_cons (ev 0) (ea_cons (ev 1) ea_nil)) (lenA_cons (lenA_cons lenA_nil)) rfl))
    (sfs_cons (sf_expr (ef_call (c_need_calls.cal hr) (ea_cons (ev 0) (ea_cons (ev 2) ea_nil)) (lenA_cons (lenA_cons lenA_nil)) rfl))
    (sws_one (sf_ret (ef_callLam3 (L := L_seen_numbers) (q := "seen_numbers") (js := []) (c_watch.cal hr) (ev 0) (ev 1) (ev 2) mk.tb rfl rfl mk.ll mk.tm mk.tu rfl (show NdefX.ndefB (defScope s_seen_numbers) L_seen_numbers.scope L_seen_numbers.fr = true by decide +kernel) rfl (fun _ => rfl) rfl (he := fun a as h => by rcases h with h | h | h | h <;> subst h <;> rfl))))))

def B_seen_tallest : Rho → Option Fl := (sSeq (sDrop (aOf g_need_knowledge (aCons (gV 0) (aCons (gV 1) aNil))))
  (sSeq (sDrop (aOf g_need_calls (aCons (gV 0) (aCons (gV 2) aNil))))
  (sRet (fLam3 g_watch "seen_tallest" [] (gV 0) (gV 1) (gV 2)))))
def g_seen_tallest : GA := runF 3 B_seen_tallest


theorem sc_seen_tallest : FnScope ["web", "knowledge", "calls"] ["web", "knowledge", "calls"] (defScope s_seen_tallest) := ⟨rfl, rfl, rfl, by decide +kernel, rfl, by decide +kernel, by decide +kernel⟩
theorem ok_seen_tallest (bi : Bi mg) (c_need_knowledge : DG P w K mg base "need_knowledge" 4 2 g_need_knowledge) (c_need_calls : DG P w K mg base "need_calls" 3 2 g_need_calls) (c_watch : DG P w K mg base "watch" 3 4 g_watch) (mk : MkOk K mg base "seen_tallest" L_seen_tallest) (Fd : ∃ fd, FunD K "seen_tallest" "seen_tallest" (defArgs s_seen_tallest) (defBody s_seen_tallest) (defScope s_seen_tallest) [] [] (He.fAd K ("seen_tallest", none)) fd ∧ mg "seen_tallest" = some (.ref (He.fAd K ("seen_tallest", none)))) : DG P w K mg base "seen_tallest" 5 3 g_seen_tallest := by
  obtain ⟨fd, Fd, m⟩ := Fd
  refine ⟨_, fd, ["web", "knowledge", "calls"], fn_pureFC (k := 4) (N := ["web", "knowledge", "calls"]) (g := B_seen_tallest) Fd sc_seen_tallest rfl (by decide) (fun A outer s H E hr => ?_), m, Fd.kp, Fd.bindsN fun _ _ _ _ _ _ us hl => match us, hl with | [_, _, _], _ => by kernel_rfl⟩
  have rm := rm_of (X := (cxOf CX0 P w K mg base ["web", "knowledge", "calls"] "seen_tallest" (defScope s_seen_tallest) (He.fAd K ("seen_tallest", none)) (.ref (He.codeOf K ("seen_tallest", none))) A outer s H E).nox) hr
  have nd := sc_seen_tallest.nd
  exact (sfs_cons (sf_expr (ef_call (c_need_knowledge.cal hr) (ea_cons (ev 0) (ea_cons (ev 1) ea_nil)) (lenA_cons (lenA_cons lenA_nil)) rfl))
    (sfs_cons (sf_expr (ef_call (c_need_calls.cal hr) (ea_cons (ev 0) (ea_cons (ev 2) ea_nil)) (lenA_cons (lenA_cons lenA_nil)) rfl))
    (sws_one (sf_ret (ef_callLam3 (L := L_seen_tallest) (q := "seen_tallest") (js := []) (c_watch.cal hr) (ev 0) (ev 1) (ev 2) mk.tb rfl rfl mk.ll mk.tm mk.tu rfl (show NdefX.ndefB (defScope s_seen_tallest) L_seen_tallest.scope L_seen_tallest.fr = true by decide +kernel) rfl (fun _ => rfl) rfl (he := fun a as h => by rcases h with h | h | h | h <;> subst h <;> rfl))))))

def B_is_told : Rho → Option Fl := (sRet (aOf gAll (aCons (fun ρ => ((cLc [4] (tgN 4) fYes (b2 dEq (aOf gLen (aCons (gX 4) aNil)) (gC (.int 1))) (fItems (aOf g_seen_person (aCons (gV 0) (aCons (gV 1) (aCons (gV 2) (aCons (gV 3) aNil))))))) ρ).map PyData.list) aNil)))
def g_is_told : GA := runF 5 B_is_told

abbrev s_is_told : Stmt := topS 29
theorem sc_is_told : FnScope ["web", "knowledge", "calls", "person", "part"] ["web", "knowledge", "calls", "person"] (defScope s_is_told) := ⟨rfl, rfl, rfl, by decide +kernel, rfl, by decide +kernel, by decide +kernel⟩
theorem ok_is_told (bi : Bi mg) (c_seen_person : DG P w K mg base "seen_person" 5 4 g_seen_person) (Fd : ∃ f fd, FunD K "is_told" "is_told" (defArgs s_is_told) (defBody s_is_told) (defScope s_is_told) [] [] f fd ∧ mg "is_told" = some (.ref f)) : DG P w K mg base "is_told" 6 4 g_is_told := by
  obtain ⟨f, fd, Fd, m⟩ := Fd
  refine ⟨f, fd, ["web", "knowledge", "calls", "person"], fn_pureF (k := 5) (N := ["web", "knowledge", "calls", "person", "part"]) (g := B_is_told) Fd sc_is_told rfl (by decide) (fun cdv A outer s H E hr => ?_), m, Fd.kp, Fd.bindsN fun _ _ _ _ _ _ us hl => match us, hl with | [_, _, _, _], _ => by kernel_rfl⟩
  have rm := rm_of (X := (cxOf CX0 P w K mg base ["web", "knowledge", "calls", "person", "part"] "is_told" (defScope s_is_told) f cdv A outer s H E).nox) hr
  have nd := sc_is_told.nd
  exact (sws_one (sf_ret (c_all bi (xa_cons (EW.x (NF.e (NW.lc (nw_lc (own := [("part", 4)]) (g := (tgN 4)) (T := fW fYes) (E := fW (b2 dEq (aOf gLen (aCons (gX 4) aNil)) (gC (.int 1)))) rfl nd (if_seq (ef_call (c_seen_person.cal hr) (ea_cons (ev 0) (ea_cons (ev 1) (ea_cons (ev 2) (ea_cons (ev 3) ea_nil)))) (lenA_cons (lenA_cons (lenA_cons (lenA_cons lenA_nil)))) rfl)) (blkOk_by (own := [("part", 4)]) (by kernel_rfl)) (fun _ _ _ _ _ => (gw_sub (gw_name (i := 4) nd rfl (by first | exact Or.inl rfl | exact Or.inr rfl)))) (fun _ _ _ _ _ => ts_nil) (fun _ _ _ _ _ => (ef_cmp (og_eq rm) (EW.x (c_len bi (xa_cons (xv 4) xa_nil))) (EW.x ef_int) (nomark _))) s)))) xa_nil))))

def B_with_person : Rho → Option Fl := (sSeq (sDrop (aOf g_need_knowledge (aCons (gV 0) (aCons (gV 1) aNil))))
  (sSeq (sDrop (aOf g_need_person (aCons (gV 0) (aCons (gV 2) aNil))))
  (sSeq (sSetO 3 aNil)
  (sSeq (sFor (tgN 4) (fItems (gV 1)) (sIf (bB (b2 dIn (gX 2) (gX 4))) (sApp 3 (gV 4)) sNil))
  (sRet (aOf gTup (aCons (gX 3) aNil)))))))
def g_with_person : GA := runF 5 B_with_person

abbrev s_with_person : Stmt := topS 30
theorem sc_with_person : FnScope ["web", "knowledge", "person", "found", "standing"] ["web", "knowledge", "person"] (defScope s_with_person) := ⟨rfl, rfl, rfl, by decide +kernel, rfl, by decide +kernel, by decide +kernel⟩
theorem ok_with_person (bi : Bi mg) (c_need_knowledge : DG P w K mg base "need_knowledge" 4 2 g_need_knowledge) (c_need_person : DG P w K mg base "need_person" 3 2 g_need_person) (Fd : ∃ f fd, FunD K "with_person" "with_person" (defArgs s_with_person) (defBody s_with_person) (defScope s_with_person) [] [] f fd ∧ mg "with_person" = some (.ref f)) : DG P w K mg base "with_person" 5 3 g_with_person := by
  obtain ⟨f, fd, Fd, m⟩ := Fd
  refine ⟨f, fd, ["web", "knowledge", "person"], fn_pureF (k := 4) (N := ["web", "knowledge", "person", "found", "standing"]) (g := B_with_person) Fd sc_with_person rfl (by decide) (fun cdv A outer s H E hr => ?_), m, Fd.kp, Fd.bindsN fun _ _ _ _ _ _ us hl => match us, hl with | [_, _, _], _ => by kernel_rfl⟩
  have rm := rm_of (X := (cxOf CX0 P w K mg base ["web", "knowledge", "person", "found", "standing"] "with_person" (defScope s_with_person) f cdv A outer s H E).nox) hr
  have nd := sc_with_person.nd
  exact (sfs_cons (sf_expr (ef_call (c_need_knowledge.cal hr) (ea_cons (ev 0) (ea_cons (ev 1) ea_nil)) (lenA_cons (lenA_cons lenA_nil)) rfl))
    (sfs_cons (sf_expr (ef_call (c_need_person.cal hr) (ea_cons (ev 0) (ea_cons (ev 2) ea_nil)) (lenA_cons (lenA_cons lenA_nil)) rfl))
    (sfs_cons (NSF.so (ns_set (i := 3) nd rfl (by first | exact Or.inl rfl | exact Or.inr rfl) (nf_lst ea_nil lenA_nil)))
    (sfs_cons (sf_for PassesOwn.never rfl (if_seq (ev 1)) (gw_name (i := 4) nd rfl (by first | exact Or.inl rfl | exact Or.inr rfl)) (sws_one (sf_if (tf_cmp (og_in rm) (xv 2) (xv 4) (by rfl)) (sws_one (sf_app (i := 3) rfl (by first | exact Or.inl rfl | exact Or.inr (Or.inl rfl) | exact Or.inr (Or.inr rfl)) (ev 4))) sfs_nil)))
    (sws_one (sf_ret (c_tuple bi (xa_cons (xv 3) xa_nil))))))))

abbrev s__law_taken : Stmt := topS 32
theorem sc__law_taken : FnScope ["_law_row_here", "_law_many", "_law_found", "_law_cell"] ["_law_row_here", "_law_many"] (defScope s__law_taken) := ⟨rfl, rfl, rfl, by decide +kernel, rfl, by decide +kernel, by decide +kernel⟩
theorem ok__law_taken (bi : Bi mg) (Fd : ∃ f fd, FunD K "_law_taken" "_law_taken" (defArgs s__law_taken) (defBody s__law_taken) (defScope s__law_taken) [] [] f fd ∧ mg "_law_taken" = some (.ref f)) : DefOk P w K mg base "_law_taken" 1 (spR K 1 wTaken) := by
  obtain ⟨f, fd, Fd, m⟩ := Fd
  refine ⟨f, fd, ["_law_row_here", "_law_many"], Fd.ok sc__law_taken (fun vs H Q E h => h.1) (fun cdv A outer s H vs Q E hr h => ?_), m, Fd.kp, Fd.bindsN fun _ _ _ _ _ _ us hl => match us, hl with | [_, _], _ => by kernel_rfl⟩
  have nd := sc__law_taken.nd
  have W : PSs (cxOf CX0 P w K mg base _ "_law_taken" (defScope s__law_taken) f cdv A outer s H E).nox (defBody s__law_taken) _ :=
    pss_cons (ps_if (pt_cmpR op_gt (pe_ix ix_list (pv 0) pe_int (fun _ _ => rfl)) pe_int (nomark _))
      (pss_cons (ps_set (i := 2) nd rfl (Or.inl rfl) (pe_op op_mod (pe_callTy call_int1 rfl bi.int bt_int (pa_cons (pe_ix ix_list (pv 0) pe_int (fun _ _ => rfl)) pa_nil)) (pv 1)))
      (pss_cons (ps_asg (pe_op op_fdiv (pe_ix ix_list (pv 0) pe_int (fun _ _ => rfl)) (pv 1)) (pg_sub (pv 0) pe_int set_list))
      (pss_one (ps_ret (pv 2))))) pss_nil)
    (pss_cons (ps_asg (pe_op op_add (pe_ix ix_list (pv 0) pe_int (fun _ _ => rfl)) pe_int) (pg_sub (pv 0) pe_int set_list))
    (pss_cons (ps_if (pt_cmpR op_gt (pe_ix ix_list (pv 0) pe_int (fun _ _ => rfl)) (pe_callB call_len_seq rfl bi.len boot_len (pa_cons (pe_ix ix_list (pv 0) pe_int (fun _ _ => rfl)) pa_nil)) (nomark _))
      (pss_cons (ps_asg (pe_op op_mod (pe_callTy call_int1 rfl bi.int bt_int (pa_cons (pe_op op_add (pe_op op_mul (pe_ix ix_list (pv 0) pe_int (fun _ _ => rfl)) pe_int) pe_int) pa_nil)) pe_int) (pg_sub (pv 0) pe_int set_list))
      (pss_one (ps_ret (pe_op op_mod (pe_callTy call_int1 rfl bi.int bt_int (pa_cons (pe_op op_fdiv (pe_ix ix_list (pv 0) pe_int (fun _ _ => rfl)) pe_int) pa_nil)) (pv 1))))) pss_nil)
    (pss_cons (ps_set (i := 3) nd rfl (Or.inl rfl) (pe_ix ix_list (pe_ix ix_list (pv 0) pe_int (fun _ _ => rfl)) (pe_op op_sub (pe_ix ix_list (pv 0) pe_int (fun _ _ => rfl)) pe_int) (fun _ _ => rfl)))
    (pss_cons (ps_asg (pe_op op_mod (pe_callTy call_int1 rfl bi.int bt_int (pa_cons (pe_op op_add (pe_op op_add (pe_op op_mul (pe_ix ix_list (pv 0) pe_int (fun _ _ => rfl)) pe_int) (pv 3)) pe_int) pa_nil)) pe_int) (pg_sub (pv 0) pe_int set_list))
    (pss_cons (ps_if (pt_cmpR op_ge (pv 3) (pe_op op_pow pe_int pe_int) (nomark _))
      (pss_one (ps_asg (pe_op op_fdiv (pv 3) (pv 1)) (pg_sub (pv 0) pe_int set_list))) pss_nil)
    (pss_one (ps_ret (pe_op op_mod (pe_callTy call_int1 rfl bi.int bt_int (pa_cons (pv 3) pa_nil)) (pv 1)))))))))
  exact ⟨_, PSs.nox W, taken_sp h⟩

def B__law_alike (g_rec : GA) : Rho → Option Fl := (sSeq (sIf (bB (vIsi2 "tuple" "list" (gV 1))) (sSeq (sIf (bOr (bNot (bB (vIsi2 "tuple" "list" (gV 0)))) (bB (b2 dNe (vIsi "list" (gX 0)) (vIsi "list" (gX 1))))) (sRet (gC (.bool false))) sNil)
  (sSeq (sIf (bB (b2 dNe (aOf gLen (aCons (gX 0) aNil)) (aOf gLen (aCons (gX 1) aNil)))) (sRet (gC (.bool false))) sNil)
  (sRet (b2 dEq (fun ρ => ((cLc [2] (tgN 2) (bNot (bB (aOf g_rec (aCons (b2 dIx (gX 0) (gX 2)) (aCons (b2 dIx (gX 1) (gX 2)) aNil))))) (gV 2) (aOf gRng1 (aCons (aOf gLen (aCons (gX 1) aNil)) aNil))) ρ).map PyData.list) (fun ρ => (aNil ρ).map PyData.list))))) sNil)
  (sSeq (sIf (bOr (bB (b2 dIsN (gX 1) (gC .none))) (bB (vIsi "str" (gX 1)))) (sRet (vAnd (b2 dEq (gX 0) (gX 1)) (b2 dEq (vIsi "str" (gX 0)) (vIsi "str" (gX 1))))) sNil)
  (sRet (vAnd (vIsi "int" (gX 0)) (vAnd (b2 dEq (vIsi "bool" (gX 0)) (vIsi "bool" (gX 1))) (b2 dEq (gX 0) (gX 1)))))))
def gR__law_alike : Nat → GA
  | 0 => fun _ => none
  | n + 1 => runF 3 (B__law_alike (gR__law_alike n))
def g__law_alike : GA := gR__law_alike 8

abbrev s__law_alike : Stmt := topS 33
theorem sc__law_alike : FnScope ["_law_found", "_law_due", "_law_k"] ["_law_found", "_law_due"] (defScope s__law_alike) := ⟨rfl, rfl, rfl, by decide +kernel, rfl, by decide +kernel, by decide +kernel⟩
theorem okR__law_alike (bi : Bi mg) (Fd : ∃ f fd, FunD K "_law_alike" "_law_alike" (defArgs s__law_alike) (defBody s__law_alike) (defScope s__law_alike) [] [] f fd ∧ mg "_law_alike" = some (.ref f)) : ∀ j : Nat, DG P w K mg base "_law_alike" (j + 1) 2 (gR__law_alike j)
  | 0 => by
    obtain ⟨f, fd, Fd, m⟩ := Fd
    exact ⟨f, fd, ["_law_found", "_law_due"], fn_none, m, Fd.kp, Fd.bindsN fun _ _ _ _ _ _ us hl => match us, hl with | [_, _], _ => by kernel_rfl⟩
  | j + 1 => by
    have c__law_alike := okR__law_alike bi Fd j
    obtain ⟨f, fd, Fd, m⟩ := Fd
    refine ⟨f, fd, ["_law_found", "_law_due"], fn_pureF (k := j + 1) (N := ["_law_found", "_law_due", "_law_k"]) (g := B__law_alike (gR__law_alike j)) Fd sc__law_alike rfl (by decide) (fun cdv A outer s H E hr => ?_), m, Fd.kp, Fd.bindsN fun _ _ _ _ _ _ us hl => match us, hl with | [_, _], _ => by kernel_rfl⟩
    generalize gR__law_alike j = g_rec at c__law_alike ⊢
    have rm := rm_of (X := (cxOf CX0 P w K mg base ["_law_found", "_law_due", "_law_k"] "_law_alike" (defScope s__law_alike) f cdv A outer s H E).nox) hr
    have nd := sc__law_alike.nd
    exact (sfs_cons (sf_if (tf_val (ef_isi2 (T := "tuple") (U := "list") (ev 1) rfl bi.isinstance rfl bi.tuple bt_tuple rfl bi.list bt_list (hv := bt_isi))) (sfs_cons (sf_if (TWW.t (tf_or (tf_not (tf_val (ef_isi2 (T := "tuple") (U := "list") (ev 0) rfl bi.isinstance rfl bi.tuple bt_tuple rfl bi.list bt_list (hv := bt_isi)))) (tf_or1 (tf_cmp (og_ne rm) (EW.x (ef_isi (T := "list") (xv 0) rfl bi.isinstance rfl bi.list bt_list (hv := bt_isi))) (EW.x (ef_isi (T := "list") (xv 1) rfl bi.isinstance rfl bi.list bt_list (hv := bt_isi))) (nomark _))))) (sws_one (sf_ret ef_bl)) sfs_nil)
    (sfs_cons (sf_if (tf_cmp (og_ne rm) (EW.x (c_len bi (xa_cons (xv 0) xa_nil))) (EW.x (c_len bi (xa_cons (xv 1) xa_nil))) (nomark _)) (sws_one (sf_ret ef_bl)) sfs_nil)
    (sws_one (sf_ret (ef_cmp (og_eq rm) (EW.x (NF.e (NW.lc (nw_lc (own := [("_law_k", 2)]) (g := (tgN 2)) (T := fW (bNot (bB (aOf g_rec (aCons (b2 dIx (gX 0) (gX 2)) (aCons (b2 dIx (gX 1) (gX 2)) aNil)))))) (E := fW (gV 2)) rfl nd (if_rng1 rfl bi.range (xa_cons (EW.x (c_len bi (xa_cons (xv 1) xa_nil))) xa_nil)) (blkOk_by (own := [("_law_k", 2)]) (by kernel_rfl)) (fun _ _ _ _ _ => (gw_sub (gw_name (i := 2) nd rfl (by first | exact Or.inl rfl | exact Or.inr rfl)))) (fun _ _ _ _ _ => (ts_one (tf_not (tf_val (ef_call (c__law_alike.cal hr (by omega)) (ea_cons (ef_ix (xv 0) (xv 2)) (ea_cons (ef_ix (xv 1) (xv 2)) ea_nil)) (lenA_cons (lenA_cons lenA_nil)) rfl))))) (fun _ _ _ _ _ => (ev 2)) s)))) (EW.x (NF.e (nf_lst ea_nil lenA_nil))) (nomark _)))))) sfs_nil)
    (sfs_cons (sf_if (TWW.t (tf_or (tf_cmp og_isN (xv 1) (EW.x ef_non) (nomark _)) (tf_or1 (tf_val (ef_isi (T := "str") (xv 1) rfl bi.isinstance rfl bi.str bt_str (hv := bt_isi)))))) (sws_one (sf_ret (ef_and (ef_cmp (og_eq rm) (xv 0) (xv 1) (nomark _)) (ef_one (ef_cmp (og_eq rm) (EW.x (ef_isi (T := "str") (xv 0) rfl bi.isinstance rfl bi.str bt_str (hv := bt_isi))) (EW.x (ef_isi (T := "str") (xv 1) rfl bi.isinstance rfl bi.str bt_str (hv := bt_isi))) (nomark _)))))) sfs_nil)
    (sws_one (sf_ret (ef_and (ef_isi (T := "int") (xv 0) rfl bi.isinstance rfl bi.int bt_int (hv := bt_isi)) (ef_and (ef_cmp (og_eq rm) (EW.x (ef_isi (T := "bool") (xv 0) rfl bi.isinstance rfl bi.bool bt_bool (hv := bt_isi))) (EW.x (ef_isi (T := "bool") (xv 1) rfl bi.isinstance rfl bi.bool bt_bool (hv := bt_isi))) (nomark _)) (ef_one (ef_cmp (og_eq rm) (xv 0) (xv 1) (nomark _)))))))))
theorem ok__law_alike (bi : Bi mg) (Fd : ∃ f fd, FunD K "_law_alike" "_law_alike" (defArgs s__law_alike) (defBody s__law_alike) (defScope s__law_alike) [] [] f fd ∧ mg "_law_alike" = some (.ref f)) : DG P w K mg base "_law_alike" 9 2 g__law_alike := okR__law_alike bi Fd 8

abbrev s__law_by : Stmt := topS 34
theorem sc__law_by : FnScope ["_law_many", "_law_couples", "_law_found", "_law_one", "_law_other", "_law_person", "_law_own"] ["_law_many", "_law_couples"] (defScope s__law_by) := ⟨rfl, rfl, rfl, by decide +kernel, rfl, by decide +kernel, by decide +kernel⟩
theorem ok__law_by (bi : Bi mg) (Fd : ∃ f fd, FunD K "_law_by" "_law_by" (defArgs s__law_by) (defBody s__law_by) (defScope s__law_by) [] [] f fd ∧ mg "_law_by" = some (.ref f)) : DefOk P w K mg base "_law_by" 1 (spF K 2 wBy) := by
  obtain ⟨f, fd, Fd, m⟩ := Fd
  refine ⟨f, fd, ["_law_many", "_law_couples"], Fd.ok sc__law_by (fun vs H Q E h => h.1) (fun cdv A outer s H vs Q E hr h => ⟨tBy K, PSs.nox ?_, by_sp h⟩), m, Fd.kp, Fd.bindsN fun _ _ _ _ _ _ us hl => match us, hl with | [_, _], _ => by kernel_rfl⟩
  have hu : (A.deeper (envOfC "_law_by" (defScope s__law_by) s.heap.objs.size f cdv)).units + 1 < cLine := by have := hr.un; omega
  have nd := sc__law_by.nd
  have W : PSs (cxOf CX0 P w K mg base _ "_law_by" (defScope s__law_by) f cdv A outer s H E).nox (defBody s__law_by) _ :=
    pss_cons (ps_setLc (i := 2) rfl nd rfl rfl (by rfl) (pi_range1 (by rfl) bi.range (pa_cons (pv 0) pa_nil)) (blkOk_by (own := [("_law_person", 5)]) (by kernel_rfl)) (fun _ _ _ _ _ => pg_name (i := 5) nd rfl (by first | exact Or.inl rfl | exact Or.inr rfl)) (fun _ _ _ _ _ => pts_nil) (fun _ _ _ _ _ => pe_dnewK))
    (pss_cons (ps_for PassesOwn.never rfl (pi_list (pv 1)) (pg_tup rfl (pgs_cons (pg_name (i := 3) nd rfl (Or.inl rfl)) (pgs_cons (pg_name (i := 4) nd rfl (Or.inl rfl)) pgs_nil)))
      (pss_cons (ps_dput hu (pe_ix ix_list (pv 2) (pv 3) (fun _ _ => rfl)) (pv 4) pe_bl (by rfl))
        (pss_one (ps_dput hu (pe_ix ix_list (pv 2) (pv 4) (fun _ _ => rfl)) (pv 3) pe_bl (by rfl)))))
    (pss_one (ps_ret (pe_callTy call_tuple_of rfl bi.tuple bt_tuple (pa_cons (pe_lc (te := tCB (rTupOf K) (tCons (tCB (rSortedI K) (tCons (tCB rListD (tCons (tVar 6) tNil)) tNil)) tNil)) rfl nd (pi_list (pv 2)) (blkOk_by (own := [("_law_own", 6)]) (by kernel_rfl)) (fun _ _ _ _ _ => pg_name (i := 6) nd rfl (by first | exact Or.inl rfl | exact Or.inr rfl)) (fun _ _ _ _ _ => pts_nil)
      (fun _ _ _ _ _ => pe_callTy call_tuple_of rfl bi.tuple bt_tuple (pa_cons (pe_callB cr_sortedI rfl bi.sorted bt_sorted (pa_cons (pe_callTy (call_list_dK rfl) rfl bi.list bt_list (pa_cons (pv 6) pa_nil)) pa_nil)) pa_nil))) pa_nil)))))
  exact W

def T__law_web : TSt := (wSeq (wPar 2 3 (wCons (w2 dAdd (fW (gC (.int 1))) (wDraw 0 wTaken (wCons (fW (gV 1)) wNil))) (wCons (fW (fun ρ => (aNil ρ).map PyData.list)) wNil)))
  (wSeq (wSet 4 (w2 dAdd (fW (gC (.int 2))) (wDraw 0 wTaken (wCons (fW (gC (.int 3))) wNil))))
  (wSeq (wFor (tgN 5) (fW (aOf gRng1 (aCons (gX 2) aNil))) (wSet 3 (w2 dAdd (fW (gX 3)) (wLst (wLc [6] (tgN 6) (wB (w2 dEq (wDraw 0 wTaken (wCons (fW (gV 4)) wNil)) (fW (gC (.int 0))))) (fW (vTup (aCons (gV 5) (aCons (gV 6) aNil)))) (fW (aOf gRng2 (aCons (b2 dAdd (gX 5) (gC (.int 1))) (aCons (gX 2) aNil)))))))))
  (wRet (wCal wBy (wCons (fW (gV 2)) (wCons (fW (gV 3)) wNil)))))))
def w__law_web : List D → (D → Prop) → Prop := clo (runR 7 T__law_web)

abbrev s__law_web : Stmt := topS 35
theorem sc__law_web : FnScope ["_law_row_here", "_law_most", "_law_many", "_law_couples", "_law_rare", "_law_one", "_law_other"] ["_law_row_here", "_law_most"] (defScope s__law_web) := ⟨rfl, rfl, rfl, by decide +kernel, rfl, by decide +kernel, by decide +kernel⟩
theorem sw__law_web (bi : Bi mg) (c__law_by : DefOk P w K mg base "_law_by" 1 (spF K 2 wBy)) (c__law_taken : DefOk P w K mg base "_law_taken" 1 (spR K 1 wTaken)) (cdv : Value) (A : Around) (outer : List Env) (s : Shared) (H : Hp) (E : XK) (f : Addr) (hr : Room 1 (A.deeper (envOfC "_law_web" (defScope s__law_web) s.heap.objs.size f cdv))) : SWs (cxOf CX0 P w K mg base ["_law_row_here", "_law_most", "_law_many", "_law_couples", "_law_rare", "_law_one", "_law_other"] "_law_web" (defScope s__law_web) f cdv A outer s H E).nox (defBody s__law_web) T__law_web := by
  have rm := rm_of (X := (cxOf CX0 P w K mg base ["_law_row_here", "_law_most", "_law_many", "_law_couples", "_law_rare", "_law_one", "_law_other"] "_law_web" (defScope s__law_web) f cdv A outer s H E).nox) hr
  have nd := sc__law_web.nd
  exact (sws_cons (sw_parL (i := 2) (j := 3) rfl nd rfl rfl (by decide) rfl rfl (eal_cons (ew_bin og_add (EW.x ef_int) (EW.x (ew_draw (i := 0) (c__law_taken.cal hr) wTaken_mono rfl (by first | exact Or.inl rfl | exact Or.inr (Or.inl rfl) | exact Or.inr (Or.inr rfl)) (eal_cons (ev 1) eal_nil) rfl))) (eal_cons (NF.e (nf_lst ea_nil lenA_nil)) eal_nil)) (by rfl))
    (sws_cons (sw_set (i := 4) nd rfl (by first | exact Or.inl rfl | exact Or.inr rfl) (ew_bin og_add (EW.x ef_int) (EW.x (ew_draw (i := 0) (c__law_taken.cal hr) wTaken_mono rfl (by first | exact Or.inl rfl | exact Or.inr (Or.inl rfl) | exact Or.inr (Or.inr rfl)) (eal_cons ef_int eal_nil) rfl))))
    (sws_cons (sw_for PassesOwn.never rfl (if_rng1 rfl bi.range (xa_cons (xv 2) xa_nil)) (gw_name (i := 5) nd rfl (by first | exact Or.inl rfl | exact Or.inr rfl)) (sws_one (sw_set (i := 3) nd rfl (by first | exact Or.inl rfl | exact Or.inr rfl) (ew_bin og_add (xv 3) (EW.x (NW.eL (nw_lc (own := [("_law_other", 6)]) (g := (tgN 6)) (T := (wB (w2 dEq (wDraw 0 wTaken (wCons (fW (gV 4)) wNil)) (fW (gC (.int 0)))))) (E := (fW (vTup (aCons (gV 5) (aCons (gV 6) aNil))))) rfl nd (if_rng2 rfl bi.range (xa_cons (EW.x (ef_bin og_add (xv 5) (EW.x ef_int))) (xa_cons (xv 2) xa_nil))) (blkOk_by (own := [("_law_other", 6)]) (by kernel_rfl)) (fun _ _ _ _ _ => (gw_sub (gw_name (i := 6) nd rfl (by first | exact Or.inl rfl | exact Or.inr rfl)))) (fun _ _ _ _ _ => (ts_one (tw_cmp (og_eq rm) (EW.x (ew_draw (i := 0) (c__law_taken.cal hr) wTaken_mono rfl (by first | exact Or.inl rfl | exact Or.inr (Or.inl rfl) | exact Or.inr (Or.inr rfl)) (eal_cons (ev 4) eal_nil) rfl)) (EW.x ef_int) (nomark _)))) (fun _ _ _ _ _ => (ef_tup (ea_cons (ev 5) (ea_cons (ev 6) ea_nil)) (lenA_cons (lenA_cons lenA_nil)))) s)))))))
    (sws_one (sw_ret (ew_callL (c__law_by.cal hr) wBy_mono (eal_cons (ev 2) (eal_cons (ev 3) eal_nil)) rfl))))))
theorem ok__law_web (bi : Bi mg) (c__law_by : DefOk P w K mg base "_law_by" 1 (spF K 2 wBy)) (c__law_taken : DefOk P w K mg base "_law_taken" 1 (spR K 1 wTaken)) (Fd : ∃ f fd, FunD K "_law_web" "_law_web" (defArgs s__law_web) (defBody s__law_web) (defScope s__law_web) [] [] f fd ∧ mg "_law_web" = some (.ref f)) : DefOk P w K mg base "_law_web" 2 (spR K 1 w__law_web) := by
  obtain ⟨f, fd, Fd, m⟩ := Fd
  exact ⟨f, fd, ["_law_row_here", "_law_most"], fn_row (T := T__law_web) (k := 1) (N := ["_law_row_here", "_law_most", "_law_many", "_law_couples", "_law_rare", "_law_one", "_law_other"]) Fd sc__law_web rfl (by decide) (fun cdv A outer s H E hr => sw__law_web bi c__law_by c__law_taken cdv A outer s H E f hr), m, Fd.kp, Fd.bindsN fun _ _ _ _ _ _ us hl => match us, hl with | [_, _], _ => by kernel_rfl⟩

def T__law_row : TSt := (wRet (wOf gTup (wCons (wLst (wLc [3] (tgN 3) (fW fYes) (wDraw 0 wTaken (wCons (fW (aOf gLen (aCons (gX 1) aNil))) wNil)) (wOf gRng1 (wCons (wDraw 0 wTaken (wCons (fW (b2 dAdd (gX 2) (gC (.int 1)))) wNil)) wNil)))) wNil)))
def w__law_row : List D → (D → Prop) → Prop := clo (runR 4 T__law_row)

abbrev s__law_row : Stmt := topS 36
theorem sc__law_row : FnScope ["_law_row_here", "_law_web_here", "_law_most", "_law_turn"] ["_law_row_here", "_law_web_here", "_law_most"] (defScope s__law_row) := ⟨rfl, rfl, rfl, by decide +kernel, rfl, by decide +kernel, by decide +kernel⟩
theorem sw__law_row (bi : Bi mg) (c__law_taken : DefOk P w K mg base "_law_taken" 1 (spR K 1 wTaken)) (cdv : Value) (A : Around) (outer : List Env) (s : Shared) (H : Hp) (E : XK) (f : Addr) (hr : Room 1 (A.deeper (envOfC "_law_row" (defScope s__law_row) s.heap.objs.size f cdv))) : SWs (cxOf CX0 P w K mg base ["_law_row_here", "_law_web_here", "_law_most", "_law_turn"] "_law_row" (defScope s__law_row) f cdv A outer s H E).nox (defBody s__law_row) T__law_row := by
  have rm := rm_of (X := (cxOf CX0 P w K mg base ["_law_row_here", "_law_web_here", "_law_most", "_law_turn"] "_law_row" (defScope s__law_row) f cdv A outer s H E).nox) hr
  have nd := sc__law_row.nd
  exact (sws_one (sw_ret (cw_tuple bi (xa_consw (EW.x (NW.eL (nw_lc (own := [("_law_turn", 3)]) (g := (tgN 3)) (T := (fW fYes)) (E := (wDraw 0 wTaken (wCons (fW (aOf gLen (aCons (gX 1) aNil))) wNil))) rfl nd (iw_rng1 rfl bi.range (xa_consw (EW.x (ew_draw (i := 0) (c__law_taken.cal hr) wTaken_mono rfl (by first | exact Or.inl rfl | exact Or.inr (Or.inl rfl) | exact Or.inr (Or.inr rfl)) (eal_cons (ef_bin og_add (xv 2) (EW.x ef_int)) eal_nil) rfl)) xa_nilw)) (blkOk_by (own := [("_law_turn", 3)]) (by kernel_rfl)) (fun _ _ _ _ _ => (gw_sub (gw_name (i := 3) nd rfl (by first | exact Or.inl rfl | exact Or.inr rfl)))) (fun _ _ _ _ _ => ts_nil) (fun _ _ _ _ _ => (ew_draw (i := 0) (c__law_taken.cal hr) wTaken_mono rfl (by first | exact Or.inl rfl | exact Or.inr (Or.inl rfl) | exact Or.inr (Or.inr rfl)) (eal_cons (c_len bi (xa_cons (xv 1) xa_nil)) eal_nil) rfl)) s))) xa_nilw))))
theorem ok__law_row (bi : Bi mg) (c__law_taken : DefOk P w K mg base "_law_taken" 1 (spR K 1 wTaken)) (Fd : ∃ f fd, FunD K "_law_row" "_law_row" (defArgs s__law_row) (defBody s__law_row) (defScope s__law_row) [] [] f fd ∧ mg "_law_row" = some (.ref f)) : DefOk P w K mg base "_law_row" 2 (spR K 2 w__law_row) := by
  obtain ⟨f, fd, Fd, m⟩ := Fd
  exact ⟨f, fd, ["_law_row_here", "_law_web_here", "_law_most"], fn_row (T := T__law_row) (k := 1) (N := ["_law_row_here", "_law_web_here", "_law_most", "_law_turn"]) Fd sc__law_row rfl (by decide) (fun cdv A outer s H E hr => sw__law_row bi c__law_taken cdv A outer s H E f hr), m, Fd.kp, Fd.bindsN fun _ _ _ _ _ _ us hl => match us, hl with | [_, _, _], _ => by kernel_rfl⟩

def T__law_up : TSt := (wSeq (wSet 2 (w2 dAdd (fW (gC (.int 2))) (wDraw 0 wTaken (wCons (fW (gC (.int 4))) wNil))))
  (wRet (wOf gTup (wCons (wLst (wLc [3] (tgN 3) (wB (w2 dGt (wDraw 0 wTaken (wCons (fW (gV 2)) wNil)) (fW (gC (.int 0))))) (fW (gV 3)) (fW (aOf gRng1 (aCons (aOf gLen (aCons (gX 1) aNil)) aNil))))) wNil))))
def w__law_up : List D → (D → Prop) → Prop := clo (runR 4 T__law_up)

abbrev s__law_up : Stmt := topS 37
theorem sc__law_up : FnScope ["_law_row_here", "_law_web_here", "_law_rare", "_law_person"] ["_law_row_here", "_law_web_here"] (defScope s__law_up) := ⟨rfl, rfl, rfl, by decide +kernel, rfl, by decide +kernel, by decide +kernel⟩
theorem sw__law_up (bi : Bi mg) (c__law_taken : DefOk P w K mg base "_law_taken" 1 (spR K 1 wTaken)) (cdv : Value) (A : Around) (outer : List Env) (s : Shared) (H : Hp) (E : XK) (f : Addr) (hr : Room 1 (A.deeper (envOfC "_law_up" (defScope s__law_up) s.heap.objs.size f cdv))) : SWs (cxOf CX0 P w K mg base ["_law_row_here", "_law_web_here", "_law_rare", "_law_person"] "_law_up" (defScope s__law_up) f cdv A outer s H E).nox (defBody s__law_up) T__law_up := by
  have rm := rm_of (X := (cxOf CX0 P w K mg base ["_law_row_here", "_law_web_here", "_law_rare", "_law_person"] "_law_up" (defScope s__law_up) f cdv A outer s H E).nox) hr
  have nd := sc__law_up.nd
  exact (sws_cons (sw_set (i := 2) nd rfl (by first | exact Or.inl rfl | exact Or.inr rfl) (ew_bin og_add (EW.x ef_int) (EW.x (ew_draw (i := 0) (c__law_taken.cal hr) wTaken_mono rfl (by first | exact Or.inl rfl | exact Or.inr (Or.inl rfl) | exact Or.inr (Or.inr rfl)) (eal_cons ef_int eal_nil) rfl))))
    (sws_one (sw_ret (cw_tuple bi (xa_consw (EW.x (NW.eL (nw_lc (own := [("_law_person", 3)]) (g := (tgN 3)) (T := (wB (w2 dGt (wDraw 0 wTaken (wCons (fW (gV 2)) wNil)) (fW (gC (.int 0)))))) (E := (fW (gV 3))) rfl nd (if_rng1 rfl bi.range (xa_cons (EW.x (c_len bi (xa_cons (xv 1) xa_nil))) xa_nil)) (blkOk_by (own := [("_law_person", 3)]) (by kernel_rfl)) (fun _ _ _ _ _ => (gw_sub (gw_name (i := 3) nd rfl (by first | exact Or.inl rfl | exact Or.inr rfl)))) (fun _ _ _ _ _ => (ts_one (tw_cmp og_gt (EW.x (ew_draw (i := 0) (c__law_taken.cal hr) wTaken_mono rfl (by first | exact Or.inl rfl | exact Or.inr (Or.inl rfl) | exact Or.inr (Or.inr rfl)) (eal_cons (ev 2) eal_nil) rfl)) (EW.x ef_int) (nomark _)))) (fun _ _ _ _ _ => (ev 3)) s))) xa_nilw)))))
theorem ok__law_up (bi : Bi mg) (c__law_taken : DefOk P w K mg base "_law_taken" 1 (spR K 1 wTaken)) (Fd : ∃ f fd, FunD K "_law_up" "_law_up" (defArgs s__law_up) (defBody s__law_up) (defScope s__law_up) [] [] f fd ∧ mg "_law_up" = some (.ref f)) : DefOk P w K mg base "_law_up" 2 (spR K 1 w__law_up) := by
  obtain ⟨f, fd, Fd, m⟩ := Fd
  exact ⟨f, fd, ["_law_row_here", "_law_web_here"], fn_row (T := T__law_up) (k := 1) (N := ["_law_row_here", "_law_web_here", "_law_rare", "_law_person"]) Fd sc__law_up rfl (by decide) (fun cdv A outer s H E hr => sw__law_up bi c__law_taken cdv A outer s H E f hr), m, Fd.kp, Fd.bindsN fun _ _ _ _ _ _ us hl => match us, hl with | [_, _], _ => by kernel_rfl⟩

def B__law_call : Rho → Option Fl := (sSeq (sIf (bB (b2 dNotIn (gX 2) (gX 1))) (sRet (gV 1)) sNil)
  (sRet (aOf gTup (aCons (fun ρ => ((cLc [3] (tgN 3) (bOr (bB (b2 dGe (gX 3) (gX 2))) (bB (b2 dNotIn (gX 3) (b2 dIx (gX 0) (gX 2))))) (gV 3) (fItems (gV 1))) ρ).map PyData.list) aNil))))
def g__law_call : GA := runF 4 B__law_call

abbrev s__law_call : Stmt := topS 38
theorem sc__law_call : FnScope ["_law_web_here", "_law_here", "_law_person", "_law_other"] ["_law_web_here", "_law_here", "_law_person"] (defScope s__law_call) := ⟨rfl, rfl, rfl, by decide +kernel, rfl, by decide +kernel, by decide +kernel⟩
theorem ok__law_call (bi : Bi mg) (Fd : ∃ f fd, FunD K "_law_call" "_law_call" (defArgs s__law_call) (defBody s__law_call) (defScope s__law_call) [] [] f fd ∧ mg "_law_call" = some (.ref f)) : DG P w K mg base "_law_call" 1 3 g__law_call := by
  obtain ⟨f, fd, Fd, m⟩ := Fd
  refine ⟨f, fd, ["_law_web_here", "_law_here", "_law_person"], fn_pureF (k := 0) (N := ["_law_web_here", "_law_here", "_law_person", "_law_other"]) (g := B__law_call) Fd sc__law_call rfl (by decide) (fun cdv A outer s H E hr => ?_), m, Fd.kp, Fd.bindsN fun _ _ _ _ _ _ us hl => match us, hl with | [_, _, _], _ => by kernel_rfl⟩
  have rm := rm_of (X := (cxOf CX0 P w K mg base ["_law_web_here", "_law_here", "_law_person", "_law_other"] "_law_call" (defScope s__law_call) f cdv A outer s H E).nox) hr
  have nd := sc__law_call.nd
  exact (sfs_cons (sf_if (tf_cmp (og_notIn rm) (xv 2) (xv 1) (by rfl)) (sws_one (sf_ret (ev 1))) sfs_nil)
    (sws_one (sf_ret (c_tuple bi (xa_cons (EW.x (NF.e (NW.lc (nw_lc (own := [("_law_other", 3)]) (g := (tgN 3)) (T := fW (bOr (bB (b2 dGe (gX 3) (gX 2))) (bB (b2 dNotIn (gX 3) (b2 dIx (gX 0) (gX 2)))))) (E := fW (gV 3)) rfl nd (if_seq (ev 1)) (blkOk_by (own := [("_law_other", 3)]) (by kernel_rfl)) (fun _ _ _ _ _ => (gw_sub (gw_name (i := 3) nd rfl (by first | exact Or.inl rfl | exact Or.inr rfl)))) (fun _ _ _ _ _ => (ts_one (TWW.t (tf_or (tf_cmp og_ge (xv 3) (xv 2) (nomark _)) (tf_or1 (tf_cmp (og_notIn rm) (xv 3) (EW.x (ef_ix (xv 0) (xv 2))) (by rfl))))))) (fun _ _ _ _ _ => (ev 3)) s)))) xa_nil)))))

def B__law_done : Rho → Option Fl := (sSeq (sFor (tgN 3) (fItems (gV 2)) (sSet 1 (aOf g__law_call (aCons (gV 0) (aCons (gV 1) (aCons (gV 3) aNil))))))
  (sRet (gV 1)))
def g__law_done : GA := runF 4 B__law_done

abbrev s__law_done : Stmt := topS 39
theorem sc__law_done : FnScope ["_law_web_here", "_law_here", "_law_calls", "_law_person"] ["_law_web_here", "_law_here", "_law_calls"] (defScope s__law_done) := ⟨rfl, rfl, rfl, by decide +kernel, rfl, by decide +kernel, by decide +kernel⟩
theorem ok__law_done (bi : Bi mg) (c__law_call : DG P w K mg base "_law_call" 1 3 g__law_call) (Fd : ∃ f fd, FunD K "_law_done" "_law_done" (defArgs s__law_done) (defBody s__law_done) (defScope s__law_done) [] [] f fd ∧ mg "_law_done" = some (.ref f)) : DG P w K mg base "_law_done" 2 3 g__law_done := by
  obtain ⟨f, fd, Fd, m⟩ := Fd
  refine ⟨f, fd, ["_law_web_here", "_law_here", "_law_calls"], fn_pureF (k := 1) (N := ["_law_web_here", "_law_here", "_law_calls", "_law_person"]) (g := B__law_done) Fd sc__law_done rfl (by decide) (fun cdv A outer s H E hr => ?_), m, Fd.kp, Fd.bindsN fun _ _ _ _ _ _ us hl => match us, hl with | [_, _, _], _ => by kernel_rfl⟩
  have rm := rm_of (X := (cxOf CX0 P w K mg base ["_law_web_here", "_law_here", "_law_calls", "_law_person"] "_law_done" (defScope s__law_done) f cdv A outer s H E).nox) hr
  have nd := sc__law_done.nd
  exact (sfs_cons (sf_for PassesOwn.never rfl (if_seq (ev 2)) (gw_name (i := 3) nd rfl (by first | exact Or.inl rfl | exact Or.inr rfl)) (sws_one (sf_set (i := 1) nd rfl (by first | exact Or.inl rfl | exact Or.inr rfl) (ef_call (c__law_call.cal hr) (ea_cons (ev 0) (ea_cons (ev 1) (ea_cons (ev 3) ea_nil))) (lenA_cons (lenA_cons (lenA_cons lenA_nil))) rfl))))
    (sws_one (sf_ret (ev 1))))

def B__law_parted : Rho → Option Fl := (sSeq (sSetD 4 true (fun _ => some []))
  (fun ρ => (sSeq (sForN (tgN 5) (fItems (gV 1)) (sSeq (sPuts [6, 7] 2 (pO aNil (pF (gV 5) pNil))) (sSeq (sFor (tgN 8) (fItems (b2 dAdd (vTup (aCons (gC .none) aNil)) (gX 2))) (sSeq (sSet 7 (vIf (bB (b2 dNotN (gX 8) (gC .none))) (aOf g__law_call (aCons (gV 0) (aCons (gV 7) (aCons (gV 8) aNil)))) (gV 7)))
  (sApp 6 (b2 (dApp lg) (gV 3) (gV 7))))) (sSet 9 (aOf gTup (aCons (gX 6) aNil))))) 4 9 7)
  (fun ρ => (sRet (aOf gTup (aCons (fun ρ => ((aOf gSrt (aCons (fun ρ => ((cLc [10] (tgN 10) fYes (aOf gTup (aCons (fun ρ => ((aOf gSrt (aCons (fun ρ => ((fKeysX (gV 10)) ρ).map PyData.list) aNil)) ρ).map PyData.list) aNil)) (fValsX (gV 4))) ρ).map PyData.list) aNil)) ρ).map PyData.list) aNil))) (lckX ρ 4))) (toXR ρ 4)))
def g__law_parted : GA := runF 11 B__law_parted

abbrev s__law_parted : Stmt := topS 40
theorem sc__law_parted : FnScope ["_law_web_here", "_law_some", "_law_calls", "_law_look", "_law_found", "_law_begin", "_law_seen", "_law_here", "_law_person", "_law_key", "_law_kind"] ["_law_web_here", "_law_some", "_law_calls", "_law_look"] (defScope s__law_parted) := ⟨rfl, rfl, rfl, by decide +kernel, rfl, by decide +kernel, by decide +kernel⟩
theorem ok__law_parted (bi : Bi mg) (c__law_call : DG P w K mg base "_law_call" 1 3 g__law_call) (l_law0 : lamOf K "law0" = some L_law0) (l_law1 : lamOf K "law1" = some L_law1) (l_law2 : lamOf K "law2" = some L_law2) (l_seen_numbers : lamOf K "seen_numbers" = some L_seen_numbers) (l_seen_person : lamOf K "seen_person" = some L_seen_person) (l_seen_tallest : lamOf K "seen_tallest" = some L_seen_tallest) (Fd : ∃ f fd, FunD K "_law_parted" "_law_parted" (defArgs s__law_parted) (defBody s__law_parted) (defScope s__law_parted) [] [] f fd ∧ mg "_law_parted" = some (.ref f)) : DG P w K mg base "_law_parted" 2 4 g__law_parted := by
  obtain ⟨f, fd, Fd, m⟩ := Fd
  refine ⟨f, fd, ["_law_web_here", "_law_some", "_law_calls", "_law_look"], fn_pureF (k := 1) (N := ["_law_web_here", "_law_some", "_law_calls", "_law_look", "_law_found", "_law_begin", "_law_seen", "_law_here", "_law_person", "_law_key", "_law_kind"]) (g := B__law_parted) Fd sc__law_parted rfl (by decide) (fun cdv A outer s H E hr => ?_), m, Fd.kp, Fd.bindsN fun _ _ _ _ _ _ us hl => match us, hl with | [_, _, _, _], _ => by kernel_rfl⟩
  have rm := rm_of (X := (cxOf CX0 P w K mg base ["_law_web_here", "_law_some", "_law_calls", "_law_look", "_law_found", "_law_begin", "_law_seen", "_law_here", "_law_person", "_law_key", "_law_kind"] "_law_parted" (defScope s__law_parted) f cdv A outer s H E).nox) hr
  have nd := sc__law_parted.nd
  exact (sfs_cons (sf_setD (i := 4) nd rfl (by first | exact Or.inl rfl | exact Or.inr rfl) nd_nilT)
    (sfs_toX 4 (sfs_cons (sf_forNest (ix := 4) (kx := 9) (hx := 7) rm PassesOwn.never rfl (if_seq (ev 1)) (gw_name (i := 5) nd rfl (by first | exact Or.inl rfl | exact Or.inr rfl)) (SW.puts (sw_own2 (i := 6) (j := 7) rfl nd rfl rfl (by decide) rfl rfl (of_o (nf_lst ea_nil lenA_nil) (of_f (ev 5) of_nil)) (by rfl))) (sf_for PassesOwn.never rfl (if_seq (ef_bin og_add (EW.x (ef_tup (ea_cons ef_non ea_nil) (lenA_cons lenA_nil))) (xv 2))) (gw_name (i := 8) nd rfl (by first | exact Or.inl rfl | exact Or.inr rfl)) (sfs_cons (sf_set (i := 7) nd rfl (by first | exact Or.inl rfl | exact Or.inr rfl) (ef_if (tf_cmp og_notN (xv 8) (EW.x ef_non) (nomark _)) (ef_call (c__law_call.cal hr) (ea_cons (ev 0) (ea_cons (ev 7) (ea_cons (ev 8) ea_nil))) (lenA_cons (lenA_cons (lenA_cons lenA_nil))) rfl) (ev 7)))
    (sws_one (sf_app (i := 6) rfl (by first | exact Or.inl rfl | exact Or.inr (Or.inl rfl) | exact Or.inr (Or.inr rfl)) (ef_app (lg := lg) (lam_all bi l_law0 l_law1 l_law2 l_seen_numbers l_seen_person l_seen_tallest (X := _) rfl rfl rfl rfl rfl) (hr.mono (by decide)) (i := 3) rfl (by first | exact Or.inl rfl | exact Or.inr (Or.inl rfl) | exact Or.inr (Or.inr rfl)) (ev 7)))))) (sf_set (i := 9) nd rfl (by first | exact Or.inl rfl | exact Or.inr rfl) (c_tuple bi (xa_cons (xv 6) xa_nil))) rfl (by first | exact Or.inl rfl | exact Or.inr (Or.inl rfl) | exact Or.inr (Or.inr rfl)) rfl (by first | exact Or.inl rfl | exact Or.inr (Or.inl rfl) | exact Or.inr (Or.inr rfl)) rfl (by first | exact Or.inl rfl | exact Or.inr (Or.inl rfl) | exact Or.inr (Or.inr rfl)) (is_seq (is_puts (by decide) (ie_pO ie_aNil (ie_pF (ie_gV (by decide)) ie_pNil))) (is_seq (is_for (by decide) (ie_items (ie_b2 (ie_vTup (ie_aCons ie_gC ie_aNil)) (ie_gX (by decide)))) (is_seq (is_set (by decide) (ie_vIf (ie_bB (ie_b2 (ie_gX (by decide)) ie_gC)) (ie_aOf (ie_aCons (ie_gV (by decide)) (ie_aCons (ie_gV (by decide)) (ie_aCons (ie_gV (by decide)) ie_aNil)))) (ie_gV (by decide)))) (is_app (by decide) (ie_b2 (ie_gV (by decide)) (ie_gV (by decide)))))) (is_set (by decide) (ie_aOf (ie_aCons (ie_gX (by decide)) ie_aNil))))).ind (by decide) tgN_own ⟨rfl, rfl, rfl, rfl⟩ (hsl := by intro _ _; rfl))
    (sfs_lockX 4 (sws_one (sf_ret (c_tuple bi (xa_cons (EW.x (NF.e (n_sorted bi rm (xa_cons (EW.x (NF.e (NW.lc (nw_lc (own := [("_law_kind", 10)]) (g := (tgN 10)) (T := fW fYes) (E := fW (aOf gTup (aCons (fun ρ => ((aOf gSrt (aCons (fun ρ => ((fKeysX (gV 10)) ρ).map PyData.list) aNil)) ρ).map PyData.list) aNil))) rfl nd (if_valsX (ev 4)) (blkOk_by (own := [("_law_kind", 10)]) (by kernel_rfl)) (fun _ _ _ _ _ => (gw_sub (gw_name (i := 10) nd rfl (by first | exact Or.inl rfl | exact Or.inr rfl)))) (fun _ _ _ _ _ => ts_nil) (fun _ _ _ _ _ => (c_tuple bi (xa_cons (EW.x (NF.e (n_sorted bi rm (xa_cons (EW.x (NF.e (nf_keysX bi (ev 10)))) xa_nil)))) xa_nil))) s)))) xa_nil)))) xa_nil))))))))

def T_law : TSt := (wSeq (wRow 1 (fW (aCons (gV 0) (aCons (gC (.int 0)) (aCons (gC (.int 9926)) (aCons (gC (.int 0)) aNil))))))
  (wSeq (wPuts [2, 3] 2 (oF (wDraw 1 w__law_web (wCons (fW (gC (.int 6))) wNil)) (oD true (fW (fun _ => some [])) oNil)))
  (wSeq (wFor (tgN 4) (wOf gRng1 (wCons (w2 dAdd (fW (gC (.int 1))) (wDraw 1 wTaken (wCons (fW (gC (.int 8))) wNil))) wNil)) (wPutD 3 (fW (gC (.bool true))) (wDraw 1 w__law_up (wCons (fW (gV 2)) wNil))))
  (wSeq (wPuts [5, 6, 7] 3 (oF (fW (aOf gTup (aCons (fun ρ => ((aOf gSrt (aCons (fun ρ => ((nKeysS 3) ρ).map PyData.list) aNil)) ρ).map PyData.list) aNil))) (oF (wDraw 1 w__law_row (wCons (fW (gV 2)) (wCons (fW (gC (.int 5))) wNil))) (oF (wDraw 1 wTaken (wCons (fW (aOf gLen (aCons (gX 2) aNil))) wNil)) oNil))))
  (fW (sSeq (sIf (bNot (bB (aOf g__law_alike (aCons (aOf g_spread (aCons (gV 2) (aCons (gV 5) (aCons (gV 6) aNil)))) (aCons (aOf gTup (aCons (fun ρ => ((nSortAll (fun ρ => ((cLc [9] (tgN 9) fYes (aOf g__law_done (aCons (gV 2) (aCons (gV 9) (aCons (gV 6) aNil)))) (fItems (gV 5))) ρ).map PyData.list)) ρ).map PyData.list) aNil)) aNil))))) (sRet (gC (.bool false))) sNil)
  (sSeq (sSet 8 (fLam3 g__law_parted "law0" [7] (gV 2) (gV 5) (gV 6)))
  (sSeq (sIf (bNot (bB (aOf g__law_alike (aCons (aOf g_seen_person (aCons (gV 2) (aCons (gV 5) (aCons (gV 6) (aCons (gV 7) aNil))))) (aCons (gV 8) aNil))))) (sRet (gC (.bool false))) sNil)
  (sSeq (sIf (bNot (bB (aOf g__law_alike (aCons (aOf g_is_told (aCons (gV 2) (aCons (gV 5) (aCons (gV 6) (aCons (gV 7) aNil))))) (aCons (b2 dEq (fun ρ => ((cLc [10] (tgN 10) (bB (b2 dGt (aOf gLen (aCons (gX 10) aNil)) (gC (.int 1)))) (gV 10) (fItems (gV 8))) ρ).map PyData.list) (fun ρ => (aNil ρ).map PyData.list)) aNil))))) (sRet (gC (.bool false))) sNil)
  (sSeq (sIf (bNot (bB (aOf g__law_alike (aCons (aOf g_seen_numbers (aCons (gV 2) (aCons (gV 5) (aCons (gV 6) aNil)))) (aCons (fLam3 g__law_parted "law1" [] (gV 2) (gV 5) (gV 6)) aNil))))) (sRet (gC (.bool false))) sNil)
  (sSeq (sIf (bNot (bB (aOf g__law_alike (aCons (aOf g_seen_tallest (aCons (gV 2) (aCons (gV 5) (aCons (gV 6) aNil)))) (aCons (fLam3 g__law_parted "law2" [] (gV 2) (gV 5) (gV 6)) aNil))))) (sRet (gC (.bool false))) sNil)
  (sRet (aOf g__law_alike (aCons (aOf g_with_person (aCons (gV 2) (aCons (gV 5) (aCons (gV 7) aNil)))) (aCons (aOf gTup (aCons (fun ρ => ((cLc [9] (tgN 9) (bB (b2 dIn (gX 7) (gX 9))) (gV 9) (fItems (gV 5))) ρ).map PyData.list) aNil)) aNil)))))))))))))))

abbrev s_law : Stmt := topS 41
theorem sc_law : FnScope ["_law_script", "_law_row_here", "_law_web_here", "_law_found", "_law_turn", "_law_some", "_law_calls", "_law_person", "_law_kinds", "_law_here", "_law_kind"] ["_law_script"] (defScope s_law) := ⟨rfl, rfl, rfl, by decide +kernel, rfl, by decide +kernel, by decide +kernel⟩
theorem sw_law (bi : Bi mg) (c__law_parted : DG P w K mg base "_law_parted" 2 4 g__law_parted) (c__law_alike : DG P w K mg base "_law_alike" 9 2 g__law_alike) (c__law_web : DefOk P w K mg base "_law_web" 2 (spR K 1 w__law_web)) (c__law_row : DefOk P w K mg base "_law_row" 2 (spR K 2 w__law_row)) (c__law_taken : DefOk P w K mg base "_law_taken" 1 (spR K 1 wTaken)) (c_with_person : DG P w K mg base "with_person" 5 3 g_with_person) (c__law_up : DefOk P w K mg base "_law_up" 2 (spR K 1 w__law_up)) (c_spread : DG P w K mg base "spread" 5 3 g_spread) (c_seen_person : DG P w K mg base "seen_person" 5 4 g_seen_person) (c_is_told : DG P w K mg base "is_told" 6 4 g_is_told) (c_seen_numbers : DG P w K mg base "seen_numbers" 5 3 g_seen_numbers) (c_seen_tallest : DG P w K mg base "seen_tallest" 5 3 g_seen_tallest) (c__law_done : DG P w K mg base "_law_done" 2 3 g__law_done) (mt : MkT K mg base "law") (l_law0 : lamOf K "law0" = some L_law0) (l_law1 : lamOf K "law1" = some L_law1) (l_law2 : lamOf K "law2" = some L_law2) (A : Around) (outer : List Env) (s : Shared) (H : Hp) (E : XK) (f : Addr) (hr : Room 9 (A.deeper (envOfC "law" (defScope s_law) s.heap.objs.size f (.ref (He.codeOf K ("law", none)))))) : SWs (cxOf CX0 P w K mg base ["_law_script", "_law_row_here", "_law_web_here", "_law_found", "_law_turn", "_law_some", "_law_calls", "_law_person", "_law_kinds", "_law_here", "_law_kind"] "law" (defScope s_law) f (.ref (He.codeOf K ("law", none))) A outer s H E).nox (defBody s_law) T_law := by
  have rm := rm_of (X := (cxOf CX0 P w K mg base ["_law_script", "_law_row_here", "_law_web_here", "_law_found", "_law_turn", "_law_some", "_law_calls", "_law_person", "_law_kinds", "_law_here", "_law_kind"] "law" (defScope s_law) f (.ref (He.codeOf K ("law", none))) A outer s H E).nox) hr
  have nd := sc_law.nd
  exact (sws_cons (sw_row (ns_set (i := 1) nd rfl (by first | exact Or.inl rfl | exact Or.inr rfl) (nf_lst (ea_cons (ev 0) (ea_cons ef_int (ea_cons ef_int (ea_cons ef_int ea_nil)))) (lenA_cons (lenA_cons (lenA_cons (lenA_cons lenA_nil)))))))
    (sws_cons (sw_ownT (n := 2) rfl nd (is := [2, 3]) (.cons (i := 2) rfl (by first | exact Or.inl rfl | exact Or.inr rfl) (by first | exact .inl rfl | exact .inr rfl) (.cons (i := 3) rfl (by first | exact Or.inl rfl | exact Or.inr rfl) (by first | exact .inl rfl | exact .inr rfl) .nil)) (oa_f (ew_draw (i := 1) (c__law_web.cal hr) clo_mono rfl (by first | exact Or.inl rfl | exact Or.inr (Or.inl rfl) | exact Or.inr (Or.inr rfl)) (eal_cons ef_int eal_nil) rfl) (oa_d (t := true) nd_nilT oa_nil)) rfl rfl (by decide))
    (sws_cons (sw_for PassesOwn.never rfl (iw_rng1 rfl bi.range (xa_consw (EW.x (ew_bin og_add (EW.x ef_int) (EW.x (ew_draw (i := 1) (c__law_taken.cal hr) wTaken_mono rfl (by first | exact Or.inl rfl | exact Or.inr (Or.inl rfl) | exact Or.inr (Or.inr rfl)) (eal_cons ef_int eal_nil) rfl)))) xa_nilw)) (gw_name (i := 4) nd rfl (by first | exact Or.inl rfl | exact Or.inr rfl)) (sws_one (sw_putD (i := 3) rm rfl (by first | exact Or.inl rfl | exact Or.inr (Or.inl rfl) | exact Or.inr (Or.inr rfl)) ef_bl (ew_draw (i := 1) (c__law_up.cal hr) clo_mono rfl (by first | exact Or.inl rfl | exact Or.inr (Or.inl rfl) | exact Or.inr (Or.inr rfl)) (eal_cons (ev 2) eal_nil) rfl))))
    (sws_cons (sw_ownT (n := 3) rfl nd (is := [5, 6, 7]) (.cons (i := 5) rfl (by first | exact Or.inl rfl | exact Or.inr rfl) (by first | exact .inl rfl | exact .inr rfl) (.cons (i := 6) rfl (by first | exact Or.inl rfl | exact Or.inr rfl) (by first | exact .inl rfl | exact .inr rfl) (.cons (i := 7) rfl (by first | exact Or.inl rfl | exact Or.inr rfl) (by first | exact .inl rfl | exact .inr rfl) .nil))) (oa_f (c_tuple bi (xa_cons (EW.x (NF.e (n_sorted bi rm (xa_cons (EW.x (NF.e (nf_keysD (i := 3) bi rfl (by first | exact Or.inl rfl | exact Or.inr (Or.inl rfl) | exact Or.inr (Or.inr rfl))))) xa_nil)))) xa_nil)) (oa_f (ew_draw (i := 1) (c__law_row.cal hr) clo_mono rfl (by first | exact Or.inl rfl | exact Or.inr (Or.inl rfl) | exact Or.inr (Or.inr rfl)) (eal_cons (ev 2) (eal_cons ef_int eal_nil)) rfl) (oa_f (ew_draw (i := 1) (c__law_taken.cal hr) wTaken_mono rfl (by first | exact Or.inl rfl | exact Or.inr (Or.inl rfl) | exact Or.inr (Or.inr rfl)) (eal_cons (c_len bi (xa_cons (xv 2) xa_nil)) eal_nil) rfl) oa_nil))) rfl rfl (by decide))
    (sfs_cons (sf_if (tf_not (tf_val (ef_call (c__law_alike.cal hr) (ea_cons (ef_call (c_spread.cal hr) (ea_cons (ev 2) (ea_cons (ev 5) (ea_cons (ev 6) ea_nil))) (lenA_cons (lenA_cons (lenA_cons lenA_nil))) rfl) (ea_cons (c_tuple bi (xa_cons (EW.x (NF.e (n_sortAll bi rm (EW.x (NF.e (NW.lc (nw_lc (own := [("_law_here", 9)]) (g := (tgN 9)) (T := fW fYes) (E := fW (aOf g__law_done (aCons (gV 2) (aCons (gV 9) (aCons (gV 6) aNil))))) rfl nd (if_seq (ev 5)) (blkOk_by (own := [("_law_here", 9)]) (by kernel_rfl)) (fun _ _ _ _ _ => (gw_sub (gw_name (i := 9) nd rfl (by first | exact Or.inl rfl | exact Or.inr rfl)))) (fun _ _ _ _ _ => ts_nil) (fun _ _ _ _ _ => (ef_call (c__law_done.cal hr) (ea_cons (ev 2) (ea_cons (ev 9) (ea_cons (ev 6) ea_nil))) (lenA_cons (lenA_cons (lenA_cons lenA_nil))) rfl)) s))))))) xa_nil)) ea_nil)) (lenA_cons (lenA_cons lenA_nil)) rfl))) (sws_one (sf_ret ef_bl)) sfs_nil)
    (sfs_cons (sf_set (i := 8) nd rfl (by first | exact Or.inl rfl | exact Or.inr rfl) (ef_callLam3 (L := L_law0) (q := "law0") (js := [7]) (c__law_parted.cal hr) (ev 2) (ev 5) (ev 6) mt.tb rfl (lamQ_law.trans lamQ_0.symm) l_law0 (mt.tmq lamQ_0) (mt.tuq lamQ_0) rfl (show NdefX.ndefB (defScope s_law) L_law0.scope L_law0.fr = true by decide +kernel) rfl (fun _ => rfl) rfl (he := fun a as h => by rcases h with h | h | h | h <;> subst h <;> rfl)))
    (sfs_cons (sf_if (tf_not (tf_val (ef_call (c__law_alike.cal hr) (ea_cons (ef_call (c_seen_person.cal hr) (ea_cons (ev 2) (ea_cons (ev 5) (ea_cons (ev 6) (ea_cons (ev 7) ea_nil)))) (lenA_cons (lenA_cons (lenA_cons (lenA_cons lenA_nil)))) rfl) (ea_cons (ev 8) ea_nil)) (lenA_cons (lenA_cons lenA_nil)) rfl))) (sws_one (sf_ret ef_bl)) sfs_nil)
    (sfs_cons (sf_if (tf_not (tf_val (ef_call (c__law_alike.cal hr) (ea_cons (ef_call (c_is_told.cal hr) (ea_cons (ev 2) (ea_cons (ev 5) (ea_cons (ev 6) (ea_cons (ev 7) ea_nil)))) (lenA_cons (lenA_cons (lenA_cons (lenA_cons lenA_nil)))) rfl) (ea_cons (ef_cmp (og_eq rm) (EW.x (NF.e (NW.lc (nw_lc (own := [("_law_kind", 10)]) (g := (tgN 10)) (T := fW (bB (b2 dGt (aOf gLen (aCons (gX 10) aNil)) (gC (.int 1))))) (E := fW (gV 10)) rfl nd (if_seq (ev 8)) (blkOk_by (own := [("_law_kind", 10)]) (by kernel_rfl)) (fun _ _ _ _ _ => (gw_sub (gw_name (i := 10) nd rfl (by first | exact Or.inl rfl | exact Or.inr rfl)))) (fun _ _ _ _ _ => (ts_one (tf_cmp og_gt (EW.x (c_len bi (xa_cons (xv 10) xa_nil))) (EW.x ef_int) (nomark _)))) (fun _ _ _ _ _ => (ev 10)) s)))) (EW.x (NF.e (nf_lst ea_nil lenA_nil))) (nomark _)) ea_nil)) (lenA_cons (lenA_cons lenA_nil)) rfl))) (sws_one (sf_ret ef_bl)) sfs_nil)
    (sfs_cons (sf_if (tf_not (tf_val (ef_call (c__law_alike.cal hr) (ea_cons (ef_call (c_seen_numbers.cal hr) (ea_cons (ev 2) (ea_cons (ev 5) (ea_cons (ev 6) ea_nil))) (lenA_cons (lenA_cons (lenA_cons lenA_nil))) rfl) (ea_cons (ef_callLam3 (L := L_law1) (q := "law1") (js := []) (c__law_parted.cal hr) (ev 2) (ev 5) (ev 6) mt.tb rfl (lamQ_law.trans lamQ_1.symm) l_law1 (mt.tmq lamQ_1) (mt.tuq lamQ_1) rfl (show NdefX.ndefB (defScope s_law) L_law1.scope L_law1.fr = true by decide +kernel) rfl (fun _ => rfl) rfl (he := fun a as h => by rcases h with h | h | h | h <;> subst h <;> rfl)) ea_nil)) (lenA_cons (lenA_cons lenA_nil)) rfl))) (sws_one (sf_ret ef_bl)) sfs_nil)
    (sfs_cons (sf_if (tf_not (tf_val (ef_call (c__law_alike.cal hr) (ea_cons (ef_call (c_seen_tallest.cal hr) (ea_cons (ev 2) (ea_cons (ev 5) (ea_cons (ev 6) ea_nil))) (lenA_cons (lenA_cons (lenA_cons lenA_nil))) rfl) (ea_cons (ef_callLam3 (L := L_law2) (q := "law2") (js := []) (c__law_parted.cal hr) (ev 2) (ev 5) (ev 6) mt.tb rfl (lamQ_law.trans lamQ_2.symm) l_law2 (mt.tmq lamQ_2) (mt.tuq lamQ_2) rfl (show NdefX.ndefB (defScope s_law) L_law2.scope L_law2.fr = true by decide +kernel) rfl (fun _ => rfl) rfl (he := fun a as h => by rcases h with h | h | h | h <;> subst h <;> rfl)) ea_nil)) (lenA_cons (lenA_cons lenA_nil)) rfl))) (sws_one (sf_ret ef_bl)) sfs_nil)
    (sws_one (sf_ret (ef_call (c__law_alike.cal hr) (ea_cons (ef_call (c_with_person.cal hr) (ea_cons (ev 2) (ea_cons (ev 5) (ea_cons (ev 7) ea_nil))) (lenA_cons (lenA_cons (lenA_cons lenA_nil))) rfl) (ea_cons (c_tuple bi (xa_cons (EW.x (NF.e (NW.lc (nw_lc (own := [("_law_here", 9)]) (g := (tgN 9)) (T := fW (bB (b2 dIn (gX 7) (gX 9)))) (E := fW (gV 9)) rfl nd (if_seq (ev 5)) (blkOk_by (own := [("_law_here", 9)]) (by kernel_rfl)) (fun _ _ _ _ _ => (gw_sub (gw_name (i := 9) nd rfl (by first | exact Or.inl rfl | exact Or.inr rfl)))) (fun _ _ _ _ _ => (ts_one (tf_cmp (og_in rm) (xv 7) (xv 9) (by rfl)))) (fun _ _ _ _ _ => (ev 9)) s)))) xa_nil)) ea_nil)) (lenA_cons (lenA_cons lenA_nil)) rfl)))))))))))))

end
end W

set_option Elab.async false
set_option linter.all false
set_option maxRecDepth 100000
set_option maxHeartbeats 1000000
namespace W
open PySem PySem.Spec PyProof.Rows L2 L2.P
theorem v_is_integer (k : Int) : g_is_integer [.int k] = some (.bool true) := rfl
theorem v_is_in (k a b : Int) : g_is_in [.int k, .int a, .int b] = some (.bool (decide (a ≤ k) && decide (k ≤ b))) := by
  refine runF_rt ?_
  show B_is_in [.v (.int k), .v (.int a), .v (.int b)] = _
  unfold B_is_in
  simp [gV, gX, v_is_integer]
  by_cases h : a ≤ k <;> simp [h]
theorem v_is_list (xs : List D) (a b : Int) : g_is_list [.tuple xs, .int a, .int b] = some (.bool (decide (a ≤ (xs.length : Int)) && decide ((xs.length : Int) ≤ b))) := by
  refine runF_rt ?_
  show B_is_list [.v (.tuple xs), .v (.int a), .v (.int b)] = _
  unfold B_is_list
  have e : isiB (tyN (.tuple xs)) "tuple" = true := rfl
  simp [gV, gX, e, noIs]
  by_cases h : a ≤ (xs.length : Int) <;> simp [h]
theorem v_need_web {w : List (List Int)} (h : Web w) : g_need_web [webD w] = some .none := by
  have hp := h.pos
  have hl := h.le
  refine run_nx ?_
  show fW B_need_web [.v (webD w), .no, .no, .no, .no] _
  refine q_no (by simp [gV, webD_tR, v_is_list]; omega) ?_
  refine q_set (.int (w.length : Int)) (by simp [gX]) ?_
  refine q_chk (fun v : Sl × Sl => [.v (webD w), .v (.int (w.length : Int)), v.1, v.2, .no]) (upI w.length) (fun i => .tuple [.int i, tR (fr w i)]) (.no, .no) (by rw [← enum_web]; rfl) rfl (fun v i hi => ?_) fun v => ?_
  · obtain ⟨h0, h1⟩ := mem_upI.mp hi
    have hfl := h.frlen h0 h1
    refine ⟨_, rfl, q_no ?_ (s_no ?_ (s_nil ⟨(_, _), rfl⟩))⟩
    · have hall := h.all h0 h1
      simp [gV, gX, v_is_list]
      rw [cLc_all (fr w i) .int (fun k => decide (0 ≤ k) && decide (k ≤ (w.length : Int) - 1)) rfl rfl (fun k hk => ⟨_, rfl, rfl, by simp [gV, gX, v_is_in]⟩)]
      simp only [Option.bind_some, Option.map_some, List.map_map, e_gAllC, hall, e_isB]
      simp
      omega
    · have hne := (encInt.list).ne (fr w i) (fr w i)
      have hnot : i ∉ fr w i := fun hm => (h.inn i i h0 h1 hm).2.2 rfl
      have hs := e_sortSet (fr w i) (by omega)
      simp [gV, gX, nSortSet, hs, hne, sortD_self (h.up i h0 h1), hnot]
  · refine s_chk (fun v : Sl × Sl => [.v (webD w), .v (.int (w.length : Int)), v.1, v.2, .no]) (upI w.length) (fun i => .tuple [.int i, tR (fr w i)]) v (by rw [← enum_web]; rfl) rfl (fun v i hi => ?_) fun v => ⟨_, rfl⟩
    obtain ⟨h0, h1⟩ := mem_upI.mp hi
    refine ⟨_, rfl, s_no ?_ (s_nil ⟨(_, _), rfl⟩)⟩
    have hall : ((fr w i).any fun k => !decide (i ∈ fr w k)) = false := by
      rw [List.any_eq_false]
      intro k hk
      simp [h.sym i k h0 h1 hk]
    simp [gV, gX]
    rw [cLc_all (fr w i) .int (fun k => !decide (i ∈ fr w k)) rfl rfl (fun k hk => ⟨_, rfl, rfl, by
      have := h.inn i k h0 h1 hk
      have e := ix_web (w := w) (i := k) this.1 this.2.1
      simp [gV, gX, e]⟩)]
    simp only [Option.bind_some, Option.map_some, List.map_map, e_gAnyC, hall, e_isB]
theorem v_is_set {w : List (List Int)} {st : List Int} (h : Ppl w.length st) (hl : w.length ≤ 7) : g_is_set [webD w, tR st] = some (.bool true) := by
  have hle := h.len
  refine run_rt ?_
  show fW B_is_set [.v (webD w), .v (tR st), .no, .no] _
  refine q_set (.int (w.length : Int)) (by simp [gX]) (q_no ?_ (s_ret _ ?_ rfl))
  · simp [gV, gX, v_is_list]
    rw [cLc_all st .int (fun k => decide (0 ≤ k) && decide (k ≤ (w.length : Int) - 1)) rfl rfl (fun k hk => ⟨_, rfl, rfl, by simp [gV, gX, v_is_in]⟩)]
    simp only [Option.bind_some, Option.map_some, List.map_map, e_gAllC, h.all, e_isB]
    simp
    omega
  · have hq := (encInt.list).eq st st
    have hs := e_sortSet st (by omega)
    simp [gV, gX, nSortSet, hs, hq, sortD_self h.up]
theorem v_need_person {w : List (List Int)} {p : Int} (h0 : 0 ≤ p) (h1 : p < w.length) : g_need_person [webD w, .int p] = some .none := by
  refine run_nx ?_
  show fW B_need_person [.v (webD w), .v (.int p)] _
  exact s_no (by simp [gV, gX, v_is_in]; omega) (s_nil ⟨_, rfl⟩)
/-- the same twice -/
theorem alike_int (g : GA) (a : Int) : runF 3 (B__law_alike g) [.int a, .int a] = some (.bool true) := by
  refine run_rt ?_
  show fW (B__law_alike g) [.v (.int a), .v (.int a), .no] _
  refine q_no rfl (q_no rfl (s_ret _ ?_ rfl))
  have e : isiB (tyN (.int a)) "int" = true := rfl
  simp [gX, e, noIs]
theorem alike_bool (g : GA) (a : Bool) : runF 3 (B__law_alike g) [.bool a, .bool a] = some (.bool true) := by
  refine run_rt ?_
  show fW (B__law_alike g) [.v (.bool a), .v (.bool a), .no] _
  refine q_no rfl (q_no rfl (s_ret _ ?_ rfl))
  have e : isiB (tyN (.bool a)) "int" = true := rfl
  simp [gX, e, noIs]
theorem alike_none (g : GA) : runF 3 (B__law_alike g) [.none, .none] = some (.bool true) := rfl
theorem alike_seq (g : GA) (xs : List D) (c : List D → D) (hc : c = .tuple ∨ c = .list) (hl : xs.length ≤ 1000000) (h : ∀ x ∈ xs, g [x, x] = some (.bool true)) : runF 3 (B__law_alike g) [c xs, c xs] = some (.bool true) := by
  refine run_rt ?_
  show fW (B__law_alike g) [.v (c xs), .v (c xs), .no] _
  refine s_seq (s_yes (by rcases hc with rfl | rfl <;> rfl) ?_)
  refine q_no ?_ (q_no ?_ (s_ret _ ?_ rfl))
  · have e1 : (isiB (tyN (c xs)) "tuple" || isiB (tyN (c xs)) "list") = true := by rcases hc with rfl | rfl <;> rfl
    have e9 : noIs (c xs) = false := by rcases hc with rfl | rfl <;> rfl
    simp only [e_bOr, e_bNot, e_bB, e_b2, e_vIsi, e_vIsi2, gV, gX, List.getElem?_cons_zero, List.getElem?_cons_succ, Option.map_some, Option.bind_some, e_isB, e1, e_gIsi, e_neb, e9]
    simp
  · rcases hc with rfl | rfl <;> simp [gX]
  · have hr : (aOf gRng1 (aCons (aOf gLen (aCons (gX 1) aNil)) aNil)) [.v (c xs), .v (c xs), .no] = some ((upI xs.length).map .int) := by
      rcases hc with rfl | rfl <;> (simp [gX]; exact gRng1_upI _ (by omega))
    have hi : ∀ i ∈ upI xs.length, ∃ x ∈ xs, dIx (c xs) (.int i) = some x := fun i hi => by
      obtain ⟨h0, h1⟩ := mem_upI.mp hi
      obtain ⟨x, a, b⟩ := atI_ix xs i h0 h1
      exact ⟨x, List.mem_of_getElem? a, by rcases hc with rfl | rfl <;> exact b⟩
    rw [e_b2]
    rw [cLc_map (upI xs.length) .int (fun _ => false) (fun _ => .none) hr rfl (fun i hi' => ⟨_, rfl, by
      obtain ⟨x, hx, e⟩ := hi i hi'
      simp [gX, e, h x hx], fun z => by cases z⟩)]
    rw [List.filter_eq_nil_iff.mpr (fun _ _ z => by cases z)]
    rfl
theorem alike_R : ∀ (n : Nat) (p : D), Al n p → gR__law_alike n [p, p] = some (.bool true)
  | 0, p, h => by cases h
  | n + 1, p, h => by
    cases h with
    | int a => exact alike_int _ a
    | bool a => exact alike_bool _ a
    | none => exact alike_none _
    | tup hl hx => exact alike_seq _ _ .tuple (.inl rfl) hl fun x m => alike_R n x (hx x m)
    | lst hl hx => exact alike_seq _ _ .list (.inr rfl) hl fun x m => alike_R n x (hx x m)
theorem v_alike {p q : D} (h : Al 8 q) (e : p = q) : g__law_alike [p, q] = some (.bool true) := by
  subst e
  exact alike_R 8 p h
theorem w_web {most : Int} {K : D → Prop} (h1 : 1 ≤ most) (h2 : most ≤ 7) (k : ∀ w, Web w → (w.length : Int) ≤ most → K (webD w)) : w__law_web [.int most] K := by
  refine clo_in ?_
  show T__law_web [.row, .v (.int most), .no, .no, .no, .no, .no] _
  refine ⟨_, rfl, rfl, _, rfl, most, rfl, by omega, by omega, fun m hm0 hm1 => ⟨_, rfl, _, rfl, _, _, rfl, ?_⟩⟩
  refine ⟨_, rfl, rfl, _, rfl, 3, rfl, by omega, by omega, fun r hr0 hr1 => ⟨_, rfl, ?_⟩⟩
  have hn : (1 + m) = (((1 + m).toNat : Nat) : Int) := by omega
  generalize (1 + m).toNat = n at hn
  rw [hn]
  refine ⟨_, gRng1_upI n (by omega), ?_⟩
  refine forW_inv (fun s : List (Int × Int) × Sl => [.row, .v (.int most), .v (.int n), .v (.list (s.1.map edgeD)), .v (.int (2 + r)), s.2, .no]) (fun i s => (∀ e ∈ s.1, 0 ≤ e.1 ∧ e.1 < n ∧ 0 ≤ e.2 ∧ e.2 < n ∧ e.1 ≠ e.2) ∧ s.1.length ≤ 7 * i) 10 (upI n) 0 ([], .no) (by rw [upI_length]; omega) ⟨(fun e h => by cases h), Nat.le_refl _⟩ (fun i s x K' hx hi hJ hK => ?_) fun s hs => ?_
  · obtain ⟨h0, h3⟩ := mem_upI.mp hx
    refine ⟨_, rfl, _, rfl, rfl, _, gRng2_frTo (x + 1) n (by omega) (by omega) (by omega) (by omega), ?_⟩
    refine lcV_sub (E := fun y => edgeD (x, y)) (frTo (x + 1) n) [] (fun y hy => ⟨_, rfl, fun K2 hK2 => ?_, fun K2 hK2 => ⟨_, rfl, hK2⟩⟩) fun ys hys => ?_
    · exact ⟨rfl, _, rfl, 2 + r, rfl, by omega, by omega, fun k _ _ => ⟨_, rfl, _, e_eq _ _, _, rfl, hK2 _⟩⟩
    · have hin : ∀ y ∈ ys, x + 1 ≤ y ∧ y < n := fun y hy => mem_frTo.mp (hys.subset hy)
      have hlen : ys.length ≤ 7 := by
        have a := hys.length_le
        have b : (frTo (x + 1) n).length = ((n : Int) - (x + 1)).toNat := by unfold frTo; rw [List.length_map, List.length_range]
        omega
      refine ⟨.list ((s.1 ++ ys.map fun y => (x, y)).map edgeD), ?_, hK (s.1 ++ ys.map fun y => (x, y), .v (.int x)) ⟨fun e he => ?_, ?_⟩⟩
      · show (if _ then _ else _) = _
        rw [if_pos (by rw [List.length_map, List.length_append, List.length_map, List.length_nil, sizeLine_eq]; have := hJ.2; omega), List.map_append, List.map_map, List.nil_append]
        rfl
      · rcases List.mem_append.mp he with he | he
        · exact hJ.1 e he
        · obtain ⟨y, hy, rfl⟩ := List.mem_map.mp he
          have := hin y hy
          simp only; omega
      · rw [List.length_append, List.length_map]
        have := hJ.2
        omega
  · refine ⟨_, rfl, _, rfl, n, s.1, rfl, by omega, ?_, fun e he => ?_, ?_⟩
    · have := hs.2; rw [upI_length] at this; omega
    · have := hs.1 e he; omega
    · exact k (webBy n s.1) (web_webBy (by omega) (by omega) hs.1) (by rw [webBy_len]; omega)
theorem w_up {w : List (List Int)} {K : D → Prop} (h : Web w) (k : ∀ st, Ppl w.length st → K (tR st)) : w__law_up [webD w] K := by
  have hl := h.le
  refine clo_in ?_
  show T__law_up [.row, .v (webD w), .no, .no] _
  refine ⟨_, rfl, rfl, _, rfl, 4, rfl, by omega, by omega, fun r hr0 hr1 => ⟨_, rfl, ?_⟩⟩
  refine ⟨rfl, _, by simp [gX]; exact gRng1_upI w.length (by omega), ?_⟩
  refine lcV_sub (E := .int) (upI w.length) [] (fun y hy => ⟨_, rfl, fun K2 hK2 => ?_, fun K2 hK2 => ⟨_, rfl, hK2⟩⟩) fun ys hys => ?_
  · exact ⟨rfl, _, rfl, 2 + r, rfl, by omega, by omega, fun k _ _ => ⟨_, rfl, _, rfl, _, rfl, hK2 _⟩⟩
  · refine ⟨_, rfl, k ys ⟨?_, fun k hk => mem_upI.mp (hys.subset hk)⟩⟩
    exact List.Pairwise.sublist hys (pw_upI _)
theorem v_need_calls {w : List (List Int)} {cs : List Int} (hw : Web w) (h : Row w.length cs) (hl : cs.length ≤ 60) : g_need_calls [webD w, tR cs] = some .none := by
  refine run_nx ?_
  show fW B_need_calls [.v (webD w), .v (tR cs), .no, .no] _
  refine q_no (by simp [gV, v_is_list]; omega) ?_
  refine s_chk (fun v : Sl × Sl => [.v (webD w), .v (tR cs), v.1, v.2]) (upI cs.length) (fun i => .tuple [.int i, .int (cs.getD i.toNat 0)]) (.no, .no) (by rw [← enum_ints]; rfl) rfl (fun v i hi => ?_) fun v => ⟨_, rfl⟩
  obtain ⟨h0, h1⟩ := mem_upI.mp hi
  have hi2 : i.toNat < cs.length := by omega
  have hm : cs.getD i.toNat 0 ∈ cs := by
    rw [List.getD_eq_getElem?_getD, List.getElem?_eq_getElem hi2]
    exact List.getElem_mem hi2
  have := h _ hm
  clear hm
  generalize cs.getD i.toNat 0 = x at this ⊢
  exact ⟨_, rfl, s_no (by simp only [gV, gX, e_bNot, e_bB, e_aOf, e_aCons, e_aNil, e_b2, e_gC, List.getElem?_cons_zero, List.getElem?_cons_succ, List.set_cons_zero, List.set_cons_succ, Option.bind_some, Option.map_some, e_gLenW, e_sub, v_is_in, e_isB]; simp; omega) (s_nil ⟨(_, _), rfl⟩)⟩
theorem v_call_in {w : List (List Int)} {st : List Int} {p : Int} (h0 : 0 ≤ p) (h1 : p < w.length) : g_call_in [webD w, tR st, .int p] = some (tR (callM w st p)) := by
  refine run_rt ?_
  show fW B_call_in [.v (webD w), .v (tR st), .v (.int p), .no] _
  unfold callM
  by_cases c : p ∈ st
  · rw [if_pos c]
    refine q_no (by simp [gX, c]) (s_ret _ ?_ rfl)
    simp only [e_aOf, e_aCons, e_aNil, Option.map_some]
    rw [cLc_map st .int (fun o => decide (p ≤ o) || !decide (o ∈ fr w p)) .int rfl rfl (fun o ho => ⟨_, rfl, by
      simp [gX, ix_web h0 h1]
      by_cases d : p ≤ o <;> simp [d], fun _ => rfl⟩)]
    rfl
  · rw [if_neg c]
    exact s_seq (s_yes (by simp [gX, c]) (s_ret _ rfl rfl))
theorem v_story_in {w : List (List Int)} {st cs : List Int} (hr : Row w.length cs) (hl : cs.length ≤ 1000) : g_story_in [webD w, tR st, tR cs] = some (.list (stories w st cs (cs.length + 1))) := by
  refine run_rt ?_
  show fW B_story_in [.v (webD w), .v (tR st), .v (tR cs), .no, .no] _
  refine q_seto [tR st] rfl ?_
  refine q_inv (fun (s : List D × Sl) => [.v (webD w), .v (tR st), .v (tR cs), .ol s.1, s.2]) cs .int (fun i s => s.1 = stories w st cs (i + 1)) ([tR st], .no) rfl rfl (by unfold stories; simp [stAt]) (fun i s c hc hJ => ?_) fun s hs => s_ret _ (by simp [gX, hs]) rfl
  obtain ⟨h0, h1⟩ := hr c (List.mem_of_getElem? hc)
  have hi := (List.getElem?_eq_some_iff.mp hc).1
  refine ⟨_, rfl, s_app1 (tR (stAt w st cs (i + 1))) rfl ?_ (by rw [hJ, stories_len, sizeLine_eq]; omega) ⟨(_, _), rfl, ?_⟩⟩
  · simp [gV, gX, hJ, ix_storiesL, v_call_in h0 h1, stAt_succ hc]
  · show s.1 ++ _ = _
    rw [hJ, stories_succ w st cs (i + 1)]
theorem w_row {w : List (List Int)} {most : Int} {K : D → Prop} (h : Web w) (h1 : 0 ≤ most) (h2 : most ≤ 1000) (k : ∀ cs, Row w.length cs → (cs.length : Int) ≤ most → K (tR cs)) : w__law_row [webD w, .int most] K := by
  have hp := h.pos
  have hl := h.le
  refine clo_in ?_
  show T__law_row [.row, .v (webD w), .v (.int most), .no] _
  refine ⟨rfl, rfl, _, rfl, most + 1, rfl, by omega, by omega, fun m hm0 hm1 => ?_⟩
  have hn : m = ((m.toNat : Nat) : Int) := by omega
  generalize m.toNat = n at hn
  subst hn
  refine ⟨_, gRng1_upI n (by omega), ?_⟩
  refine lcV_all (en := .int) (fun y : Int => 0 ≤ y ∧ y < w.length) (upI n) [] (fun x hx => ⟨_, rfl, fun K' hK' => ⟨_, rfl, hK'⟩, fun K' hK' => ⟨rfl, _, by simp [gX], w.length, rfl, by omega, by omega, fun y hy0 hy1 => hK' y ⟨hy0, hy1⟩⟩⟩) fun ys hys hP => ?_
  rw [upI_length] at hys
  exact ⟨_, rfl, k ys hP (by omega)⟩
theorem v__law_call {w : List (List Int)} {st : List Int} {p : Int} (h0 : 0 ≤ p) (h1 : p < w.length) : g__law_call [webD w, tR st, .int p] = some (tR (callM w st p)) := by
  refine run_rt ?_
  show fW B__law_call [.v (webD w), .v (tR st), .v (.int p), .no] _
  unfold callM
  by_cases c : p ∈ st
  · rw [if_pos c]
    refine q_no (by simp [gX, c]) (s_ret _ ?_ rfl)
    simp only [e_aOf, e_aCons, e_aNil, Option.map_some]
    rw [cLc_map st .int (fun o => decide (p ≤ o) || !decide (o ∈ fr w p)) .int rfl rfl (fun o ho => ⟨_, rfl, by
      simp [gX, ix_web h0 h1]
      by_cases d : p ≤ o <;> simp [d], fun _ => rfl⟩)]
    rfl
  · rw [if_neg c]
    exact s_seq (s_yes (by simp [gX, c]) (s_ret _ rfl rfl))
theorem v__law_done {w : List (List Int)} {st cs : List Int} (hr : Row w.length cs) : g__law_done [webD w, tR st, tR cs] = some (tR (cs.foldl (callM w) st)) := by
  refine run_rt ?_
  show fW B__law_done [.v (webD w), .v (tR st), .v (tR cs), .no] _
  refine q_inv (fun (s : List Int × Sl) => [.v (webD w), .v (tR s.1), .v (tR cs), s.2]) cs .int (fun i s => s.1 = stAt w st cs i) (st, .no) rfl rfl rfl (fun i s c hc hJ => ?_) fun s hs => s_ret _ rfl (by rw [hs]; unfold stAt; rw [List.take_length])
  obtain ⟨h0, h1⟩ := hr c (List.mem_of_getElem? hc)
  exact ⟨_, rfl, s_set (tR (callM w s.1 c)) (by simp [gV, v__law_call h0 h1]) ⟨(_, _), rfl, by show callM w s.1 c = _; rw [hJ, stAt_succ hc]⟩⟩
/-- a knowledge: sets of people in order, each once -/
structure KnOk (w : List (List Int)) (ks : List (List Int)) : Prop where
  ppl : ∀ s ∈ ks, Ppl w.length s
  ne : ks ≠ []
  len : ks.length < 64
  pw : ks.Pairwise (· < ·)
theorem v_need_knowledge {w ks : List (List Int)} (h : Web w) (hk : KnOk w ks) : g_need_knowledge [webD w, webD ks] = some .none := by
  have hlen := hk.len
  have hpos : 1 ≤ ks.length := by
    cases e : ks with
    | nil => exact absurd e hk.ne
    | cons _ _ => simp
  refine run_nx ?_
  show fW B_need_knowledge [.v (webD w), .v (webD ks), .no, .no] _
  refine q_drop _ (by simp [gV, v_need_web h]; rfl) (q_no ?_ ?_)
  · have := v_is_list (ks.map tR) 1 128
    rw [List.length_map, decide_eq_true (show (1 : Int) ≤ ks.length by omega), decide_eq_true (show (ks.length : Int) ≤ 128 by omega)] at this
    exact not_b (b := true) (bB_of (c3 (p := webD ks) rfl rfl rfl this))
  refine s_chk (fun v : Sl × Sl => [.v (webD w), .v (webD ks), v.1, v.2]) (upI ks.length) (fun i => .tuple [.int i, tR (fr ks i)]) (.no, .no) (by rw [← enum_web]; rfl) rfl (fun v i hi => ?_) fun v => ⟨_, rfl⟩
  obtain ⟨h0, h1⟩ := mem_upI.mp hi
  have hi2 : i.toNat < ks.length := by omega
  have ef : fr ks i = ks[i.toNat] := by unfold fr; rw [List.getD_eq_getElem?_getD, List.getElem?_eq_getElem hi2]; rfl
  have hs : Ppl w.length (fr ks i) := hk.ppl _ (by rw [ef]; exact List.getElem_mem hi2)
  refine ⟨[.v (webD w), .v (webD ks), .v (.int i), .v (tR (fr ks i))], rfl, s_no (or_no (not_b (b := true) (bB_of (c2 (p := webD w) (q := tR (fr ks i)) rfl rfl (v_is_set hs h.le)))) ?_) (s_nil ⟨(_, _), rfl⟩)⟩
  by_cases c : i = 0
  · subst c
    have := and_b (f := bB (b2 dGt (gX 2) (gC (.int 0)))) (g := bB (b2 dGeP (b2 dIx (gX 1) (b2 dSub (gX 2) (gC (.int 1)))) (gX 3))) (ρ := [.v (webD w), .v (webD ks), .v (.int 0), .v (tR (fr ks 0))]) (b := false) (c := false) rfl (fun z => by cases z)
    exact this
  · have hj : (i - 1).toNat < ks.length := by omega
    have ef2 : fr ks (i - 1) = ks[(i - 1).toNat] := by unfold fr; rw [List.getD_eq_getElem?_getD, List.getElem?_eq_getElem hj]; rfl
    have hlt : fr ks (i - 1) < fr ks i := by
      rw [ef, ef2]
      exact List.pairwise_iff_getElem.mp hk.pw _ _ hj hi2 (by omega)
    have hl := (hk.ppl (fr ks (i - 1)) (by rw [ef2]; exact List.getElem_mem hj)).len
    have hw := h.le
    have e1 : (b2 dIx (gX 1) (b2 dSub (gX 2) (gC (.int 1)))) [.v (webD w), .v (webD ks), .v (.int i), .v (tR (fr ks i))] = some (tR (fr ks (i - 1))) := (b2_of (p := webD ks) (q := .int (i - 1)) rfl rfl).trans (ix_web (by omega) (by omega))
    have e2 : (bB (b2 dGeP (b2 dIx (gX 1) (b2 dSub (gX 2) (gC (.int 1)))) (gX 3))) [.v (webD w), .v (webD ks), .v (.int i), .v (tR (fr ks i))] = some false := cmp_b e1 (q := tR (fr ks i)) rfl (geR_no hlt (by omega))
    have e3 : (bB (b2 dGt (gX 2) (gC (.int 0)))) [.v (webD w), .v (webD ks), .v (.int i), .v (tR (fr ks i))] = some (decide (0 < i)) := cmp_b (p := .int i) (q := .int 0) rfl rfl rfl
    exact (and_b e3 (c := false) fun _ => e2).trans (by rw [Bool.and_false])
theorem v_spread_in {w ks : List (List Int)} {cs : List Int} (hl : ks.length < 64) (hr : Row w.length cs) (hc : cs.length ≤ 1000) : g_spread_in [webD w, webD ks, tR cs] = some (webD (sortR (dedR (ks.map fun s => stAt w s cs cs.length)))) := by
  refine run_rt ?_
  show fW B_spread_in [.v (webD w), .v (webD ks), .v (tR cs), .no] _
  refine s_ret (.tuple ((sortR (dedR (ks.map fun s => stAt w s cs cs.length))).map tR)) (tup_of ?_) rfl
  show (Option.map PyData.list _).bind dSortAll = _
  rw [cLc_map ks tR (fun _ => true) (fun s => tR (stAt w s cs cs.length)) rfl rfl (fun s hs => ⟨_, rfl, rfl, fun _ => (b2_of (c3 (p := webD w) (q := tR s) (r := tR cs) rfl rfl rfl (v_story_in hr hc)) (q := .int (-1)) rfl).trans (ix_storiesL _ _ _ _)⟩), List.filter_eq_self.mpr fun _ _ => rfl]
  show dSortAll (.list (ks.map fun s => tR (stAt w s cs cs.length))) = _
  rw [← sort_all_R (by rw [List.length_map]; exact hl), List.map_map]; rfl
theorem v_spread {w ks : List (List Int)} {cs : List Int} (h : Web w) (hk : KnOk w ks) (hr : Row w.length cs) (hc : cs.length ≤ 60) : g_spread [webD w, webD ks, tR cs] = some (webD (sortR (dedR (ks.map fun s => stAt w s cs cs.length)))) := by
  refine run_rt ?_
  show fW B_spread [.v (webD w), .v (webD ks), .v (tR cs)] _
  exact q_drop _ (c2 (p := webD w) (q := webD ks) rfl rfl (v_need_knowledge h hk)) (q_drop _ (c2 (p := webD w) (q := tR cs) rfl rfl (v_need_calls h hr hc)) (s_ret _ (c3 (p := webD w) (q := webD ks) (r := tR cs) rfl rfl rfl (v_spread_in hk.len hr (by omega))) rfl))
abbrev WE := NestedKey × D × List (List Int)
abbrev enT (x : List Int) : D := .tuple [tR x, .bool true]
abbrev enW (e : WE) : D := .tuple [e.2.1, ndD (e.2.2.map enT)]
def addL (P : List (List Int)) (x : List Int) : List (List Int) := if x ∈ P then P else P ++ [x]
theorem mem_addL {P : List (List Int)} {x y : List Int} : y ∈ addL P x ↔ y ∈ P ∨ y = x := by
  unfold addL
  split
  · rename_i h
    exact ⟨.inl, fun z => z.elim id fun e => e ▸ h⟩
  · rw [List.mem_append, List.mem_singleton]
theorem addL_nd {P : List (List Int)} {x : List Int} (h : P.Nodup) : (addL P x).Nodup := by
  unfold addL
  split
  · exact h
  · rename_i hx
    exact List.nodup_append.mpr ⟨h, by simp, fun a ha b hb e => hx (by rw [← List.mem_singleton.mp hb, ← e]; exact ha)⟩
def putW (Fs : List WE) (nk : NestedKey) (kd : D) (x : List Int) : List WE := if nk ∈ Fs.map (·.1) then Fs.map (fun e => if e.1 = nk then (e.1, e.2.1, addL e.2.2 x) else e) else Fs ++ [(nk, kd, [x])]
def prtW (Fs : List WE) (nk : NestedKey) : List (List Int) := match Fs.find? (fun e => decide (e.1 = nk)) with
  | some e => e.2.2
  | none => []
theorem wkR (r : List Int) : NkD (NS.nkR r) (tR r) := by
  have : ∀ r : List Int, NkDs (r.map NestedKey.num) (r.map PyData.int) := fun r => by
    induction r with
    | nil => exact .nil
    | cons a r ih => exact .cons (.num a) ih
  exact .tup (this r)
theorem wkR_depth (r : List Int) : (NS.nkR r).depth ≤ 8 := by
  have h1 : ∀ r : List Int, NestedKey.depthAll (r.map NestedKey.num) = 0 := fun r => by
    induction r with
    | nil => rfl
    | cons a r ih => simp only [List.map_cons, NestedKey.depthAll, NestedKey.depth, ih, Nat.max_self]
  have := h1 r
  unfold NS.nkR
  simp only [NestedKey.depth, this]
  omega
theorem wkR_key (r : List Int) : nkeyX (tR r) = some (NS.nkR r) := nkeyX_of (wkR r) (wkR_depth r)
theorem nis_W {nk : NestedKey} {e : WE} (h : nkOf e.2.1 = some e.1) : nisK nk (enW e) = decide (e.1 = nk) := by
  show decide (nkOf e.2.1 = some nk) = _
  rw [h]
  by_cases c : e.1 = nk
  · rw [c, decide_eq_true rfl, decide_eq_true rfl]
  · rw [decide_eq_false c, decide_eq_false fun z => c (Option.some.inj z)]
theorem has_W {nk : NestedKey} : ∀ {Fs : List WE}, (∀ e ∈ Fs, nkOf e.2.1 = some e.1) → nhX (Fs.map enW) nk = decide (nk ∈ Fs.map (·.1))
  | [], _ => rfl
  | e :: Fs, h => by
    have ih := has_W (nk := nk) fun e he => h e (List.mem_cons_of_mem _ he)
    unfold nhX at ih ⊢
    rw [List.map_cons, List.any_cons, ih, nis_W (h e List.mem_cons_self)]
    by_cases c : e.1 = nk
    · subst c; simp
    · have : ¬ nk = e.1 := fun z => c z.symm
      simp [c, this]
theorem inn_W {nk : NestedKey} {Fs : List WE} (h : ∀ e ∈ Fs, nkOf e.2.1 = some e.1) : innX (Fs.map enW) nk = some ((prtW Fs nk).map enT) := by
  have key : lookNX (Fs.map enW) nk = (Fs.find? (fun e => decide (e.1 = nk))).map fun e => ndD (e.2.2.map enT) := by
    unfold lookNX
    induction Fs with
    | nil => rfl
    | cons e Fs ih =>
      rw [List.map_cons, List.find?_cons, List.find?_cons, nis_W (h e List.mem_cons_self)]
      by_cases c : e.1 = nk
      · rw [decide_eq_true c]; rfl
      · rw [decide_eq_false c]; exact ih fun e he => h e (List.mem_cons_of_mem _ he)
  unfold innX prtW
  rw [key]
  cases Fs.find? (fun e => decide (e.1 = nk)) <;> rfl
theorem prt_of {nk : NestedKey} : ∀ {Fs : List WE}, (Fs.map (·.1)).Nodup → ∀ {e : WE}, e ∈ Fs → e.1 = nk → prtW Fs nk = e.2.2
  | [], _, e, he, _ => by cases he
  | a :: Fs, h, e, he, hk => by
    rw [List.map_cons, List.nodup_cons] at h
    unfold prtW
    rw [List.find?_cons]
    by_cases c : a.1 = nk
    · rw [decide_eq_true c]
      rcases List.mem_cons.mp he with rfl | he
      · rfl
      · exact absurd (List.mem_map.mpr ⟨e, he, hk.trans c.symm⟩) h.1
    · rw [decide_eq_false c]
      rcases List.mem_cons.mp he with rfl | he
      · exact absurd hk c
      · exact prt_of h.2 he hk
theorem prt_no {nk : NestedKey} {Fs : List WE} (h : nk ∉ Fs.map (·.1)) : prtW Fs nk = [] := by
  unfold prtW
  rw [List.find?_eq_none.mpr fun e he z => h (List.mem_map.mpr ⟨e, he, of_decide_eq_true z⟩)]
theorem nis_T (x y : List Int) : nisK (NS.nkR x) (enT y) = decide (y = x) := by
  refine (nisK_of (wkR y)).trans ?_
  by_cases e : y = x
  · rw [e]; rw [decide_eq_true rfl, decide_eq_true rfl]
  · rw [decide_eq_false e, decide_eq_false fun z => e (NS.nkR_inj z)]
theorem put_T (P : List (List Int)) (x : List Int) : npX (P.map enT) (NS.nkR x) (tR x) (.bool true) = (addL P x).map enT := by
  have hh : nhX (P.map enT) (NS.nkR x) = decide (x ∈ P) := by
    unfold nhX
    induction P with
    | nil => rfl
    | cons a P ih =>
      rw [List.map_cons, List.any_cons, ih, nis_T]
      by_cases e : a = x
      · subst e; simp
      · have : ¬ x = a := fun z => e z.symm
        simp [e, this]
  unfold npX addL
  rw [hh]
  by_cases e : x ∈ P
  · rw [if_pos (decide_eq_true e), if_pos e, List.map_map]
    refine List.map_congr_left fun y _ => ?_
    show (if nisK (NS.nkR x) (enT y) = true then _ else _) = _
    split <;> rfl
  · rw [if_neg (by simp [e]), if_neg e, List.map_append]; rfl
theorem put_W {Fs : List WE} {nk : NestedKey} {kd : D} {x : List Int} (nd : (Fs.map (·.1)).Nodup) (h : ∀ e ∈ Fs, nkOf e.2.1 = some e.1) : npX (Fs.map enW) nk kd (ndD ((addL (prtW Fs nk) x).map enT)) = (putW Fs nk kd x).map enW := by
  unfold npX putW
  rw [has_W h]
  by_cases c : nk ∈ Fs.map (·.1)
  · rw [if_pos (decide_eq_true c), if_pos c, List.map_map, List.map_map]
    refine List.map_congr_left fun e he => ?_
    show (if nisK nk (enW e) = true then _ else _) = enW (if e.1 = nk then _ else _)
    rw [nis_W (h e he)]
    by_cases d : e.1 = nk
    · rw [if_pos (decide_eq_true d), if_pos d, prt_of nd he d]; rfl
    · rw [if_neg (by rw [decide_eq_false d]; simp), if_neg d]
  · rw [if_neg (by rw [decide_eq_false c]; simp), if_neg c, List.map_append, prt_no c]
    unfold addL
    rw [if_neg (by simp)]; rfl
theorem hash_all : ((chM (upI 7)).map fun r => hashN (NS.nkR r)).Nodup := by
  have : (decide ((msF (fun a b : Int => decide (a ≤ b)) 129 ((chM (upI 7)).map fun r => hashN (NS.nkR r))).Pairwise (· < ·))) = true := by kernel_rfl
  have pw := of_decide_eq_true this
  rw [msF_eq _ _ (by rw [List.length_map, chM_len, upI_length]; decide)] at pw
  exact (List.mergeSort_perm _ _).nodup_iff.mp (pw.imp fun h => Int.ne_of_lt h)
theorem hash_T {n : Nat} (hn : n ≤ 7) {P : List (List Int)} (nd : P.Nodup) (hp : ∀ x ∈ P, Ppl n x) : hashX (P.map enT) = true := by
  have inj : ∀ x ∈ P, ∀ y ∈ P, hashN (NS.nkR x) = hashN (NS.nkR y) → x = y := fun x hx y hy e => by
    have m : ∀ x ∈ P, x ∈ chM (upI 7) := fun x hx => mem_chM.mpr ((sub_ppl ⟨pw_upI _, fun k hk => mem_upI.mp hk⟩).mpr ⟨⟨(hp x hx).up, fun k hk => by have := (hp x hx).inn k hk; omega⟩, fun k hk => mem_upI.mpr (by have := (hp x hx).inn k hk; omega)⟩)
    have key : ∀ {l : List (List Int)}, (l.map fun r => hashN (NS.nkR r)).Nodup → ∀ {a b}, a ∈ l → b ∈ l → hashN (NS.nkR a) = hashN (NS.nkR b) → a = b := fun {l} h => by
      induction l with
      | nil => intro a b ha; cases ha
      | cons c l ih =>
        intro a b ha hb e
        rw [List.map_cons, List.nodup_cons] at h
        by_cases ca : a = c
        · by_cases cb : b = c
          · rw [ca, cb]
          · have hb' := (List.mem_cons.mp hb).resolve_left cb
            exact absurd (List.mem_map.mpr ⟨b, hb', by rw [← e, ca]⟩) h.1
        · have ha' := (List.mem_cons.mp ha).resolve_left ca
          by_cases cb : b = c
          · exact absurd (List.mem_map.mpr ⟨a, ha', by rw [e, cb]⟩) h.1
          · exact ih h.2 ha' ((List.mem_cons.mp hb).resolve_left cb) e
    exact key hash_all (m x hx) (m y hy) e
  unfold hashX
  refine decide_eq_true ?_
  rw [List.map_map]
  have e2 : ((fun z => (nkOf (fstZ z)).map hashN) ∘ enT) = fun x => some (hashN (NS.nkR x)) := by
    funext x
    show Option.map hashN (nkOf (tR x)) = _
    rw [nkOf_of (wkR x)]; rfl
  rw [e2]
  exact List.pairwise_map.mpr (nd.imp_of_mem fun {a b} ha hb ne z => ne (inj a ha b hb (Option.some.inj z)))
theorem e_vStar {i : Nat} {fkey fk fv : Rho → Option D} {ρ : Rho} {zs zs' : List D} {kd sd p : D} {nk sk : NestedKey} (hi : ρ[i]? = some (.rw (some (.x zs)))) (h1 : fkey ρ = some kd) (h2 : nkeyX kd = some nk) (h3 : innX zs nk = some zs') (h4 : fk ρ = some sd) (h5 : nkeyX sd = some sk) (h6 : fv ρ = some p) (h7 : hashX zs' = true ∧ zs'.length < sizeLine) : vStar i fkey fk fv ρ = some (ndD (npX zs' sk sd p)) := by
  unfold vStar
  rw [hi]
  show (fkey ρ).bind _ = _
  rw [h1, Option.bind_some, h2, Option.bind_some, h3, Option.bind_some, h4, Option.bind_some, h5, Option.bind_some, h6, Option.bind_some, if_pos h7]
theorem e_sPutX {i : Nat} {f g : Rho → Option D} {ρ : Rho} {zs : List D} {p kd : D} {nk : NestedKey} (hi : ρ[i]? = some (.rw (some (.x zs)))) (h1 : f ρ = some p) (h2 : g ρ = some kd) (h3 : nkeyX kd = some nk) (hl : zs.length < sizeLine) : sPutX i f g ρ = some (.nx (ρ.set i (.rw (some (.x (npX zs nk kd p)))))) := by
  unfold sPutX
  rw [hi]
  show (f ρ).bind _ = _
  rw [h1, Option.bind_some, h2, Option.bind_some, h3, Option.bind_some, if_pos hl]
theorem dApp_w {q : Str} {ps : List D} {a z : D} (ha : a.plain = true) (hp : PyData.plainAll ps = true) (h : lg q (.v a :: (ps.map .v ++ List.replicate (lamX q).length .no)) = some z) (hz : z.plain = true) : dApp lg (fnD q ps) a = some z := by
  show (if a.plain = true ∧ PyData.plainAll ps = true then (lg q (.v a :: (ps.map .v ++ List.replicate (lamX q).length .no))).bind fun z => if z.plain = true then some z else none else none) = _
  rw [if_pos ⟨ha, hp⟩, h, Option.bind_some, if_pos hz]
theorem gsrt_W (ws : List (List (List Int))) (hl : ∀ u ∈ ws, u.length ≤ 200) : ∃ vs : List (List (List Int)), vs.Perm ws ∧ gSrt [.list (ws.map webD)] = some (vs.map webD) := by
  have al : ∀ u v : List (List Int), PySem.W.alikeAll (u.map tR) (v.map tR) = true := fun u => by
    induction u with
    | nil => intro v; simp [PySem.W.alikeAll]
    | cons a u ih =>
      intro v
      cases v with
      | nil => simp [PySem.W.alikeAll]
      | cons b v =>
        rw [List.map_cons, List.map_cons, PySem.W.alikeAll, ih v, Bool.and_true]
        unfold tR PySem.W.alike
        exact PySem.W.alike_ints a b
  have ok : okM (ws.map webD) = true := by
    unfold okM
    rw [Bool.and_eq_true]
    constructor
    · refine List.all_eq_true.mpr fun x hx => ?_
      obtain ⟨u, _, rfl⟩ := List.mem_map.mp hx
      rw [Bool.and_eq_true]
      refine ⟨rfl, List.all_eq_true.mpr fun y hy => ?_⟩
      obtain ⟨v, _, rfl⟩ := List.mem_map.mp hy
      unfold webD PySem.W.alike
      exact al u v
    · rw [okDs_iff]
      have e : okD (.list (ws.map webD)) = true := encInt.tup.tup.list.ok ws
      obtain ⟨e3, e4⟩ := okD_iff.mp e
      unfold PyData.plain at e3
      unfold PyData.depth at e4
      exact ⟨e3, by omega⟩
  refine ⟨ws.mergeSort fun a b => PySem.W.dataLe false id (webD a) (webD b), List.mergeSort_perm _ _, ?_⟩
  show (if okM (ws.map webD) = true then some (sortP (ws.map webD)) else none) = _
  rw [if_pos ok, sortP_ms, ← List.map_mergeSort (f := webD) (r := fun a b => PySem.W.dataLe false id (webD a) (webD b)) (fun a _ b _ => rfl)]
/-- what a watcher is left with: sets of states, each not empty, all of them the states behind the row -/
structure WatchOk (w ks : List (List Int)) (cs : List Int) (nk : List Int → NestedKey) (Ps : List (List (List Int))) : Prop where
  cnt : ∃ L : List NestedKey, L.Nodup ∧ (∀ k, k ∈ L ↔ ∃ s ∈ ks, nk s = k) ∧ Ps.length = L.length
  cls : ∀ p ∈ Ps, ∃ s ∈ ks, ∀ x, x ∈ p ↔ ∃ t ∈ ks, nk t = nk s ∧ x = stAt w t cs cs.length
  cov : ∀ s ∈ ks, ∃ p ∈ Ps, ∀ x, x ∈ p ↔ ∃ t ∈ ks, nk t = nk s ∧ x = stAt w t cs cs.length
  len : Ps.length ≤ ks.length
  mem : ∀ x, (∃ p ∈ Ps, x ∈ p) ↔ ∃ s ∈ ks, x = stAt w s cs cs.length
  ne : ∀ p ∈ Ps, p ≠ []
  pw : ∀ p ∈ Ps, p.Pairwise (· < ·)
/-- what the rows of looks tell of a state's story -/
def nkW (w : List (List Int)) (cs : List Int) (ek : List Int → NestedKey) (s : List Int) : NestedKey := .tup ((List.range (cs.length + 1)).map fun i => ek (stAt w s cs i))
/-- a look: what it shows of a state is a key -/
structure LookOk (n : Nat) (q : Str) (cs' : List D) (ell : List Int → D) (ek : List Int → NestedKey) : Prop where
  plain : PyData.plainAll cs' = true
  at_ : ∀ s, Ppl n s → lg q (.v (tR s) :: (cs'.map .v ++ List.replicate (lamX q).length .no)) = some (ell s)
  key : ∀ s, nkOf (ell s) = some (ek s)
  dep : ∀ s, (ek s).depth = 0
theorem putW_mem {Fs : List WE} {nk : NestedKey} {kd : D} {x : List Int} (y : List Int) : (∃ e ∈ putW Fs nk kd x, y ∈ e.2.2) ↔ (∃ e ∈ Fs, y ∈ e.2.2) ∨ y = x := by
  unfold putW
  split
  · rename_i h
    obtain ⟨e0, h0, h1⟩ := List.mem_map.mp h
    constructor
    · rintro ⟨e, he, hy⟩
      obtain ⟨f, hf, rfl⟩ := List.mem_map.mp he
      split at hy
      · rcases mem_addL.mp hy with hy | hy
        · exact .inl ⟨f, hf, hy⟩
        · exact .inr hy
      · exact .inl ⟨f, hf, hy⟩
    · rintro (⟨e, he, hy⟩ | rfl)
      · refine ⟨_, List.mem_map.mpr ⟨e, he, rfl⟩, ?_⟩
        split
        · exact mem_addL.mpr (.inl hy)
        · exact hy
      · refine ⟨_, List.mem_map.mpr ⟨e0, h0, rfl⟩, ?_⟩
        rw [if_pos h1]
        exact mem_addL.mpr (.inr rfl)
  · constructor
    · rintro ⟨e, he, hy⟩
      rcases List.mem_append.mp he with he | he
      · exact .inl ⟨e, he, hy⟩
      · rw [List.mem_singleton.mp he] at hy
        exact .inr (List.mem_singleton.mp hy)
    · rintro (⟨e, he, hy⟩ | rfl)
      · exact ⟨e, List.mem_append_left _ he, hy⟩
      · exact ⟨_, List.mem_append_right _ (List.mem_singleton.mpr rfl), List.mem_singleton.mpr rfl⟩
theorem putW_keys {Fs : List WE} {nk : NestedKey} {kd : D} {x : List Int} : (putW Fs nk kd x).map (·.1) = if nk ∈ Fs.map (·.1) then Fs.map (·.1) else Fs.map (·.1) ++ [nk] := by
  unfold putW
  split
  · rw [List.map_map]
    exact List.map_congr_left fun e _ => by
      show (if e.1 = nk then _ else _ : WE).1 = _
      split <;> rfl
  · rw [List.map_append]; rfl
structure FsOk (w ks : List (List Int)) (cs : List Int) (nf : List Int → NestedKey) (i : Nat) (Fs : List WE) : Prop where
  cls : ∀ e ∈ Fs, (∃ s ∈ ks.take i, nf s = e.1) ∧ ∀ x, x ∈ e.2.2 ↔ ∃ t ∈ ks.take i, nf t = e.1 ∧ x = stAt w t cs cs.length
  cov : ∀ s ∈ ks.take i, nf s ∈ Fs.map (·.1)
  nd : (Fs.map (·.1)).Nodup
  key : ∀ e ∈ Fs, nkOf e.2.1 = some e.1
  ne : ∀ e ∈ Fs, e.2.2 ≠ []
  pnd : ∀ e ∈ Fs, e.2.2.Nodup
  mem : ∀ x, (∃ e ∈ Fs, x ∈ e.2.2) ↔ ∃ s ∈ ks.take i, x = stAt w s cs cs.length
  len : Fs.length ≤ i
theorem FsOk.put {w ks : List (List Int)} {cs : List Int} {i : Nat} {Fs : List WE} {s : List Int} {nf : List Int → NestedKey} {kd : D} (h : FsOk w ks cs nf i Fs) (hs : ks[i]? = some s) (hk : nkOf kd = some (nf s)) : FsOk w ks cs nf (i + 1) (putW Fs (nf s) kd (stAt w s cs cs.length)) := by
  have mt : ∀ t, t ∈ ks.take (i + 1) ↔ t ∈ ks.take i ∨ t = s := fun t => by
    rw [List.take_add_one, hs, List.mem_append]; simp
  have old : ∀ f ∈ Fs, f.1 ≠ nf s → ∀ x, x ∈ f.2.2 ↔ ∃ t ∈ ks.take (i + 1), nf t = f.1 ∧ x = stAt w t cs cs.length := fun f hf ne x => by
    rw [(h.cls f hf).2 x]
    constructor
    · rintro ⟨t, ht, e⟩; exact ⟨t, (mt t).mpr (.inl ht), e⟩
    · rintro ⟨t, ht, e1, e2⟩
      rcases (mt t).mp ht with ht | rfl
      · exact ⟨t, ht, e1, e2⟩
      · exact absurd e1.symm ne
  have ex : ∀ f ∈ Fs, ∃ t ∈ ks.take (i + 1), nf t = f.1 := fun f hf => by
    obtain ⟨t, ht, e⟩ := (h.cls f hf).1
    exact ⟨t, (mt t).mpr (.inl ht), e⟩
  generalize hnk : nf s = nk at hk old ⊢
  refine ⟨fun e he => ?_, fun t ht => ?_, ?_, fun e he => ?_, fun e he => ?_, fun e he => ?_, fun x => ?_, ?_⟩
  · unfold putW at he
    split at he
    · obtain ⟨f, hf, rfl⟩ := List.mem_map.mp he
      by_cases c : f.1 = nk
      · rw [if_pos c]
        refine ⟨ex f hf, fun x => ?_⟩
        rw [mem_addL, (h.cls f hf).2 x]
        constructor
        · rintro (⟨t, ht, e⟩ | e)
          · exact ⟨t, (mt t).mpr (.inl ht), e⟩
          · exact ⟨s, (mt s).mpr (.inr rfl), hnk.trans c.symm, e⟩
        · rintro ⟨t, ht, e1, e2⟩
          rcases (mt t).mp ht with ht | rfl
          · exact .inl ⟨t, ht, e1, e2⟩
          · exact .inr e2
      · rw [if_neg c]
        exact ⟨ex f hf, old f hf c⟩
    · rename_i hn
      rcases List.mem_append.mp he with he | he
      · exact ⟨ex e he, old e he fun z => hn (List.mem_map.mpr ⟨e, he, z⟩)⟩
      · rw [List.mem_singleton.mp he]
        refine ⟨⟨s, (mt s).mpr (.inr rfl), hnk⟩, fun x => ?_⟩
        constructor
        · intro hx
          exact ⟨s, (mt s).mpr (.inr rfl), hnk, List.mem_singleton.mp hx⟩
        · rintro ⟨t, ht, e1, e2⟩
          rcases (mt t).mp ht with ht | rfl
          · have e3 : nf t = nk := e1
            exact absurd (e3 ▸ h.cov t ht) hn
          · exact List.mem_singleton.mpr e2
  · rw [putW_keys]
    rcases (mt t).mp ht with ht | rfl
    · split
      · exact h.cov t ht
      · exact List.mem_append_left _ (h.cov t ht)
    · rw [hnk]
      split
      · rename_i hh; exact hh
      · exact List.mem_append_right _ (List.mem_singleton.mpr rfl)
  · rw [putW_keys]
    split
    · exact h.nd
    · rename_i hn
      exact List.nodup_append.mpr ⟨h.nd, by simp, fun a ha b hb e => hn (by rw [← List.mem_singleton.mp hb, ← e]; exact ha)⟩
  · unfold putW at he
    split at he
    · obtain ⟨f, hf, rfl⟩ := List.mem_map.mp he
      have := h.key f hf
      split <;> exact this
    · rcases List.mem_append.mp he with he | he
      · exact h.key e he
      · rw [List.mem_singleton.mp he]; exact hk
  · unfold putW at he
    split at he
    · obtain ⟨f, hf, rfl⟩ := List.mem_map.mp he
      split
      · intro z
        have : stAt w s cs cs.length ∈ addL f.2.2 (stAt w s cs cs.length) := mem_addL.mpr (.inr rfl)
        rw [show addL f.2.2 (stAt w s cs cs.length) = [] from z] at this
        cases this
      · exact h.ne f hf
    · rcases List.mem_append.mp he with he | he
      · exact h.ne e he
      · rw [List.mem_singleton.mp he]; exact fun z => by cases z
  · unfold putW at he
    split at he
    · obtain ⟨f, hf, rfl⟩ := List.mem_map.mp he
      split
      · exact addL_nd (h.pnd f hf)
      · exact h.pnd f hf
    · rcases List.mem_append.mp he with he | he
      · exact h.pnd e he
      · rw [List.mem_singleton.mp he]; simp
  · rw [putW_mem, h.mem, List.take_add_one, hs]
    constructor
    · rintro (⟨t, ht, e⟩ | e)
      · exact ⟨t, List.mem_append_left _ ht, e⟩
      · exact ⟨s, List.mem_append_right _ (by simp), e⟩
    · rintro ⟨t, ht, e⟩
      rcases List.mem_append.mp ht with ht | ht
      · exact .inl ⟨t, ht, e⟩
      · have : t = s := by simpa using ht
        exact .inr (this ▸ e)
  · have e := congrArg List.length (putW_keys (Fs := Fs) (nk := nk) (kd := kd) (x := stAt w s cs cs.length))
    rw [List.length_map] at e
    rw [e]
    have := h.len
    split
    · rw [List.length_map]; omega
    · rw [List.length_append, List.length_map, List.length_singleton]; omega
theorem e_fLam3 {g : GA} {q : Str} {js : List Nat} {f0 f1 f2 : Rho → Option D} {ρ : Rho} {p0 p1 p2 z : D} {cs : List D} (h0 : f0 ρ = some p0) (h1 : f1 ρ = some p1) (h2 : f2 ρ = some p2) (hc : capD js ρ = some cs) (hg : g [p0, p1, p2, fnD q cs] = some z) (hz : z.plain = true) : fLam3 g q js f0 f1 f2 ρ = some z := by
  unfold fLam3
  rw [h0, Option.bind_some, h1, Option.bind_some, h2, Option.bind_some, hc, Option.bind_some, hg, Option.bind_some, if_pos hz]
theorem plain_WW (Ps : List (List (List Int))) : (PyData.tuple (Ps.map webD)).plain = true := (okD_iff.mp (encInt.tup.tup.tup.ok Ps)).1
theorem v_is_told {w ks : List (List Int)} {cs : List Int} {p : Int} {Ps : List (List (List Int))} {nk : List Int → NestedKey} (W : WatchOk w ks cs nk Ps) (e : g_seen_person [webD w, webD ks, tR cs, .int p] = some (.tuple (Ps.map webD))) : g_is_told [webD w, webD ks, tR cs, .int p] = some (.bool (Ps.all fun q => decide (q.length = 1))) := by
  refine run_rt ?_
  show fW B_is_told [.v (webD w), .v (webD ks), .v (tR cs), .v (.int p), .no] _
  refine s_ret (.bool (Ps.all fun q => decide (q.length = 1))) (c1 (p := .list (Ps.map fun q => .bool (decide (q.length = 1)))) (lcL ?_) ?_) rfl
  · rw [cLc_map Ps webD (fun _ => true) (fun q => .bool (decide (q.length = 1))) (it_T (c4 (p := webD w) (q := webD ks) (r := tR cs) (t := .int p) rfl rfl rfl rfl e)) rfl (fun y hy => ⟨_, rfl, rfl, fun _ => (b2_of (p := .int ((y.map tR).length : Int)) (q := .int 1) (c1 (p := webD y) rfl rfl) rfl).trans ((encInt.eq ((y.map tR).length : Int) 1 (by decide)).trans (by rw [List.length_map]; congr 2; exact decide_eq_decide.mpr (by omega)))⟩), List.filter_eq_self.mpr fun _ _ => rfl]
  · exact e_gAllC Ps fun q => decide (q.length = 1)
theorem v_with_person {w ks : List (List Int)} {p : Int} (h : Web w) (hk : KnOk w ks) (h0 : 0 ≤ p) (h1 : p < w.length) : g_with_person [webD w, webD ks, .int p] = some (webD (ks.filter fun s => decide (p ∈ s))) := by
  have hkl := hk.len
  refine run_rt ?_
  show fW B_with_person [.v (webD w), .v (webD ks), .v (.int p), .no, .no] _
  refine q_drop _ (c2 (p := webD w) (q := webD ks) rfl rfl (v_need_knowledge h hk)) (q_drop _ (c2 (p := webD w) (q := .int p) rfl rfl (v_need_person h0 h1)) (q_seto [] rfl ?_))
  refine q_appf (fun acc v => [.v (webD w), .v (webD ks), .v (.int p), .ol acc, nv v]) ks tR (fun s => decide (p ∈ s)) tR none rfl rfl (by omega) (fun _ _ => rfl) (fun _ _ _ => rfl) (fun acc v s hs => ⟨rfl, bB_of ((b2_of (p := .int p) (q := tR s) rfl rfl).trans (e_inT p s)), fun _ => rfl⟩) fun v => s_ret (.tuple ((ks.filter fun s => decide (p ∈ s)).map tR)) (by simp [gX]) rfl
end W


set_option Elab.async false
set_option linter.all false
set_option maxRecDepth 1000000
set_option maxHeartbeats 4000000
namespace W
open PySem PySem.Spec PyProof.Rows L2 L2.P
theorem len_dedR : ∀ rs : List (List Int), (dedR rs).length ≤ rs.length
  | [] => Nat.le_refl _
  | r :: rs => by
    have := len_dedR rs
    unfold dedR
    split
    · rw [List.length_cons]; omega
    · rw [List.length_cons, List.length_cons]; omega

def spK (w ks : List (List Int)) (cs : List Int) : List (List Int) := sortR (dedR (ks.map fun s => stAt w s cs cs.length))

section
variable {w ks : List (List Int)}
theorem mem_spK {cs x : List Int} : x ∈ spK w ks cs ↔ ∃ s ∈ ks, cs.foldl (callM w) s = x := by
  unfold spK
  rw [mem_sortR, mem_dedR, List.mem_map]
  constructor
  · rintro ⟨s, hs, e⟩; exact ⟨s, hs, by rw [← stAt_all]; exact e⟩
  · rintro ⟨s, hs, e⟩; exact ⟨s, hs, by rw [stAt_all]; exact e⟩
theorem kn_spK (hk : KnOk w ks) (cs : List Int) : KnOk w (spK w ks cs) := by
  refine ⟨fun x hx => ?_, fun z => ?_, ?_, ?_⟩
  · obtain ⟨s, hs, rfl⟩ := mem_spK.mp hx
    exact fold_ppl _ _ (hk.ppl s hs)
  · obtain ⟨s, hs⟩ := List.exists_mem_of_ne_nil _ hk.ne
    have := (mem_spK (w := w) (cs := cs)).mpr ⟨s, hs, rfl⟩
    rw [z] at this; cases this
  · unfold spK
    rw [(sortR_perm _).length_eq]
    have := len_dedR (ks.map fun s => stAt w s cs cs.length)
    rw [List.length_map] at this
    have := hk.len
    omega
  · have nd : (spK w ks cs).Nodup := (sortR_perm _).nodup_iff.mpr (nodup_dedR _)
    exact (List.Pairwise.and (sortR_pw _) nd).imp fun {a b} ⟨h1, h2⟩ => (lt_or_eqR h1).resolve_right h2

end
/-! ### the parts, told exactly -/
def kdW (w : List (List Int)) (cs : List Int) (ell : List Int → D) (s : List Int) : D := .tuple ((List.range (cs.length + 1)).map fun i => ell (stAt w s cs i))
def fsW (w : List (List Int)) (cs : List Int) (ell : List Int → D) (ek : List Int → NestedKey) (l : List (List Int)) : List WE := l.foldl (fun Fs s => putW Fs (nkW w cs ek s) (kdW w cs ell s) (stAt w s cs cs.length)) []
section
variable {w ks : List (List Int)} {cs : List Int} {q : Str} {cs' : List D} {ell : List Int → D} {ek : List Int → NestedKey} {n : Nat}
theorem fsW_add {i : Nat} {s : List Int} (h : ks[i]? = some s) : fsW w cs ell ek (ks.take (i + 1)) = putW (fsW w cs ell ek (ks.take i)) (nkW w cs ek s) (kdW w cs ell s) (stAt w s cs cs.length) := by
  unfold fsW
  rw [List.take_add_one, h, Option.toList_some, List.foldl_append]
  rfl
theorem kdW_nk (lk : LookOk n q cs' ell ek) (s : List Int) : nkOf (kdW w cs ell s) = some (nkW w cs ek s) := by
  have : ∀ l : List Nat, nkAll (l.map fun i => ell (stAt w s cs i)) = some (l.map fun i => ek (stAt w s cs i)) := fun l => by
    induction l with
    | nil => unfold nkAll; rfl
    | cons a l ih => rw [List.map_cons]; unfold nkAll; rw [lk.key, Option.bind_some, ih]; rfl
  show nkOf (.tuple _) = _
  unfold nkOf
  rw [this]; rfl
theorem kdW_key (lk : LookOk n q cs' ell ek) (s : List Int) : nkeyX (kdW w cs ell s) = some (nkW w cs ek s) := by
  refine nkeyX_of (nkOf_is (kdW_nk lk s)).1 ?_
  have : ∀ l : List Nat, NestedKey.depthAll (l.map fun i => ek (stAt w s cs i)) = 0 := fun l => by
    induction l with
    | nil => rfl
    | cons a l ih => simp only [List.map_cons, NestedKey.depthAll, lk.dep, ih, Nat.max_self]
  have := this (List.range (cs.length + 1))
  show (NestedKey.tup _).depth ≤ 8
  simp only [NestedKey.depth, this]
  omega
theorem fs_ok (lk : LookOk n q cs' ell ek) : ∀ i, i ≤ ks.length → FsOk w ks cs (nkW w cs ek) i (fsW w cs ell ek (ks.take i))
  | 0, _ => ⟨fun e he => (by cases he), fun t ht => (by cases ht), by simp [fsW], fun e he => (by cases he), fun e he => (by cases he), fun e he => (by cases he), fun x => by simp [fsW], Nat.le_refl _⟩
  | i + 1, hi => by
    have hs : ks[i]? = some ks[i] := List.getElem?_eq_getElem hi
    rw [fsW_add hs]
    exact FsOk.put (fs_ok lk i (by omega)) hs (kdW_nk lk _)
theorem fs_prt {nk : List Int → NestedKey} {i : Nat} {Fs : List WE} {st : List Int} (hw : w.length ≤ 7) (hk : ∀ s ∈ ks, Ppl w.length s) (hJ : FsOk w ks cs nk i Fs) : (∀ x ∈ prtW Fs (nk st), Ppl w.length x) ∧ (prtW Fs (nk st)).Nodup ∧ (prtW Fs (nk st)).length ≤ 128 := by
  have hprt : ∀ x ∈ prtW Fs (nk st), Ppl w.length x := fun x hx => by
    by_cases c : nk st ∈ Fs.map (·.1)
    · obtain ⟨e, he, e1⟩ := List.mem_map.mp c
      rw [prt_of hJ.nd he e1] at hx
      obtain ⟨t, ht, rfl⟩ := (hJ.mem x).mp ⟨e, he, hx⟩
      exact stAt_ppl (hk t (List.mem_of_mem_take ht))
    · rw [prt_no c] at hx; cases hx
  have hpnd : (prtW Fs (nk st)).Nodup := by
    by_cases c : nk st ∈ Fs.map (·.1)
    · obtain ⟨e, he, e1⟩ := List.mem_map.mp c
      rw [prt_of hJ.nd he e1]
      exact hJ.pnd e he
    · rw [prt_no c]; simp
  refine ⟨hprt, hpnd, ?_⟩
  have : (prtW Fs (nk st)).length ≤ (chM (upI 7)).length := nodup_len hpnd fun x hx => mem_chM.mpr ((sub_ppl ⟨pw_upI _, fun k hk => mem_upI.mp hk⟩).mpr ⟨⟨(hprt x hx).up, fun k hk => by have := (hprt x hx).inn k hk; omega⟩, fun k hk => mem_upI.mpr (by have := (hprt x hx).inn k hk; omega)⟩)
  rw [chM_len, upI_length] at this
  omega
theorem fs_len {nk : List Int → NestedKey} {Fs : List WE} (hw : w.length ≤ 7) (hk : ∀ s ∈ ks, Ppl w.length s) {i : Nat} (hJ : FsOk w ks cs nk i Fs) : ∀ e ∈ Fs, e.2.2.length ≤ 128 := fun e he => by
  have hpl : ∀ x ∈ e.2.2, Ppl w.length x := fun x hx => by
    obtain ⟨t, ht, rfl⟩ := (hJ.mem x).mp ⟨e, he, hx⟩
    exact stAt_ppl (hk t (List.mem_of_mem_take ht))
  have : e.2.2.length ≤ (chM (upI 7)).length := nodup_len (hJ.pnd e he) fun x hx => mem_chM.mpr ((sub_ppl ⟨pw_upI _, fun k hk => mem_upI.mp hk⟩).mpr ⟨⟨(hpl x hx).up, fun k hk => by have := (hpl x hx).inn k hk; omega⟩, fun k hk => mem_upI.mpr (by have := (hpl x hx).inn k hk; omega)⟩)
  rw [chM_len, upI_length] at this
  omega
/-- what is left at the end -/
theorem fs_end {nk : List Int → NestedKey} {Fs : List WE} (hw : w.length ≤ 7) (hk : ∀ s ∈ ks, Ppl w.length s) (hJ : FsOk w ks cs nk ks.length Fs) : ∃ Ps, WatchOk w ks cs nk Ps ∧ gSrt [.list ((Fs.map fun e => sortR e.2.2).map webD)] = some (Ps.map webD) := by
  have hfl := hJ.len
  have hlen2 := fs_len hw hk hJ
  obtain ⟨Ps, hperm, hg⟩ := gsrt_W (Fs.map fun e => sortR e.2.2) (fun u hu => by
    obtain ⟨e, he, rfl⟩ := List.mem_map.mp hu
    have := hlen2 e he
    rw [(sortR_perm _).length_eq]; omega)
  have hcl : ∀ e ∈ Fs, (∃ s ∈ ks, nk s = e.1) ∧ ∀ x, x ∈ e.2.2 ↔ ∃ t ∈ ks, nk t = e.1 ∧ x = stAt w t cs cs.length := fun e he => by
    have := hJ.cls e he
    rw [List.take_length] at this
    exact this
  have hco : ∀ s ∈ ks, nk s ∈ Fs.map (·.1) := fun s hs => hJ.cov s (by rw [List.take_length]; exact hs)
  refine ⟨Ps, ⟨⟨Fs.map (·.1), hJ.nd, fun k => ⟨fun hk => ?_, ?_⟩, ?_⟩, fun p hp => ?_, fun s hs => ?_, ?_, fun x => ?_, fun p hp => ?_, fun p hp => ?_⟩, hg⟩
  · obtain ⟨e, he, rfl⟩ := List.mem_map.mp hk
    exact (hcl e he).1
  · rintro ⟨s, hs, rfl⟩
    exact hco s hs
  · rw [hperm.length_eq, List.length_map, List.length_map]
  · obtain ⟨e, he, rfl⟩ := List.mem_map.mp (hperm.mem_iff.mp hp)
    obtain ⟨⟨s, hs, e1⟩, e2⟩ := hcl e he
    exact ⟨s, hs, fun x => by rw [mem_sortR, e2 x, e1]⟩
  · obtain ⟨e, he, e1⟩ := List.mem_map.mp (hco s hs)
    exact ⟨sortR e.2.2, hperm.mem_iff.mpr (List.mem_map.mpr ⟨e, he, rfl⟩), fun x => by rw [mem_sortR, (hcl e he).2 x, e1]⟩
  · rw [hperm.length_eq, List.length_map]; exact hfl
  · have := hJ.mem x
    rw [List.take_length] at this
    rw [← this]
    constructor
    · rintro ⟨p, hp, hx⟩
      obtain ⟨e, he, rfl⟩ := List.mem_map.mp (hperm.mem_iff.mp hp)
      exact ⟨e, he, mem_sortR.mp hx⟩
    · rintro ⟨e, he, hx⟩
      exact ⟨sortR e.2.2, hperm.mem_iff.mpr (List.mem_map.mpr ⟨e, he, rfl⟩), mem_sortR.mpr hx⟩
  · obtain ⟨e, he, rfl⟩ := List.mem_map.mp (hperm.mem_iff.mp hp)
    intro z
    have := congrArg List.length z
    rw [(sortR_perm _).length_eq] at this
    exact hJ.ne e he (List.length_eq_zero_iff.mp this)
  · obtain ⟨e, he, rfl⟩ := List.mem_map.mp (hperm.mem_iff.mp hp)
    have nd : (sortR e.2.2).Nodup := (sortR_perm _).nodup_iff.mpr (hJ.pnd e he)
    exact (List.Pairwise.and (sortR_pw _) nd).imp fun {a b} ⟨h1, h2⟩ => (lt_or_eqR h1).resolve_right h2

theorem watchF (hw : w.length ≤ 7) (hk : ∀ s ∈ ks, Ppl w.length s) (hkl : ks.length < 64) (hr : Row w.length cs) (hc : cs.length ≤ 60) (lk : LookOk w.length q cs' ell ek) {Ps : List (List (List Int))} (hg : gSrt [.list (((fsW w cs ell ek ks).map fun e => sortR e.2.2).map webD)] = some (Ps.map webD)) : g_watch [webD w, webD ks, tR cs, fnD q cs'] = some (.tuple (Ps.map webD)) := by
  have plE : ∀ s, (ell s).plain = true := fun s => (nkOf_is (lk.key s)).2
  refine run_rt ?_
  refine s_seq ⟨.nx [.v (webD w), .v (webD ks), .v (tR cs), .v (fnD q cs'), .od true [], .no, .no, .no, .no, .no], rfl, ?_⟩
  show fW (sSeq _ _) [.v (webD w), .v (webD ks), .v (tR cs), .v (fnD q cs'), .rw (some (.x [])), .no, .no, .no, .no, .no] _
  refine q_inv (fun s : List WE × Option D × Option D × Option D => [.v (webD w), .v (webD ks), .v (tR cs), .v (fnD q cs'), .rw (some (.x (s.1.map enW))), nv s.2.1, nv s.2.2.1, nv s.2.2.2, .no, .no]) ks tR (fun i s => s.1 = fsW w cs ell ek (ks.take i)) ([], none, none, none) rfl rfl rfl (fun i s st hst hJ => ?_) fun s hJ => ?_
  · obtain ⟨Fs, b5, b6, b7⟩ := s
    replace hJ : Fs = fsW w cs ell ek (ks.take i) := hJ
    have hm := List.mem_of_getElem? hst
    have hi := (List.getElem?_eq_some_iff.mp hst).1
    have hp := hk st hm
    have hF : FsOk w ks cs (nkW w cs ek) i Fs := hJ ▸ fs_ok lk i (by omega)
    have hfl := hF.len
    refine ⟨[.v (webD w), .v (webD ks), .v (tR cs), .v (fnD q cs'), .rw (some (.x (Fs.map enW))), .v (tR st), nv b6, nv b7, .no, .no], rfl, ?_⟩
    refine q_set (.list (stories w st cs (cs.length + 1))) (c3 (p := webD w) (q := tR st) (r := tR cs) rfl rfl rfl (v_story_in hr (by omega))) ?_
    show fW _ [.v (webD w), .v (webD ks), .v (tR cs), .v (fnD q cs'), .rw (some (.x (Fs.map enW))), .v (tR st), .v (.list (stories w st cs (cs.length + 1))), nv b7, .no, .no] _
    have ekd : (aOf gTup (aCons (fun ρ => ((cLc [8] (tgN 8) fYes (b2 (dApp lg) (gV 3) (gV 8)) (fItems (gV 6))) ρ).map PyData.list) aNil)) [.v (webD w), .v (webD ks), .v (tR cs), .v (fnD q cs'), .rw (some (.x (Fs.map enW))), .v (tR st), .v (.list (stories w st cs (cs.length + 1))), nv b7, .no, .no] = some (kdW w cs ell st) := by
      refine tup_of ?_
      rw [cLc_map ((List.range (cs.length + 1)).map fun i => stAt w st cs i) tR (fun _ => true) ell (it_L (by unfold stories; rw [List.map_map]; rfl)) rfl (fun y hy => ⟨_, rfl, rfl, fun _ => (b2_of (p := fnD q cs') (q := tR y) rfl rfl).trans (dApp_w (by simp [PyData.plain, plain_ints]) lk.plain (lk.at_ y (by
        obtain ⟨j, _, rfl⟩ := List.mem_map.mp hy
        exact stAt_ppl hp)) (plE y))⟩), List.filter_eq_self.mpr fun _ _ => rfl, List.map_map]
      rfl
    refine q_set (kdW w cs ell st) ekd ?_
    show fW _ [.v (webD w), .v (webD ks), .v (tR cs), .v (fnD q cs'), .rw (some (.x (Fs.map enW))), .v (tR st), .v (.list (stories w st cs (cs.length + 1))), .v (kdW w cs ell st), .no, .no] _
    have hin := inn_W (nk := nkW w cs ek st) hF.key
    obtain ⟨hprt, hpnd, hplen⟩ := fs_prt (st := st) hw hk hF
    have est : (vStar 4 (gV 7) (b2 dIx (gX 6) (vNeg (gC (.int 1)))) (gC (.bool true))) [.v (webD w), .v (webD ks), .v (tR cs), .v (fnD q cs'), .rw (some (.x (Fs.map enW))), .v (tR st), .v (.list (stories w st cs (cs.length + 1))), .v (kdW w cs ell st), .no, .no] = some (ndD ((addL (prtW Fs (nkW w cs ek st)) (stAt w st cs cs.length)).map enT)) := by
      have e2 : (b2 dIx (gX 6) (vNeg (gC (.int 1)))) [.v (webD w), .v (webD ks), .v (tR cs), .v (fnD q cs'), .rw (some (.x (Fs.map enW))), .v (tR st), .v (.list (stories w st cs (cs.length + 1))), .v (kdW w cs ell st), .no, .no] = some (tR (stAt w st cs cs.length)) := (b2_of (p := .list (stories w st cs (cs.length + 1))) (q := .int (-1)) rfl rfl).trans (ix_storiesL _ _ _ _)
      rw [e_vStar (zs := Fs.map enW) (kd := kdW w cs ell st) (nk := nkW w cs ek st) (zs' := (prtW Fs (nkW w cs ek st)).map enT) (sd := tR (stAt w st cs cs.length)) (sk := NS.nkR (stAt w st cs cs.length)) (p := .bool true) rfl rfl (kdW_key lk st) hin e2 (wkR_key _) rfl ⟨hash_T hw hpnd hprt, by rw [List.length_map, sizeLine_eq]; omega⟩, put_T]
    refine ⟨_, (e_sPutX (zs := Fs.map enW) (p := ndD ((addL (prtW Fs (nkW w cs ek st)) (stAt w st cs cs.length)).map enT)) (kd := kdW w cs ell st) (nk := nkW w cs ek st) rfl est rfl (kdW_key lk st) (by rw [List.length_map, sizeLine_eq]; omega)), (putW Fs (nkW w cs ek st) (kdW w cs ell st) (stAt w st cs cs.length), some (tR st), some (.list (stories w st cs (cs.length + 1))), some (kdW w cs ell st)), ?_, by show putW _ _ _ _ = _; rw [fsW_add hst, hJ]⟩
    rw [put_W hF.nd hF.key]
    rfl
  · obtain ⟨Fs, b5, b6, b7⟩ := s
    replace hJ : Fs = fsW w cs ell ek (ks.take ks.length) := hJ
    have hF : FsOk w ks cs (nkW w cs ek) ks.length Fs := hJ ▸ fs_ok lk _ (Nat.le_refl _)
    rw [List.take_length] at hJ
    have hfl := hF.len
    have hlen2 := fs_len hw hk hF
    rw [← hJ] at hg
    show fW (sRet _) [.v (webD w), .v (webD ks), .v (tR cs), .v (fnD q cs'), .v (ndD (Fs.map enW)), nv b5, nv b6, nv b7, .no, .no] _
    have evals : (fValsX (gV 4)) [.v (webD w), .v (webD ks), .v (tR cs), .v (fnD q cs'), .v (ndD (Fs.map enW)), nv b5, nv b6, nv b7, .no, .no] = some (Fs.map fun e => ndD (e.2.2.map enT)) := by
      show (itemsX (ndD (Fs.map enW))).map _ = _
      have : itemsX (ndD (Fs.map enW)) = some (Fs.map enW) := if_pos (by rw [List.length_map, sizeLine_eq]; omega)
      rw [this, Option.map_some, List.map_map]; rfl
    have ecl : (cLc [9] (tgN 9) fYes (aOf gTup (aCons (fun ρ => ((aOf gSrt (aCons (fun ρ => ((fKeysX (gV 9)) ρ).map PyData.list) aNil)) ρ).map PyData.list) aNil)) (fValsX (gV 4))) [.v (webD w), .v (webD ks), .v (tR cs), .v (fnD q cs'), .v (ndD (Fs.map enW)), nv b5, nv b6, nv b7, .no, .no] = some ((Fs.map fun e => sortR e.2.2).map webD) := by
      rw [cLc_map Fs (fun e => ndD (e.2.2.map enT)) (fun _ => true) (fun e => webD (sortR e.2.2)) evals rfl (fun e he => ⟨_, rfl, rfl, fun _ => tup_of (c1 (p := .list (e.2.2.map tR)) ?_ (srt_R _))⟩), List.filter_eq_self.mpr fun _ _ => rfl, List.map_map]
      · rfl
      · show Option.map PyData.list ((itemsX (ndD (e.2.2.map enT))).map _) = _
        have : itemsX (ndD (e.2.2.map enT)) = some (e.2.2.map enT) := if_pos (by have := hlen2 e he; rw [List.length_map, sizeLine_eq]; omega)
        rw [this, Option.map_some, List.map_map]; rfl
    exact s_ret (.tuple (Ps.map webD)) (tup_of (c1 (lcL ecl) hg)) rfl
def encO : Option Int → D
  | none => .none
  | some c => .int c
theorem encO_some (c : Int) : encO (some c) = .int c := rfl
def bodyP : Rho → Option Fl := (sSeq (sPuts [6, 7] 2 (pO aNil (pF (gV 5) pNil))) (sSeq (sFor (tgN 8) (fItems (b2 dAdd (vTup (aCons (gC .none) aNil)) (gX 2))) (sSeq (sSet 7 (vIf (bB (b2 dNotN (gX 8) (gC .none))) (aOf g__law_call (aCons (gV 0) (aCons (gV 7) (aCons (gV 8) aNil)))) (gV 7)))
  (sApp 6 (b2 (dApp lg) (gV 3) (gV 7))))) (sSet 9 (aOf gTup (aCons (gX 6) aNil)))))
theorem parted_body {st : List Int} {s6 s7 s8 s9 : Sl} (hp : Ppl w.length st) (hr : Row w.length cs) (hc : cs.length ≤ 60) (lk : LookOk w.length q cs' ell ek) (K : Fl → Prop)
    (k : ∀ o : Option Int, K (.nx [.v (webD w), .v (webD ks), .v (tR cs), .v (fnD q cs'), .no, .v (tR st), .ol ((List.range (cs.length + 1)).map fun i => ell (stAt w st cs i)), .v (tR (stAt w st cs cs.length)), .v (encO o), .v (kdW w cs ell st), .no])) : fW bodyP [.v (webD w), .v (webD ks), .v (tR cs), .v (fnD q cs'), .no, .v (tR st), s6, s7, s8, s9, .no] K := by
  have plE : ∀ s, (ell s).plain = true := fun s => (nkOf_is (lk.key s)).2
  unfold bodyP
  refine q_puts [.o [], .f (tR st)] rfl rfl ?_
  show fW _ [.v (webD w), .v (webD ks), .v (tR cs), .v (fnD q cs'), .no, .v (tR st), .ol [], .v (tR st), s8, s9, .no] _
  refine q_inv (fun s : List D × List Int × Sl => [.v (webD w), .v (webD ks), .v (tR cs), .v (fnD q cs'), .no, .v (tR st), .ol s.1, .v (tR s.2.1), s.2.2, s9, .no]) (none :: cs.map some) encO (fun i s => s.1 = (List.range i).map (fun j => ell (stAt w st cs j)) ∧ s.2.1 = stAt w st cs (i - 1) ∧ (1 ≤ i → ∃ o, s.2.2 = .v (encO o))) ([], st, s8) (it_T ?_) rfl ⟨rfl, rfl, fun z => by omega⟩ (fun i s x hx hJ => ?_) fun s hJ => ?_
  · refine (b2_of (p := .tuple [.none]) (q := tR cs) rfl rfl).trans ?_
    show (if _ then _ else _) = _
    rw [if_pos (by rw [List.length_map, sizeLine_eq]; simp; omega)]
    rw [List.map_cons, List.map_map]
    rfl
  · obtain ⟨seen, here, s8'⟩ := s
    obtain ⟨j1, j2, j3⟩ := hJ
    replace j1 : seen = (List.range i).map (fun j => ell (stAt w st cs j)) := j1
    replace j2 : here = stAt w st cs (i - 1) := j2
    have hi : i < cs.length + 1 := by
      have := (List.getElem?_eq_some_iff.mp hx).1
      rw [List.length_cons, List.length_map] at this
      exact this
    refine ⟨[.v (webD w), .v (webD ks), .v (tR cs), .v (fnD q cs'), .no, .v (tR st), .ol seen, .v (tR here), .v (encO x), s9, .no], rfl, ?_⟩
    have hhere : (vIf (bB (b2 dNotN (gX 8) (gC .none))) (aOf g__law_call (aCons (gV 0) (aCons (gV 7) (aCons (gV 8) aNil)))) (gV 7)) [.v (webD w), .v (webD ks), .v (tR cs), .v (fnD q cs'), .no, .v (tR st), .ol seen, .v (tR here), .v (encO x), s9, .no] = some (tR (stAt w st cs i)) := by
      rw [e_vIf]
      cases i with
      | zero =>
        have : x = none := by simpa using hx.symm
        subst this
        rw [bB_of (b := false) rfl, j2]
        rfl
      | succ m =>
        rw [List.getElem?_cons_succ, List.getElem?_map] at hx
        obtain ⟨c, hcm, rfl⟩ := Option.map_eq_some_iff.mp hx
        obtain ⟨h0, h1⟩ := hr c (List.mem_of_getElem? hcm)
        rw [bB_of (b := true) rfl, stAt_succ hcm, Option.bind_some, if_pos rfl]
        refine (c3 (p := webD w) (q := tR here) (r := .int c) rfl rfl rfl (v__law_call h0 h1)).trans ?_
        rw [j2]; rfl
    refine q_set (tR (stAt w st cs i)) hhere ?_
    show fW _ [.v (webD w), .v (webD ks), .v (tR cs), .v (fnD q cs'), .no, .v (tR st), .ol seen, .v (tR (stAt w st cs i)), .v (encO x), s9, .no] _
    refine s_app1 (ps := seen) (ell (stAt w st cs i)) rfl ((b2_of (p := fnD q cs') (q := tR (stAt w st cs i)) rfl rfl).trans (dApp_w (by simp [PyData.plain, plain_ints]) lk.plain (lk.at_ _ (stAt_ppl hp)) (plE _))) (by rw [j1, List.length_map, List.length_range, sizeLine_eq]; omega) ⟨(seen ++ [ell (stAt w st cs i)], stAt w st cs i, .v (encO x)), rfl, ?_, rfl, fun _ => ⟨x, rfl⟩⟩
    rw [j1, List.range_succ, List.map_append]; rfl
  · obtain ⟨seen, here, s8'⟩ := s
    rw [List.length_cons, List.length_map] at hJ
    obtain ⟨j1, j2, j3⟩ := hJ
    replace j1 : seen = (List.range (cs.length + 1)).map (fun j => ell (stAt w st cs j)) := j1
    replace j2 : here = stAt w st cs cs.length := j2
    obtain ⟨o, ho⟩ := j3 (by omega)
    replace ho : s8' = .v (encO o) := ho
    subst j1 j2 ho
    exact s_set (kdW w cs ell st) rfl (k o)
theorem plain_I (r : List Int) : (tR r).plain = true := (okD_iff.mp (encInt.tup.ok r)).1
theorem plain_W2 (r : List (List Int)) : (webD r).plain = true := (okD_iff.mp (encInt.tup.tup.ok r)).1
theorem okSl_pl {p : D} (h : p.plain = true) : okSl (.v p) = true := by
  show (p.plain || fnP p) = true
  rw [h]; rfl
theorem parted_step {st : List Int} {s6 s7 s8 s9 : Sl} {Fs : List WE} {i : Nat} (hw : w.length ≤ 7) (hk : ∀ s ∈ ks, Ppl w.length s) (hi : i < 64) (hp : Ppl w.length st) (hr : Row w.length cs) (hc : cs.length ≤ 60) (lk : LookOk w.length q cs' ell ek) (hF : FsOk w ks cs (nkW w cs ek) i Fs) :
    ∃ o : Option Int, stepN bodyP 4 9 7 [.v (webD w), .v (webD ks), .v (tR cs), .v (fnD q cs'), .no, .v (tR st), s6, s7, s8, s9, .no] (Fs.map enW) = some ([.v (webD w), .v (webD ks), .v (tR cs), .v (fnD q cs'), .no, .v (tR st), .no, .v (tR (stAt w st cs cs.length)), .v (encO o), .v (kdW w cs ell st), .no], (putW Fs (nkW w cs ek st) (kdW w cs ell st) (stAt w st cs cs.length)).map enW) := by
  have hfl := hF.len
  have plE : ∀ s, (ell s).plain = true := fun s => (nkOf_is (lk.key s)).2
  obtain ⟨fl, e, o, rfl⟩ := parted_body (s6 := s6) (s7 := s7) (s8 := s8) (s9 := s9) (q := q) (ks := ks) hp hr hc lk (fun fl => ∃ o : Option Int, fl = .nx [.v (webD w), .v (webD ks), .v (tR cs), .v (fnD q cs'), .no, .v (tR st), .ol ((List.range (cs.length + 1)).map fun i => ell (stAt w st cs i)), .v (tR (stAt w st cs cs.length)), .v (encO o), .v (kdW w cs ell st), .no]) fun o => ⟨o, rfl⟩
  refine ⟨o, ?_⟩
  unfold stepN
  have e' : bodyP (List.set [.v (webD w), .v (webD ks), .v (tR cs), .v (fnD q cs'), .no, .v (tR st), s6, s7, s8, s9, .no] 4 .no) = some (.nx [.v (webD w), .v (webD ks), .v (tR cs), .v (fnD q cs'), .no, .v (tR st), .ol ((List.range (cs.length + 1)).map fun i => ell (stAt w st cs i)), .v (tR (stAt w st cs cs.length)), .v (encO o), .v (kdW w cs ell st), .no]) := e
  rw [e']
  have a0 := okSl_pl (plain_W2 w)
  have a1 := okSl_pl (plain_W2 ks)
  have a2 := okSl_pl (plain_I cs)
  have a3 : okSl (.v (fnD q cs')) = true := by
    show ((fnD q cs').plain || fnP (fnD q cs')) = true
    rw [show fnP (fnD q cs') = PyData.plainAll cs' from rfl, lk.plain, Bool.or_true]
  have a5 := okSl_pl (plain_I st)
  have a7 := okSl_pl (plain_I (stAt w st cs cs.length))
  have a8 : okSl (.v (encO o)) = true := by cases o <;> rfl
  have a9 := okSl_pl (nkOf_is (kdW_nk (w := w) (cs := cs) lk st)).2
  have all : List.all [.v (webD w), .v (webD ks), .v (tR cs), .v (fnD q cs'), .no, .v (tR st), .ol ((List.range (cs.length + 1)).map fun i => ell (stAt w st cs i)), .v (tR (stAt w st cs cs.length)), .v (encO o), .v (kdW w cs ell st), .no] okSl = true := by
    simp only [List.all_cons, List.all_nil, a0, a1, a2, a3, a5, a7, a8, a9, Bool.and_true]
    rfl
  show (if _ then _ else _) = _
  rw [if_pos ⟨all, by show 4 < 11; omega, by rw [List.length_map, sizeLine_eq]; omega⟩]
  show (nkeyX (kdW w cs ell st)).bind (fun nk => (nkeyX (tR (stAt w st cs cs.length))).bind fun hk => _) = _
  obtain ⟨hprt, hpnd, hplen⟩ := fs_prt (st := st) hw hk hF
  rw [kdW_key lk, Option.bind_some, wkR_key, Option.bind_some, inn_W hF.key, Option.bind_some, if_pos (by rw [List.length_map, sizeLine_eq]; omega), put_T, put_W hF.nd hF.key]
  rfl

theorem forN_inv {α S : Type} {g : Tg} {f : Rho → Option Fl} {ix kx hx : Nat} (enc : α → D) (st : S → Rho) : ∀ (xs : List α) (Z : Nat → List D) (s : S), (∀ (i : Nat) (x : α) (s : S), xs[i]? = some x → ∃ ρ1, g (enc x) (st s) = some ρ1 ∧ ∃ s', stepN f ix kx hx ρ1 (Z i) = some (st s', Z (i + 1))) → ∃ s', forN g f ix kx hx (xs.map enc) (st s) (Z 0) = some (st s', Z xs.length)
  | [], Z, s, _ => ⟨s, rfl⟩
  | x :: xs, Z, s, h => by
    obtain ⟨ρ1, h1, s', h2⟩ := h 0 x s rfl
    obtain ⟨s2, h3⟩ := forN_inv enc st xs (fun i => Z (i + 1)) s' fun i y s hy => h (i + 1) y s hy
    refine ⟨s2, ?_⟩
    show (g (enc x) (st s)).bind _ = _
    rw [h1, Option.bind_some]
    show (stepN f ix kx hx ρ1 (Z 0)).bind _ = _
    rw [h2, Option.bind_some]
    exact h3
theorem partedF (hw : w.length ≤ 7) (hk : ∀ s ∈ ks, Ppl w.length s) (hkl : ks.length < 64) (hr : Row w.length cs) (hc : cs.length ≤ 60) (lk : LookOk w.length q cs' ell ek) {Ps : List (List (List Int))} (hg : gSrt [.list (((fsW w cs ell ek ks).map fun e => sortR e.2.2).map webD)] = some (Ps.map webD)) : g__law_parted [webD w, webD ks, tR cs, fnD q cs'] = some (.tuple (Ps.map webD)) := by
  refine run_rt ?_
  refine s_seq ⟨.nx [.v (webD w), .v (webD ks), .v (tR cs), .v (fnD q cs'), .od true [], .no, .no, .no, .no, .no, .no], rfl, ?_⟩
  show fW (sSeq (sForN (tgN 5) (fItems (gV 1)) bodyP 4 9 7) _) [.v (webD w), .v (webD ks), .v (tR cs), .v (fnD q cs'), .rw (some (.x [])), .no, .no, .no, .no, .no, .no] _
  obtain ⟨⟨t5, t7, t8, t9⟩, ef⟩ := forN_inv (g := tgN 5) (f := bodyP) (ix := 4) (kx := 9) (hx := 7) tR (fun s : Sl × Sl × Sl × Sl => [.v (webD w), .v (webD ks), .v (tR cs), .v (fnD q cs'), .no, s.1, .no, s.2.1, s.2.2.1, s.2.2.2, .no]) ks (fun i => (fsW w cs ell ek (ks.take i)).map enW) (.no, .no, .no, .no) fun i st s hst => by
    obtain ⟨s5, s7, s8, s9⟩ := s
    have hi := (List.getElem?_eq_some_iff.mp hst).1
    have hp := hk st (List.mem_of_getElem? hst)
    refine ⟨[.v (webD w), .v (webD ks), .v (tR cs), .v (fnD q cs'), .no, .v (tR st), .no, s7, s8, s9, .no], rfl, ?_⟩
    obtain ⟨o, e⟩ := parted_step (s6 := .no) (s7 := s7) (s8 := s8) (s9 := s9) (i := i) hw hk (by omega) hp hr hc lk (fs_ok (ks := ks) (w := w) (cs := cs) lk i (by omega))
    refine ⟨(.v (tR st), .v (tR (stAt w st cs cs.length)), .v (encO o), .v (kdW w cs ell st)), ?_⟩
    rw [fsW_add hst]
    exact e
  have hF : FsOk w ks cs (nkW w cs ek) ks.length (fsW w cs ell ek ks) := by
    have := fs_ok (ks := ks) (w := w) (cs := cs) lk ks.length (Nat.le_refl _)
    rw [List.take_length] at this
    exact this
  rw [List.take_length] at ef
  generalize fsW w cs ell ek ks = Fs at hF hg ef
  have hfl := hF.len
  have hlen2 := fs_len hw hk hF
  refine s_seq ⟨.nx [.v (webD w), .v (webD ks), .v (tR cs), .v (fnD q cs'), .rw (some (.x (Fs.map enW))), t5, .no, t7, t8, t9, .no], ?_, ?_⟩
  · unfold sForN
    show (fItems (gV 1) _).bind _ = _
    rw [it_T (ps := ks.map tR) rfl, Option.bind_some]
    refine (congrArg (Option.map _) ef).trans ?_
    rfl
  show fW (sRet _) [.v (webD w), .v (webD ks), .v (tR cs), .v (fnD q cs'), .v (ndD (Fs.map enW)), t5, .no, t7, t8, t9, .no] _
  have evals : (fValsX (gV 4)) [.v (webD w), .v (webD ks), .v (tR cs), .v (fnD q cs'), .v (ndD (Fs.map enW)), t5, .no, t7, t8, t9, .no] = some (Fs.map fun e => ndD (e.2.2.map enT)) := by
    show (itemsX (ndD (Fs.map enW))).map _ = _
    have : itemsX (ndD (Fs.map enW)) = some (Fs.map enW) := if_pos (by rw [List.length_map, sizeLine_eq]; omega)
    rw [this, Option.map_some, List.map_map]; rfl
  have ecl : (cLc [10] (tgN 10) fYes (aOf gTup (aCons (fun ρ => ((aOf gSrt (aCons (fun ρ => ((fKeysX (gV 10)) ρ).map PyData.list) aNil)) ρ).map PyData.list) aNil)) (fValsX (gV 4))) [.v (webD w), .v (webD ks), .v (tR cs), .v (fnD q cs'), .v (ndD (Fs.map enW)), t5, .no, t7, t8, t9, .no] = some ((Fs.map fun e => sortR e.2.2).map webD) := by
    rw [cLc_map Fs (fun e => ndD (e.2.2.map enT)) (fun _ => true) (fun e => webD (sortR e.2.2)) evals rfl (fun e he => ⟨_, rfl, rfl, fun _ => tup_of (c1 (p := .list (e.2.2.map tR)) ?_ (srt_R _))⟩), List.filter_eq_self.mpr fun _ _ => rfl, List.map_map]
    · rfl
    · show Option.map PyData.list ((itemsX (ndD (e.2.2.map enT))).map _) = _
      have : itemsX (ndD (e.2.2.map enT)) = some (e.2.2.map enT) := if_pos (by have := hlen2 e he; rw [List.length_map, sizeLine_eq]; omega)
      rw [this, Option.map_some, List.map_map]; rfl
  exact s_ret (.tuple (Ps.map webD)) (tup_of (c1 (lcL ecl) hg)) rfl
end
/-- a watcher and the law's own parting, at once -/
theorem bothF {w ks : List (List Int)} {cs : List Int} {q q2 : Str} {cs1 cs2 : List D} {ell : List Int → D} {ek : List Int → NestedKey} (h : Web w) (hk : KnOk w ks) (hr : Row w.length cs) (hc : cs.length ≤ 60) (lk : LookOk w.length q cs1 ell ek) (lk2 : LookOk w.length q2 cs2 ell ek) :
    ∃ Ps, WatchOk w ks cs (nkW w cs ek) Ps ∧ g_watch [webD w, webD ks, tR cs, fnD q cs1] = some (.tuple (Ps.map webD)) ∧ g__law_parted [webD w, webD ks, tR cs, fnD q2 cs2] = some (.tuple (Ps.map webD)) := by
  have hF : FsOk w ks cs (nkW w cs ek) ks.length (fsW w cs ell ek ks) := by
    have := fs_ok (ks := ks) (w := w) (cs := cs) lk ks.length (Nat.le_refl _)
    rw [List.take_length] at this
    exact this
  obtain ⟨Ps, W, hg⟩ := fs_end h.le hk.ppl hF
  exact ⟨Ps, W, watchF h.le hk.ppl hk.len hr hc lk hg, partedF h.le hk.ppl hk.len hr hc lk2 hg⟩
theorem both_numbers {w ks : List (List Int)} {cs : List Int} (h : Web w) (hk : KnOk w ks) (hr : Row w.length cs) (hc : cs.length ≤ 60) : ∃ Ps, WatchOk w ks cs (nkW w cs fun s => .num s.length) Ps ∧ g_seen_numbers [webD w, webD ks, tR cs] = some (.tuple (Ps.map webD)) ∧ g__law_parted [webD w, webD ks, tR cs, fnD "law1" []] = some (.tuple (Ps.map webD)) := by
  obtain ⟨Ps, W, e, e2⟩ := bothF (q := "seen_numbers") (q2 := "law1") (cs1 := []) (cs2 := []) (ell := fun s => .int s.length) (ek := fun s => .num s.length) h hk hr hc ⟨rfl, fun s hs => by
    rw [lg_seen_numbers]
    show BL_seen_numbers [.v (tR s)] = _
    unfold BL_seen_numbers
    simp [gX], fun s => by unfold nkOf; rfl, fun s => by simp only [NestedKey.depth]⟩ ⟨rfl, fun s hs => by
    rw [lg_law1]
    show BL_law1 [.v (tR s)] = _
    unfold BL_law1
    simp [gX], fun s => by unfold nkOf; rfl, fun s => by simp only [NestedKey.depth]⟩
  refine ⟨Ps, W, run_rt ?_, e2⟩
  show fW B_seen_numbers [.v (webD w), .v (webD ks), .v (tR cs)] _
  exact q_drop _ (c2 (p := webD w) (q := webD ks) rfl rfl (v_need_knowledge h hk)) (q_drop _ (c2 (p := webD w) (q := tR cs) rfl rfl (v_need_calls h hr hc)) (s_ret _ (e_fLam3 (p0 := webD w) (p1 := webD ks) (p2 := tR cs) (cs := []) rfl rfl rfl rfl e (plain_WW Ps)) rfl))
theorem both_tallest {w ks : List (List Int)} {cs : List Int} (h : Web w) (hk : KnOk w ks) (hr : Row w.length cs) (hc : cs.length ≤ 60) : ∃ ek Ps, WatchOk w ks cs (nkW w cs ek) Ps ∧ g_seen_tallest [webD w, webD ks, tR cs] = some (.tuple (Ps.map webD)) ∧ g__law_parted [webD w, webD ks, tR cs, fnD "law2" []] = some (.tuple (Ps.map webD)) := by
  have hmax : ∀ s : List Int, s ≠ [] → ∃ m : Int, gMaxA [tR s] = some (.int m) ∧ m ∈ s ∧ ∀ k ∈ s, k ≤ m := fun s hne => by
    obtain ⟨m, hm, e, hu⟩ := max_intsT hne
    exact ⟨m, e, hm, hu⟩
  have hex : ∀ s : List Int, ∃ d k, (lg "seen_tallest" [.v (tR s)] = some d ∧ nkOf d = some k ∧ NestedKey.depth k = 0) ∧ lg "law2" [.v (tR s)] = some d := fun s => by
    rw [lg_seen_tallest, lg_law2]
    unfold BL_seen_tallest BL_law2
    have et : (bB (b2 dNe (gX 0) (vTup aNil))) [.v (tR s)] = some (!decide (s = [])) := neB (encInt.tup) (a := s) (b := []) rfl rfl
    by_cases c : s = []
    · refine ⟨.none, .none, ⟨?_, by unfold nkOf; rfl, by simp only [NestedKey.depth]⟩, ?_⟩ <;>
      · rw [e_vIf, et, decide_eq_true c]; rfl
    · obtain ⟨m, e, hm, hu⟩ := hmax s c
      refine ⟨.int m, .num m, ⟨?_, by unfold nkOf; rfl, by simp only [NestedKey.depth]⟩, ?_⟩ <;>
      · rw [e_vIf, et, decide_eq_false c]
        show aOf gMaxA (aCons (gX 0) aNil) [.v (tR s)] = _
        exact c1 (p := tR s) rfl e
  obtain ⟨Ps, W, e, e2⟩ := bothF (q := "seen_tallest") (q2 := "law2") (cs1 := []) (cs2 := []) (ell := fun s => (hex s).choose) (ek := fun s => (hex s).choose_spec.choose) h hk hr hc ⟨rfl, fun s hs => (hex s).choose_spec.choose_spec.1.1, fun s => (hex s).choose_spec.choose_spec.1.2.1, fun s => (hex s).choose_spec.choose_spec.1.2.2⟩ ⟨rfl, fun s hs => (hex s).choose_spec.choose_spec.2, fun s => (hex s).choose_spec.choose_spec.1.2.1, fun s => (hex s).choose_spec.choose_spec.1.2.2⟩
  refine ⟨_, Ps, W, run_rt ?_, e2⟩
  show fW B_seen_tallest [.v (webD w), .v (webD ks), .v (tR cs)] _
  exact q_drop _ (c2 (p := webD w) (q := webD ks) rfl rfl (v_need_knowledge h hk)) (q_drop _ (c2 (p := webD w) (q := tR cs) rfl rfl (v_need_calls h hr hc)) (s_ret _ (e_fLam3 (p0 := webD w) (p1 := webD ks) (p2 := tR cs) (cs := []) rfl rfl rfl rfl e (plain_WW Ps)) rfl))
theorem both_person {w ks : List (List Int)} {cs : List Int} {p : Int} (h : Web w) (hk : KnOk w ks) (hr : Row w.length cs) (hc : cs.length ≤ 60) (h0 : 0 ≤ p) (h1 : p < w.length) : ∃ Ps, WatchOk w ks cs (nkW w cs fun s => .num (if decide (p ∈ s) = true then 1 else 0)) Ps ∧ g_seen_person [webD w, webD ks, tR cs, .int p] = some (.tuple (Ps.map webD)) ∧ g__law_parted [webD w, webD ks, tR cs, fnD "law0" [.int p]] = some (.tuple (Ps.map webD)) := by
  obtain ⟨Ps, W, e, e2⟩ := bothF (q := "seen_person") (q2 := "law0") (cs1 := [.int p]) (cs2 := [.int p]) (ell := fun s => .bool (decide (p ∈ s))) (ek := fun s => .num (if decide (p ∈ s) = true then 1 else 0)) h hk hr hc ⟨rfl, fun s hs => by
    rw [lg_seen_person]
    show BL_seen_person [.v (tR s), .v (.int p)] = _
    unfold BL_seen_person
    exact (b2_of (p := .int p) (q := tR s) rfl rfl).trans (e_inT p s), fun s => by unfold nkOf; rfl, fun s => by simp only [NestedKey.depth]⟩ ⟨rfl, fun s hs => by
    rw [lg_law0]
    show BL_law0 [.v (tR s), .v (.int p)] = _
    unfold BL_law0
    exact (b2_of (p := .int p) (q := tR s) rfl rfl).trans (e_inT p s), fun s => by unfold nkOf; rfl, fun s => by simp only [NestedKey.depth]⟩
  refine ⟨Ps, W, run_rt ?_, e2⟩
  show fW B_seen_person [.v (webD w), .v (webD ks), .v (tR cs), .v (.int p)] _
  exact q_drop _ (c2 (p := webD w) (q := webD ks) rfl rfl (v_need_knowledge h hk)) (q_drop _ (c2 (p := webD w) (q := tR cs) rfl rfl (v_need_calls h hr hc)) (q_drop _ (c2 (p := webD w) (q := .int p) rfl rfl (v_need_person h0 h1)) (s_ret _ (e_fLam3 (p0 := webD w) (p1 := webD ks) (p2 := tR cs) (cs := [.int p]) rfl rfl rfl rfl e (plain_WW Ps)) rfl)))
theorem part_len {w ks : List (List Int)} {cs : List Int} {nk : List Int → NestedKey} {Ps : List (List (List Int))} (W : WatchOk w ks cs nk Ps) : ∀ q ∈ Ps, q.length ≤ ks.length := fun q hq => by
  obtain ⟨s, _, hm⟩ := W.cls q hq
  have nd : q.Nodup := (W.pw q hq).imp fun {x y} h e => absurd (e ▸ h) (List.lt_irrefl _)
  have := nodup_len (ls := ks.map fun t => stAt w t cs cs.length) nd fun x hx => by
    obtain ⟨t, ht, _, rfl⟩ := (hm x).mp hx
    exact List.mem_map.mpr ⟨t, ht, rfl⟩
  rwa [List.length_map] at this
theorem al_P {w ks : List (List Int)} {cs : List Int} {nk : List Int → NestedKey} {Ps : List (List (List Int))} (hw : Web w) (hk : KnOk w ks) (W : WatchOk w ks cs nk Ps) : Al 8 (.tuple (Ps.map webD)) := by
  have h1 := W.len
  have h2 := hk.len
  have h3 := hw.le
  refine .tup (by rw [List.length_map]; omega) fun x hx => ?_
  obtain ⟨p, hp, rfl⟩ := List.mem_map.mp hx
  have h4 := part_len W p hp
  refine al_RsT _ (by omega) fun r hr => ?_
  obtain ⟨s, hs, rfl⟩ := (W.mem r).mp ⟨p, hp, hr⟩
  have := (stAt_ppl (w := w) (cs := cs) (i := cs.length) (hk.ppl s hs)).len
  omega

def PROG : Rho → Option Fl := (sSeq (sIf (bNot (bB (aOf g__law_alike (aCons (aOf g_spread (aCons (gV 2) (aCons (gV 5) (aCons (gV 6) aNil)))) (aCons (aOf gTup (aCons (fun ρ => ((nSortAll (fun ρ => ((cLc [9] (tgN 9) fYes (aOf g__law_done (aCons (gV 2) (aCons (gV 9) (aCons (gV 6) aNil)))) (fItems (gV 5))) ρ).map PyData.list)) ρ).map PyData.list) aNil)) aNil))))) (sRet (gC (.bool false))) sNil)
  (sSeq (sSet 8 (fLam3 g__law_parted "law0" [7] (gV 2) (gV 5) (gV 6)))
  (sSeq (sIf (bNot (bB (aOf g__law_alike (aCons (aOf g_seen_person (aCons (gV 2) (aCons (gV 5) (aCons (gV 6) (aCons (gV 7) aNil))))) (aCons (gV 8) aNil))))) (sRet (gC (.bool false))) sNil)
  (sSeq (sIf (bNot (bB (aOf g__law_alike (aCons (aOf g_is_told (aCons (gV 2) (aCons (gV 5) (aCons (gV 6) (aCons (gV 7) aNil))))) (aCons (b2 dEq (fun ρ => ((cLc [10] (tgN 10) (bB (b2 dGt (aOf gLen (aCons (gX 10) aNil)) (gC (.int 1)))) (gV 10) (fItems (gV 8))) ρ).map PyData.list) (fun ρ => (aNil ρ).map PyData.list)) aNil))))) (sRet (gC (.bool false))) sNil)
  (sSeq (sIf (bNot (bB (aOf g__law_alike (aCons (aOf g_seen_numbers (aCons (gV 2) (aCons (gV 5) (aCons (gV 6) aNil)))) (aCons (fLam3 g__law_parted "law1" [] (gV 2) (gV 5) (gV 6)) aNil))))) (sRet (gC (.bool false))) sNil)
  (sSeq (sIf (bNot (bB (aOf g__law_alike (aCons (aOf g_seen_tallest (aCons (gV 2) (aCons (gV 5) (aCons (gV 6) aNil)))) (aCons (fLam3 g__law_parted "law2" [] (gV 2) (gV 5) (gV 6)) aNil))))) (sRet (gC (.bool false))) sNil)
  (sRet (aOf g__law_alike (aCons (aOf g_with_person (aCons (gV 2) (aCons (gV 5) (aCons (gV 7) aNil)))) (aCons (aOf gTup (aCons (fun ρ => ((cLc [9] (tgN 9) (bB (b2 dIn (gX 7) (gX 9))) (gV 9) (fItems (gV 5))) ρ).map PyData.list) aNil)) aNil))))))))))
theorem go {w ks : List (List Int)} {cs : List Int} {p : Int} (hw : Web w) (hk : KnOk w ks) (hr : Row w.length cs) (hc : cs.length ≤ 60) (h0 : 0 ≤ p) (h1 : p < w.length) (xs : D) (s3 : Sl) (a4 : Option D) (K : Fl → Prop) (hK : K (.rt (.bool true))) : fW PROG [.v xs, .row, .v (webD w), s3, nv a4, .v (webD ks), .v (tR cs), .v (.int p), .no, .no, .no] K := by
  have hl := hw.le
  have hkl := hk.len
  obtain ⟨P1, W1, e1, f1⟩ := both_person hw hk hr hc h0 h1
  obtain ⟨P2, W2, e2, f2⟩ := both_numbers hw hk hr hc
  obtain ⟨ek, P3, W3, e3, f3⟩ := both_tallest hw hk hr hc
  unfold PROG
  -- 4: where the calls lead
  have hkT := kn_spK hk cs (w := w)
  have hlT := hkT.len
  have edone : (cLc [9] (tgN 9) fYes (aOf g__law_done (aCons (gV 2) (aCons (gV 9) (aCons (gV 6) aNil)))) (fItems (gV 5))) [.v xs, .row, .v (webD w), s3, nv a4, .v (webD ks), .v (tR cs), .v (.int p), .no, .no, .no] = some ((ks.map fun s => stAt w s cs cs.length).map tR) := by
    rw [cLc_map ks tR (fun _ => true) (fun s => tR (stAt w s cs cs.length)) (it_T rfl) rfl (fun s hs => ⟨_, rfl, rfl, fun _ => (c3 (p := webD w) (q := tR s) (r := tR cs) rfl rfl rfl (v__law_done hr)).trans (by rw [stAt_all])⟩), List.filter_eq_self.mpr fun _ _ => rfl, List.map_map]
    rfl
  have esp : (aOf gTup (aCons (fun ρ => ((nSortAll (fun ρ => ((cLc [9] (tgN 9) fYes (aOf g__law_done (aCons (gV 2) (aCons (gV 9) (aCons (gV 6) aNil)))) (fItems (gV 5))) ρ).map PyData.list)) ρ).map PyData.list) aNil)) [.v xs, .row, .v (webD w), s3, nv a4, .v (webD ks), .v (tR cs), .v (.int p), .no, .no, .no] = some (webD (spK w ks cs)) := by
    refine tup_of ?_
    unfold nSortAll
    show (Option.map PyData.list _).bind dSortAll = _
    rw [edone]
    exact sort_all_R (by rw [List.length_map]; omega)
  refine q_no (not_b (b := true) (bB_of (c2 (p := webD (spK w ks cs)) (q := webD (spK w ks cs)) (c3 (p := webD w) (q := webD ks) (r := tR cs) rfl rfl rfl (v_spread hw hk hr hc)) esp (v_alike (al_RsT _ (by omega) fun r hr' => by have := (hkT.ppl r hr').len; omega) rfl)))) ?_
  -- 5, 6: the person
  refine q_set (.tuple (P1.map webD)) (e_fLam3 (p0 := webD w) (p1 := webD ks) (p2 := tR cs) (cs := [.int p]) rfl rfl rfl rfl f1 (plain_WW P1)) ?_
  show fW _ [.v xs, .row, .v (webD w), s3, nv a4, .v (webD ks), .v (tR cs), .v (.int p), .v (.tuple (P1.map webD)), .no, .no] _
  refine q_no (not_b (b := true) (bB_of (c2 (p := .tuple (P1.map webD)) (q := .tuple (P1.map webD)) (c4 (p := webD w) (q := webD ks) (r := tR cs) (t := .int p) rfl rfl rfl rfl e1) rfl (v_alike (al_P hw hk W1) rfl)))) ?_
  -- 7: told
  have hone : decide (P1.filter (fun q => decide (1 < q.length)) = []) = P1.all fun q => decide (q.length = 1) := by
    rw [Bool.eq_iff_iff, decide_eq_true_eq, List.filter_eq_nil_iff, List.all_eq_true]
    constructor
    · intro z q hq
      have a := W1.ne q hq
      have b : ¬ 1 < q.length := fun c => z q hq (decide_eq_true c)
      have c : q.length ≠ 0 := fun e => a (List.length_eq_zero_iff.mp e)
      exact decide_eq_true (by omega)
    · intro z q hq c
      have a := of_decide_eq_true (z q hq)
      have b := of_decide_eq_true c
      omega
  refine q_no (not_b (b := true) (bB_of (c2 (p := .bool (P1.all fun q => decide (q.length = 1))) (q := .bool (decide (P1.filter (fun q => decide (1 < q.length)) = []))) (c4 (p := webD w) (q := webD ks) (r := tR cs) (t := .int p) rfl rfl rfl rfl (v_is_told W1 e1)) ?_ (v_alike (.bool _) (by rw [hone]))))) ?_
  · refine eqNil encInt.tup.tup (xs := P1.filter fun q => decide (1 < q.length)) ?_
    rw [cLc_map P1 webD (fun q => decide (1 < q.length)) webD (it_T rfl) rfl (fun q hq => ⟨_, rfl, cmp_b (p := .int q.length) (c1 (p := webD q) rfl (e_gLenW q)) (q := .int 1) rfl (by show some (PyData.bool (decide ((1 : Int) < (q.length : Int)))) = _; congr 2; exact decide_eq_decide.mpr (by omega)), fun _ => rfl⟩)]
    rfl
  -- 8, 9
  refine q_no (not_b (b := true) (bB_of (c2 (p := .tuple (P2.map webD)) (q := .tuple (P2.map webD)) (c3 (p := webD w) (q := webD ks) (r := tR cs) rfl rfl rfl e2) (e_fLam3 (p0 := webD w) (p1 := webD ks) (p2 := tR cs) (cs := []) rfl rfl rfl rfl f2 (plain_WW P2)) (v_alike (al_P hw hk W2) rfl)))) ?_
  refine q_no (not_b (b := true) (bB_of (c2 (p := .tuple (P3.map webD)) (q := .tuple (P3.map webD)) (c3 (p := webD w) (q := webD ks) (r := tR cs) rfl rfl rfl e3) (e_fLam3 (p0 := webD w) (p1 := webD ks) (p2 := tR cs) (cs := []) rfl rfl rfl rfl f3 (plain_WW P3)) (v_alike (al_P hw hk W3) rfl)))) ?_
  -- 10
  refine s_ret (.bool true) (c2 (p := webD (ks.filter fun s => decide (p ∈ s))) (q := webD (ks.filter fun s => decide (p ∈ s))) (c3 (p := webD w) (q := webD ks) (r := .int p) rfl rfl rfl (v_with_person hw hk h0 h1)) (tup_of ?_) (v_alike (al_RsT _ (by have := List.length_filter_le (fun s => decide (p ∈ s)) ks; omega) fun r hr' => by have := (hk.ppl r (List.mem_filter.mp hr').1).len; omega) rfl)) hK
  exact cLc_map ks tR (fun s => decide (p ∈ s)) tR (it_T rfl) rfl (fun s hs => ⟨_, rfl, bB_of ((b2_of (p := .int p) (q := tR s) rfl rfl).trans (e_inT p s)), fun _ => rfl⟩)
theorem law_value (ns : List Int) (h : ns.length ≤ 63) (K : D → Prop) (hK : K (.bool true)) : runW 11 T_law [.list (ns.map .int)] K := by
  show T_law [.v (.list (ns.map .int)), .no, .no, .no, .no, .no, .no, .no, .no, .no, .no] _
  refine ⟨by show 1 < 11; omega, _, rfl, ns, 0, 9926, 0, rfl, h, by omega, by omega, by omega, ?_⟩
  generalize PyData.list (ns.map .int) = xs
  refine ⟨rfl, _, rfl, w_web (by omega) (by omega) fun w hw hwl => ?_⟩
  have hl := hw.le
  have hpos := hw.pos
  refine ⟨[], rfl, rfl, ?_⟩
  show wSeq _ _ [.v xs, .row, .v (webD w), .od true (([] : List (List Int × Bool)).map (encK tR .bool)), .no, .no, .no, .no, .no, .no, .no] _
  refine ⟨_, rfl, rfl, _, rfl, 8, rfl, by omega, by omega, fun m hm0 hm1 => ?_⟩
  have hN : 1 + m = (((1 + m).toNat : Nat) : Int) := by omega
  have hN1 : 1 ≤ (1 + m).toNat ∧ (1 + m).toNat ≤ 8 := by omega
  refine ⟨.int (1 + m), rfl, ?_⟩
  rw [hN]
  generalize (1 + m).toNat = N at hN1
  refine ⟨_, gRng1_upI N (by omega), ?_⟩
  refine forW_inv (enc := .int) (fun s : List (List Int × Bool) × Option D => [.v xs, .row, .v (webD w), .od true (s.1.map (encK tR .bool)), nv s.2, .no, .no, .no, .no, .no, .no]) (fun i s => (s.1.map (·.1)).Nodup ∧ (∀ k ∈ s.1.map (·.1), Ppl w.length k) ∧ s.1.length ≤ i ∧ (1 ≤ i → s.1 ≠ [])) N (upI N) 0 ([], none) (by rw [upI_length]; omega) ⟨by simp, by simp, by simp, by omega⟩ (fun i s x K' hx hi hJ hk' => ?_) fun s hJ => ?_
  · obtain ⟨kvs, b4⟩ := s
    obtain ⟨j1, j2, j3, j4⟩ := hJ
    replace j3 : kvs.length ≤ i := j3
    refine ⟨_, rfl, _, rfl, true, _, rfl, rfl, _, rfl, w_up hw fun st hs => ⟨kind_R st, by rw [List.length_map, sizeLine_eq]; show kvs.length < _; omega, ?_⟩⟩
    have e := putK eqK_R PyData.bool st true kvs
    rw [e]
    refine hk' (putM kvs st true, some (.int x)) ⟨putM_nodup j1, fun k hk => ?_, ?_, fun _ z => ?_⟩
    · rcases mem_keys_putM.mp hk with hk | rfl
      · exact j2 k hk
      · exact hs
    · have := putM_len (kvs := kvs) (k := st) (b := true)
      show (putM kvs st true).length ≤ _
      omega
    · have : st ∈ (putM kvs st true).map (·.1) := mem_keys_putM.mpr (.inr rfl)
      rw [show putM kvs st true = [] from z] at this
      cases this
  · obtain ⟨kvs, b4⟩ := s
    obtain ⟨j1, j2, j3, j4⟩ := hJ
    rw [upI_length] at j3 j4
    replace j1 : (kvs.map (·.1)).Nodup := j1
    replace j2 : ∀ k ∈ kvs.map (·.1), Ppl w.length k := j2
    replace j3 : kvs.length ≤ 0 + N := j3
    replace j4 : 1 ≤ 0 + N → kvs ≠ [] := j4
    have hkl : (sortR (kvs.map (·.1))).length ≤ 8 := by rw [(sortR_perm _).length_eq, List.length_map]; omega
    have hk : KnOk w (sortR (kvs.map (·.1))) := by
      refine ⟨fun s hs => j2 s (mem_sortR.mp hs), fun z => ?_, by omega, ?_⟩
      · have := congrArg List.length z
        rw [(sortR_perm _).length_eq, List.length_map] at this
        exact j4 (by omega) (List.length_eq_zero_iff.mp this)
      · have nd : (sortR (kvs.map (·.1))).Nodup := (sortR_perm _).nodup_iff.mpr j1
        exact (List.Pairwise.and (sortR_pw _) nd).imp fun {a b} ⟨h1, h2⟩ => (lt_or_eqR h1).resolve_right h2
    have hkeys : (fun ρ => ((nKeysS 3) ρ).map PyData.list) [.v xs, .row, .v (webD w), .od true (kvs.map (encK tR .bool)), nv b4, .no, .no, .no, .no, .no, .no] = some (.list ((kvs.map (·.1)).map tR)) := by
      show some (PyData.list ((kvs.map (encK tR PyData.bool)).map (·.1))) = _
      rw [keysK]
    have hg : (aOf gSrt (aCons (fun ρ => ((nKeysS 3) ρ).map PyData.list) aNil)) [.v xs, .row, .v (webD w), .od true (kvs.map (encK tR .bool)), nv b4, .no, .no, .no, .no, .no, .no] = some ((sortR (kvs.map (·.1))).map tR) := c1 hkeys (srt_R _)
    refine ⟨_, tup_of hg, rfl, _, rfl, _, rfl, w_row hw (by omega) (by omega) fun cs hr hc => ?_⟩
    refine ⟨rfl, _, c1 (p := webD w) rfl (e_gLenW w), w.length, rfl, by omega, by omega, fun p h0 h1 => ?_⟩
    exact ⟨rfl, go hw hk hr (by omega) h0 h1 xs _ b4 _ hK⟩
end W

set_option Elab.async false
set_option linter.all false
set_option maxRecDepth 100000
set_option maxHeartbeats 4000000
namespace W
open PySem PySem.Spec PyProof.Rows L2 L2.P
def d_is_integer : He.DefD := ⟨("is_integer", none), "is_integer", "is_integer", defArgs s_is_integer, defBody s_is_integer, defScope s_is_integer, [], []⟩
def d_is_in : He.DefD := ⟨("is_in", none), "is_in", "is_in", defArgs s_is_in, defBody s_is_in, defScope s_is_in, [], []⟩
def d_is_list : He.DefD := ⟨("is_list", none), "is_list", "is_list", defArgs s_is_list, defBody s_is_list, defScope s_is_list, [], []⟩
def d_need_web : He.DefD := ⟨("need_web", none), "need_web", "need_web", defArgs s_need_web, defBody s_need_web, defScope s_need_web, [], []⟩
def d_is_set : He.DefD := ⟨("is_set", none), "is_set", "is_set", defArgs s_is_set, defBody s_is_set, defScope s_is_set, [], []⟩
def d_need_person : He.DefD := ⟨("need_person", none), "need_person", "need_person", defArgs s_need_person, defBody s_need_person, defScope s_need_person, [], []⟩
def d_need_calls : He.DefD := ⟨("need_calls", none), "need_calls", "need_calls", defArgs s_need_calls, defBody s_need_calls, defScope s_need_calls, [], []⟩
def d_call_in : He.DefD := ⟨("call_in", none), "call_in", "call_in", defArgs s_call_in, defBody s_call_in, defScope s_call_in, [], []⟩
def d_story_in : He.DefD := ⟨("story_in", none), "story_in", "story_in", defArgs s_story_in, defBody s_story_in, defScope s_story_in, [], []⟩
def d_need_knowledge : He.DefD := ⟨("need_knowledge", none), "need_knowledge", "need_knowledge", defArgs s_need_knowledge, defBody s_need_knowledge, defScope s_need_knowledge, [], []⟩
def d_spread_in : He.DefD := ⟨("spread_in", none), "spread_in", "spread_in", defArgs s_spread_in, defBody s_spread_in, defScope s_spread_in, [], []⟩
def d_spread : He.DefD := ⟨("spread", none), "spread", "spread", defArgs s_spread, defBody s_spread, defScope s_spread, [], []⟩
def d_watch : He.DefD := ⟨("watch", none), "watch", "watch", defArgs s_watch, defBody s_watch, defScope s_watch, [], []⟩
def d_seen_person : He.DefD := ⟨("seen_person", none), "seen_person", "seen_person", defArgs s_seen_person, defBody s_seen_person, defScope s_seen_person, [], []⟩
def d_seen_numbers : He.DefD := ⟨("seen_numbers", none), "seen_numbers", "seen_numbers", defArgs s_seen_numbers, defBody s_seen_numbers, defScope s_seen_numbers, [], []⟩
def d_seen_tallest : He.DefD := ⟨("seen_tallest", none), "seen_tallest", "seen_tallest", defArgs s_seen_tallest, defBody s_seen_tallest, defScope s_seen_tallest, [], []⟩
def d_is_told : He.DefD := ⟨("is_told", none), "is_told", "is_told", defArgs s_is_told, defBody s_is_told, defScope s_is_told, [], []⟩
def d_with_person : He.DefD := ⟨("with_person", none), "with_person", "with_person", defArgs s_with_person, defBody s_with_person, defScope s_with_person, [], []⟩
def d__law_taken : He.DefD := ⟨("_law_taken", none), "_law_taken", "_law_taken", defArgs s__law_taken, defBody s__law_taken, defScope s__law_taken, [], []⟩
def d__law_alike : He.DefD := ⟨("_law_alike", none), "_law_alike", "_law_alike", defArgs s__law_alike, defBody s__law_alike, defScope s__law_alike, [], []⟩
def d__law_by : He.DefD := ⟨("_law_by", none), "_law_by", "_law_by", defArgs s__law_by, defBody s__law_by, defScope s__law_by, [], []⟩
def d__law_web : He.DefD := ⟨("_law_web", none), "_law_web", "_law_web", defArgs s__law_web, defBody s__law_web, defScope s__law_web, [], []⟩
def d__law_row : He.DefD := ⟨("_law_row", none), "_law_row", "_law_row", defArgs s__law_row, defBody s__law_row, defScope s__law_row, [], []⟩
def d__law_up : He.DefD := ⟨("_law_up", none), "_law_up", "_law_up", defArgs s__law_up, defBody s__law_up, defScope s__law_up, [], []⟩
def d__law_call : He.DefD := ⟨("_law_call", none), "_law_call", "_law_call", defArgs s__law_call, defBody s__law_call, defScope s__law_call, [], []⟩
def d__law_done : He.DefD := ⟨("_law_done", none), "_law_done", "_law_done", defArgs s__law_done, defBody s__law_done, defScope s__law_done, [], []⟩
def d__law_parted : He.DefD := ⟨("_law_parted", none), "_law_parted", "_law_parted", defArgs s__law_parted, defBody s__law_parted, defScope s__law_parted, [], []⟩
def d_law : He.DefD := ⟨("law", none), "law", "law", defArgs s_law, defBody s_law, defScope s_law, [], []⟩
def fn : List He.DefD := [d_is_integer, d_is_in, d_is_list, d_need_web, d_is_set, d_need_person, d_need_calls, d_call_in, d_story_in, d_need_knowledge, d_spread_in, d_spread, d_watch, d_seen_person, d_seen_numbers, d_seen_tallest, d_is_told, d_with_person, d__law_taken, d__law_alike, d__law_by, d__law_web, d__law_row, d__law_up, d__law_call, d__law_done, d__law_parted, d_law]
def fa : List He.Fa := [.glo "is_integer", .glo "is_in", .glo "is_list", .glo "need_web", .glo "is_set", .glo "need_person", .glo "need_calls", .glo "call_in", .glo "story_in", .glo "need_knowledge", .glo "spread_in", .glo "spread", .glo "watch", .glo "seen_person", .glo "seen_numbers", .glo "seen_tallest", .glo "is_told", .glo "with_person", .glo "_law_taken", .glo "_law_alike", .glo "_law_by", .glo "_law_web", .glo "_law_row", .glo "_law_up", .glo "_law_call", .glo "_law_done", .glo "_law_parted", .glo "law", .free "len", .free "range", .free "tuple", .free "list", .free "sorted", .free "set", .free "any", .free "all", .free "min", .free "max", .free "sum", .free "abs", .free "int", .free "str", .free "bool", .free "isinstance", .free "enumerate", .free "zip", .int "MOST_CALLS" 60, .int "MOST_KNOWN" 128, .int "MOST_PEOPLE" 7]
def loose : List Str := (["is_integer", "is_in", "is_list", "SitError", "BadWeb", "BadPerson", "BadCalls", "BadKnowledge", "MOST_PEOPLE", "need_web", "is_set", "need_person", "MOST_CALLS", "need_calls", "call_in", "story_in", "MOST_KNOWN", "need_knowledge", "spread_in", "spread", "watch", "seen_person", "seen_numbers", "seen_tallest", "is_told", "with_person", "_law_taken", "_law_alike", "_law_by", "_law_web"] : List Str) ++ (["_law_row", "_law_up", "_law_call", "_law_done", "_law_parted"] : List Str)
def tf : List He.Defn := [("seen_numbers", none), ("seen_person", none), ("seen_tallest", none), ("law", none)]
def ex (K : PySem.W.Frag) : Bool := (mkB K "seen_numbers" && (mkB K "seen_person" && (mkB K "seen_tallest" && (mkB K "law" && tabsOkB K tf))))
theorem ex_mk_seen_numbers_ok {K : PySem.W.Frag} (h : ex K = true) : mkB K "seen_numbers" = true := (Bool.and_eq_true_iff.mp h).1
theorem ex_mk_seen_person_ok {K : PySem.W.Frag} (h : ex K = true) : mkB K "seen_person" = true := (Bool.and_eq_true_iff.mp (Bool.and_eq_true_iff.mp h).2).1
theorem ex_mk_seen_tallest_ok {K : PySem.W.Frag} (h : ex K = true) : mkB K "seen_tallest" = true := (Bool.and_eq_true_iff.mp (Bool.and_eq_true_iff.mp (Bool.and_eq_true_iff.mp h).2).2).1
theorem ex_mk_law_ok {K : PySem.W.Frag} (h : ex K = true) : mkB K "law" = true := (Bool.and_eq_true_iff.mp (Bool.and_eq_true_iff.mp (Bool.and_eq_true_iff.mp (Bool.and_eq_true_iff.mp h).2).2).2).1
theorem ex_tabs_ok {K : PySem.W.Frag} (h : ex K = true) : tabsOkB K tf = true := (Bool.and_eq_true_iff.mp (Bool.and_eq_true_iff.mp (Bool.and_eq_true_iff.mp (Bool.and_eq_true_iff.mp h).2).2).2).2
abbrev R : PySem.W.OpenRow := PySem.W.OpenLaw.row PySem.Challenge.rw_tallsits_k26_whole_unsure_people
abbrev hk : PySem.W.Hook := He.hookX 2 fa fn [] tf ex
def ob (s : PySem.W.SharedT) : He.AlX := He.obsX 2 fa fn [] tf ex (HandSHeadRun.getT s)
theorem ob_eq (s : PySem.W.SharedT) : ob s = hk.obs s.abs := He.obsX_eq (HandSHeadRun.getT_eq s)
theorem run (w : World) : HandSHeadRun.RunEq R (PySem.W.view R.prog [41]) hk ob 20000 loose w := by
  intro os
  kernel_rfl
theorem facts {P : Program} {w : World} {K : PySem.W.Frag} {h : Heap} {mg : Str → Option Value} {f : Addr} (X : K.In h) (G : h.Ns mainGlobals mg) (hfa : mg ("law" : Str) = some (.ref f)) (c : He.SaysD fa fn K) (cx : ex K = true) :
    ∃ fd : FuncData, (∀ (s : Shared) (v : Value), BindsTo s fd ⟨[v], []⟩ [("_law_script", v)]) ∧ ∀ base : Heap, K.In base → base.Ns mainGlobals mg → (∀ p ∈ tf.map (He.cT K), LamX.TabB base mg p.1 p.2) → FnOk P w K mg base CX0 10 f fd ["_law_script"] (spF K 1 (runW 11 T_law)) := by
  obtain ⟨fd, F⟩ := c.def_ 27 (d := d_law) rfl
  have e := hfa.symm.trans (He.glo_ok X G (c.fact 27 (f := .glo "law") rfl))
  cases e
  have b := FunD.bindsA (ps := ["_law_script"]) F fun _ _ _ _ _ _ us hl => match us, hl with | [_], _ => by kernel_rfl
  refine ⟨fd, fun s v => b s [v] rfl, fun base _ _ tB => ?_⟩
  have bi : Bi mg := ⟨He.free_ok X G (c.fact 28 (f := .free "len") rfl), He.free_ok X G (c.fact 29 (f := .free "range") rfl), He.free_ok X G (c.fact 30 (f := .free "tuple") rfl), He.free_ok X G (c.fact 31 (f := .free "list") rfl), He.free_ok X G (c.fact 32 (f := .free "sorted") rfl), He.free_ok X G (c.fact 33 (f := .free "set") rfl), He.free_ok X G (c.fact 34 (f := .free "any") rfl), He.free_ok X G (c.fact 35 (f := .free "all") rfl), He.free_ok X G (c.fact 36 (f := .free "min") rfl), He.free_ok X G (c.fact 37 (f := .free "max") rfl), He.free_ok X G (c.fact 38 (f := .free "sum") rfl), He.free_ok X G (c.fact 39 (f := .free "abs") rfl), He.free_ok X G (c.fact 40 (f := .free "int") rfl), He.free_ok X G (c.fact 41 (f := .free "str") rfl), He.free_ok X G (c.fact 42 (f := .free "bool") rfl), He.free_ok X G (c.fact 43 (f := .free "isinstance") rfl), He.free_ok X G (c.fact 44 (f := .free "enumerate") rfl), He.free_ok X G (c.fact 45 (f := .free "zip") rfl)⟩
  have k_MOST_CALLS := He.int_ok X G (c.fact 46 (f := .int "MOST_CALLS" 60) rfl)
  have k_MOST_KNOWN := He.int_ok X G (c.fact 47 (f := .int "MOST_KNOWN" 128) rfl)
  have k_MOST_PEOPLE := He.int_ok X G (c.fact 48 (f := .int "MOST_PEOPLE" 7) rfl)
  have c_is_integer := ok_is_integer (P := P) (w := w) (K := K) (mg := mg) (base := base) bi (by obtain ⟨fd, F⟩ := c.def_ 0 (d := d_is_integer) rfl; exact ⟨_, fd, F, He.glo_ok X G (c.fact 0 (f := .glo "is_integer") rfl)⟩)
  have c_is_in := ok_is_in (P := P) (w := w) (K := K) (mg := mg) (base := base) bi c_is_integer (by obtain ⟨fd, F⟩ := c.def_ 1 (d := d_is_in) rfl; exact ⟨_, fd, F, He.glo_ok X G (c.fact 1 (f := .glo "is_in") rfl)⟩)
  have c_is_list := ok_is_list (P := P) (w := w) (K := K) (mg := mg) (base := base) bi (by obtain ⟨fd, F⟩ := c.def_ 2 (d := d_is_list) rfl; exact ⟨_, fd, F, He.glo_ok X G (c.fact 2 (f := .glo "is_list") rfl)⟩)
  have c_need_web := ok_need_web (P := P) (w := w) (K := K) (mg := mg) (base := base) bi k_MOST_PEOPLE c_is_list c_is_in (by obtain ⟨fd, F⟩ := c.def_ 3 (d := d_need_web) rfl; exact ⟨_, fd, F, He.glo_ok X G (c.fact 3 (f := .glo "need_web") rfl)⟩)
  have c_is_set := ok_is_set (P := P) (w := w) (K := K) (mg := mg) (base := base) bi c_is_list c_is_in (by obtain ⟨fd, F⟩ := c.def_ 4 (d := d_is_set) rfl; exact ⟨_, fd, F, He.glo_ok X G (c.fact 4 (f := .glo "is_set") rfl)⟩)
  have c_need_person := ok_need_person (P := P) (w := w) (K := K) (mg := mg) (base := base) bi c_is_in (by obtain ⟨fd, F⟩ := c.def_ 5 (d := d_need_person) rfl; exact ⟨_, fd, F, He.glo_ok X G (c.fact 5 (f := .glo "need_person") rfl)⟩)
  have c_need_calls := ok_need_calls (P := P) (w := w) (K := K) (mg := mg) (base := base) bi k_MOST_CALLS c_is_list c_is_in (by obtain ⟨fd, F⟩ := c.def_ 6 (d := d_need_calls) rfl; exact ⟨_, fd, F, He.glo_ok X G (c.fact 6 (f := .glo "need_calls") rfl)⟩)
  have c_call_in := ok_call_in (P := P) (w := w) (K := K) (mg := mg) (base := base) bi (by obtain ⟨fd, F⟩ := c.def_ 7 (d := d_call_in) rfl; exact ⟨_, fd, F, He.glo_ok X G (c.fact 7 (f := .glo "call_in") rfl)⟩)
  have c_story_in := ok_story_in (P := P) (w := w) (K := K) (mg := mg) (base := base) bi c_call_in (by obtain ⟨fd, F⟩ := c.def_ 8 (d := d_story_in) rfl; exact ⟨_, fd, F, He.glo_ok X G (c.fact 8 (f := .glo "story_in") rfl)⟩)
  have c_need_knowledge := ok_need_knowledge (P := P) (w := w) (K := K) (mg := mg) (base := base) bi k_MOST_KNOWN c_need_web c_is_list c_is_set (by obtain ⟨fd, F⟩ := c.def_ 9 (d := d_need_knowledge) rfl; exact ⟨_, fd, F, He.glo_ok X G (c.fact 9 (f := .glo "need_knowledge") rfl)⟩)
  have c_spread_in := ok_spread_in (P := P) (w := w) (K := K) (mg := mg) (base := base) bi c_story_in (by obtain ⟨fd, F⟩ := c.def_ 10 (d := d_spread_in) rfl; exact ⟨_, fd, F, He.glo_ok X G (c.fact 10 (f := .glo "spread_in") rfl)⟩)
  have c_spread := ok_spread (P := P) (w := w) (K := K) (mg := mg) (base := base) bi c_need_knowledge c_need_calls c_spread_in (by obtain ⟨fd, F⟩ := c.def_ 11 (d := d_spread) rfl; exact ⟨_, fd, F, He.glo_ok X G (c.fact 11 (f := .glo "spread") rfl)⟩)
  have l_seen_numbers : lamOf K "seen_numbers" = some L_seen_numbers := by obtain ⟨fd, F⟩ := c.def_ 14 (d := d_seen_numbers) rfl; exact (lamOf_fd F (He.eqO_ok (c.fact 14 (f := .glo "seen_numbers") rfl))).trans le_seen_numbers
  have l_seen_person : lamOf K "seen_person" = some L_seen_person := by obtain ⟨fd, F⟩ := c.def_ 13 (d := d_seen_person) rfl; exact (lamOf_fd F (He.eqO_ok (c.fact 13 (f := .glo "seen_person") rfl))).trans le_seen_person
  have l_seen_tallest : lamOf K "seen_tallest" = some L_seen_tallest := by obtain ⟨fd, F⟩ := c.def_ 15 (d := d_seen_tallest) rfl; exact (lamOf_fd F (He.eqO_ok (c.fact 15 (f := .glo "seen_tallest") rfl))).trans le_seen_tallest
  have l_law0 : lamOf K "law0" = some L_law0 := by obtain ⟨fd, F⟩ := c.def_ 27 (d := d_law) rfl; exact (lamOf_law F (He.eqO_ok (c.fact 27 (f := .glo "law") rfl)) (by decide +kernel) (by decide +kernel)).trans le_law0
  have l_law1 : lamOf K "law1" = some L_law1 := by obtain ⟨fd, F⟩ := c.def_ 27 (d := d_law) rfl; exact (lamOf_law F (He.eqO_ok (c.fact 27 (f := .glo "law") rfl)) (by decide +kernel) (by decide +kernel)).trans le_law1
  have l_law2 : lamOf K "law2" = some L_law2 := by obtain ⟨fd, F⟩ := c.def_ 27 (d := d_law) rfl; exact (lamOf_law F (He.eqO_ok (c.fact 27 (f := .glo "law") rfl)) (by decide +kernel) (by decide +kernel)).trans le_law2
  have c_watch := ok_watch (P := P) (w := w) (K := K) (mg := mg) (base := base) bi c_story_in l_law0 l_law1 l_law2 l_seen_numbers l_seen_person l_seen_tallest (by obtain ⟨fd, F⟩ := c.def_ 12 (d := d_watch) rfl; exact ⟨_, fd, F, He.glo_ok X G (c.fact 12 (f := .glo "watch") rfl)⟩)
  have c_seen_person := ok_seen_person (P := P) (w := w) (K := K) (mg := mg) (base := base) bi c_need_knowledge c_need_calls c_need_person c_watch (mkB_ok (ex_mk_seen_person_ok cx) (tB (He.cT K ("seen_person", none)) (List.mem_map.mpr ⟨_, by simp [tf], rfl⟩)) l_seen_person) (by obtain ⟨fd, F⟩ := c.def_ 13 (d := d_seen_person) rfl; exact ⟨fd, F, He.glo_ok X G (c.fact 13 (f := .glo "seen_person") rfl)⟩)
  have c_seen_numbers := ok_seen_numbers (P := P) (w := w) (K := K) (mg := mg) (base := base) bi c_need_knowledge c_need_calls c_watch (mkB_ok (ex_mk_seen_numbers_ok cx) (tB (He.cT K ("seen_numbers", none)) (List.mem_map.mpr ⟨_, by simp [tf], rfl⟩)) l_seen_numbers) (by obtain ⟨fd, F⟩ := c.def_ 14 (d := d_seen_numbers) rfl; exact ⟨fd, F, He.glo_ok X G (c.fact 14 (f := .glo "seen_numbers") rfl)⟩)
  have c_seen_tallest := ok_seen_tallest (P := P) (w := w) (K := K) (mg := mg) (base := base) bi c_need_knowledge c_need_calls c_watch (mkB_ok (ex_mk_seen_tallest_ok cx) (tB (He.cT K ("seen_tallest", none)) (List.mem_map.mpr ⟨_, by simp [tf], rfl⟩)) l_seen_tallest) (by obtain ⟨fd, F⟩ := c.def_ 15 (d := d_seen_tallest) rfl; exact ⟨fd, F, He.glo_ok X G (c.fact 15 (f := .glo "seen_tallest") rfl)⟩)
  have c_is_told := ok_is_told (P := P) (w := w) (K := K) (mg := mg) (base := base) bi c_seen_person (by obtain ⟨fd, F⟩ := c.def_ 16 (d := d_is_told) rfl; exact ⟨_, fd, F, He.glo_ok X G (c.fact 16 (f := .glo "is_told") rfl)⟩)
  have c_with_person := ok_with_person (P := P) (w := w) (K := K) (mg := mg) (base := base) bi c_need_knowledge c_need_person (by obtain ⟨fd, F⟩ := c.def_ 17 (d := d_with_person) rfl; exact ⟨_, fd, F, He.glo_ok X G (c.fact 17 (f := .glo "with_person") rfl)⟩)
  have c__law_taken := ok__law_taken (P := P) (w := w) (K := K) (mg := mg) (base := base) bi (by obtain ⟨fd, F⟩ := c.def_ 18 (d := d__law_taken) rfl; exact ⟨_, fd, F, He.glo_ok X G (c.fact 18 (f := .glo "_law_taken") rfl)⟩)
  have c__law_alike := ok__law_alike (P := P) (w := w) (K := K) (mg := mg) (base := base) bi (by obtain ⟨fd, F⟩ := c.def_ 19 (d := d__law_alike) rfl; exact ⟨_, fd, F, He.glo_ok X G (c.fact 19 (f := .glo "_law_alike") rfl)⟩)
  have c__law_by := ok__law_by (P := P) (w := w) (K := K) (mg := mg) (base := base) bi (by obtain ⟨fd, F⟩ := c.def_ 20 (d := d__law_by) rfl; exact ⟨_, fd, F, He.glo_ok X G (c.fact 20 (f := .glo "_law_by") rfl)⟩)
  have c__law_web := ok__law_web (P := P) (w := w) (K := K) (mg := mg) (base := base) bi c__law_by c__law_taken (by obtain ⟨fd, F⟩ := c.def_ 21 (d := d__law_web) rfl; exact ⟨_, fd, F, He.glo_ok X G (c.fact 21 (f := .glo "_law_web") rfl)⟩)
  have c__law_row := ok__law_row (P := P) (w := w) (K := K) (mg := mg) (base := base) bi c__law_taken (by obtain ⟨fd, F⟩ := c.def_ 22 (d := d__law_row) rfl; exact ⟨_, fd, F, He.glo_ok X G (c.fact 22 (f := .glo "_law_row") rfl)⟩)
  have c__law_up := ok__law_up (P := P) (w := w) (K := K) (mg := mg) (base := base) bi c__law_taken (by obtain ⟨fd, F⟩ := c.def_ 23 (d := d__law_up) rfl; exact ⟨_, fd, F, He.glo_ok X G (c.fact 23 (f := .glo "_law_up") rfl)⟩)
  have c__law_call := ok__law_call (P := P) (w := w) (K := K) (mg := mg) (base := base) bi (by obtain ⟨fd, F⟩ := c.def_ 24 (d := d__law_call) rfl; exact ⟨_, fd, F, He.glo_ok X G (c.fact 24 (f := .glo "_law_call") rfl)⟩)
  have c__law_done := ok__law_done (P := P) (w := w) (K := K) (mg := mg) (base := base) bi c__law_call (by obtain ⟨fd, F⟩ := c.def_ 25 (d := d__law_done) rfl; exact ⟨_, fd, F, He.glo_ok X G (c.fact 25 (f := .glo "_law_done") rfl)⟩)
  have l_seen_numbers : lamOf K "seen_numbers" = some L_seen_numbers := by obtain ⟨fd, F⟩ := c.def_ 14 (d := d_seen_numbers) rfl; exact (lamOf_fd F (He.eqO_ok (c.fact 14 (f := .glo "seen_numbers") rfl))).trans le_seen_numbers
  have l_seen_person : lamOf K "seen_person" = some L_seen_person := by obtain ⟨fd, F⟩ := c.def_ 13 (d := d_seen_person) rfl; exact (lamOf_fd F (He.eqO_ok (c.fact 13 (f := .glo "seen_person") rfl))).trans le_seen_person
  have l_seen_tallest : lamOf K "seen_tallest" = some L_seen_tallest := by obtain ⟨fd, F⟩ := c.def_ 15 (d := d_seen_tallest) rfl; exact (lamOf_fd F (He.eqO_ok (c.fact 15 (f := .glo "seen_tallest") rfl))).trans le_seen_tallest
  have l_law0 : lamOf K "law0" = some L_law0 := by obtain ⟨fd, F⟩ := c.def_ 27 (d := d_law) rfl; exact (lamOf_law F (He.eqO_ok (c.fact 27 (f := .glo "law") rfl)) (by decide +kernel) (by decide +kernel)).trans le_law0
  have l_law1 : lamOf K "law1" = some L_law1 := by obtain ⟨fd, F⟩ := c.def_ 27 (d := d_law) rfl; exact (lamOf_law F (He.eqO_ok (c.fact 27 (f := .glo "law") rfl)) (by decide +kernel) (by decide +kernel)).trans le_law1
  have l_law2 : lamOf K "law2" = some L_law2 := by obtain ⟨fd, F⟩ := c.def_ 27 (d := d_law) rfl; exact (lamOf_law F (He.eqO_ok (c.fact 27 (f := .glo "law") rfl)) (by decide +kernel) (by decide +kernel)).trans le_law2
  have c__law_parted := ok__law_parted (P := P) (w := w) (K := K) (mg := mg) (base := base) bi c__law_call l_law0 l_law1 l_law2 l_seen_numbers l_seen_person l_seen_tallest (by obtain ⟨fd, F⟩ := c.def_ 26 (d := d__law_parted) rfl; exact ⟨_, fd, F, He.glo_ok X G (c.fact 26 (f := .glo "_law_parted") rfl)⟩)
  have mt : MkT K mg base "law" := mkB_okT (ex_mk_law_ok cx) (tB (He.cT K ("law", none)) (List.mem_map.mpr ⟨_, by simp [tf], rfl⟩))
  exact fn_pureWC (T := T_law) (k := 9) (N := ["_law_script", "_law_row_here", "_law_web_here", "_law_found", "_law_turn", "_law_some", "_law_calls", "_law_person", "_law_kinds", "_law_here", "_law_kind"]) F sc_law rfl (by decide) (fun A outer s H E hr => sw_law bi c__law_parted c__law_alike c__law_web c__law_row c__law_taken c_with_person c__law_up c_spread c_seen_person c_is_told c_seen_numbers c_seen_tallest c__law_done mt l_law0 l_law1 l_law2 A outer s H E _ hr)
end W
open PySem PySem.W PySem.Calls PyProof.Rows
theorem PySem.Challenge.cw_tallsits_k26_whole_unsure_people_holds : PySem.Challenge.rw_tallsits_k26_whole_unsure_people.Holds := by
  w_on; o_law
  refine HandSHeadRun.head_any (r := OpenLaw.row PySem.Challenge.rw_tallsits_k26_whole_unsure_people) (q := view (OpenLaw.row PySem.Challenge.rw_tallsits_k26_whole_unsure_people).prog [41]) (H := W.hk) (ob := W.ob) (M := 20000) (loose := W.loose) (d := HandSHeadRun.topDef (OpenLaw.row PySem.Challenge.rw_tallsits_k26_whole_unsure_people).prog 41) (kwd := []) W.ob_eq
    (by kernel_rfl) (fun s => by kernel_rfl) W.run (by kernel_rfl) (by kernel_rfl) (by kernel_rfl) (by rfl) (by first | assumption | decide +kernel) (by decide +kernel) ⟨rfl, rfl, rfl, rfl, rfl, by decide +kernel⟩ ?hw ?hc
  case hw => w_witness2
  case hc =>
    refine LamX.walk_ofTsE (l := PySem.Challenge.rw_tallsits_k26_whole_unsure_people) (n := 63) (k := 10) (x := "_law_script") (CX := fun _ => L2.CX0) rfl (by decide) (by kernel_rfl) ⟨rfl, by decide, by decide⟩ ?F (fun _ _ _ _ _ z => z)
    intro w mg fa h Y G hmg0
    obtain ⟨K, KX, c⟩ := Y
    have hmg : mg ("law" : PySem.Str) = some (.ref fa) := by
      have e : (HandSHeadRun.topDef (OpenLaw.row PySem.Challenge.rw_tallsits_k26_whole_unsure_people).prog 41).name = ("law" : PySem.Str) := by kernel_rfl
      rw [← e]
      exact hmg0
    obtain ⟨fd, hb, hF⟩ := W.facts (P := (PySem.Challenge.rw_tallsits_k26_whole_unsure_people).prog) (w := w) KX G hmg c.t.d c.more
    refine ⟨K, KX, fd, W.tf.map (He.cT K), _, fun p hp => ?_, fun p hp => ?_, fun p hp => ?_, hb, fun H a ns hl _ hT hS => ?_, hF⟩
    · obtain ⟨q, hq, rfl⟩ := List.mem_map.mp hp
      exact c.empty q hq
    · obtain ⟨q, hq, rfl⟩ := List.mem_map.mp hp
      exact c.out q hq
    · obtain ⟨q, hq, rfl⟩ := List.mem_map.mp hp
      exact PySem.W.codeHd_of_K KX (c.hd q hq)
    · exact ⟨rfl, L2.P.noTbH H, [.list (ns.map .int)], L2.P.noTbH_sub, L2.P.TbOk.start (W.ex_tabs_ok c.more) hT, .cons (.lst (L2.P.noTbH_lst hS) (L2.P.dpAll_of_ints ns)) .nil, W.law_value ns hl _ fun F' H' v _ _ _ _ _ d => L2.P.Dp.inv_bl d⟩


